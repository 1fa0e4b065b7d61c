import PyProof.Rows.All
import PySem.Challenge.RW_parcelindex_k01_error_classes
import Wide.All
import OpenK.AllK
import Wide.FinOn
import HandS.ForMost
import HandS.ForSpec
import HandS.Iter
import HandS.Conv
import HandS.Wide
import HandS.TupAny
import HandS.IsInst
import HandS.Defaults
import HandS.ExcOwn
import HandS.CallSlots
import HandS.ClsMeth
import HandS.WordsExc
import HandS.RaiseMore
import HandS.HeadEnd
import HandS.WordsDict
import HandS.Property
import HandS.SlotsOwn
import PyProof.InstNe
import HandS.HeadHook2
import HandS.TupLe
import HandS.StrSplit
import HandS.Strs
import HandS.Style
import HandS.TryOnly
import KE.KDictZip
import HandS.SortInts
import HandS.Text
import PyProof.RulesMatch
import OpenK.KMeth
import OpenK.KCls
import KE.KOpsOwn
import PyProof.AttrMiss
import PyProof.FactsAll.object_1
import KE.KCallOwn
import OpenK.KOps
import PyProof.Rows.NewExcOf
import KE.GoesMore
import KE.KSuper
import KE.KExcSuper
import HandS.NestedK
import HandS.ExcInit
import KE.KExcInit
import HandS.ExcField
import HandS.ExcIs
import HandS.MakeKw
import KE.KEqDict
import PyProof.NeData
import HandS.Star
import HandS.SetFor
import HandS.SetKeys
import PyProof.Rows.SortShellAny
import HandS.DictComp
import HandS.More
import HandS.FStr
import HandS.MakeKwOnly
import HandS.DictTup
import HandS.OwnEq
import PyProof.NeKinds
import KE.KAssignIn
import PyProof.SetRoads
import HandS.Lambda
import KE.KNest
import KE.KNestM
import HandS.EndTab
import KE.KFmtOwn
import HandS.New0
import HandS.TupMul
import KE.GoesNew
import KE.DataFind
import KE.KStateDown
import Lean
import HandS.Head0
import HandS.Head1
import HandS.Head2
import HandS.HeadHook1
set_option Elab.async false
set_option linter.all false
set_option maxRecDepth 100000
/-! DL: data by value (D), a small memory M of what is changed, readings lifted to them. -/
namespace DL
open PySem L2
abbrev Frag := PySem.W.Frag
/-- data: what is never changed stands by value; ref: a thing by its address (a def, a class, a cell of M) -/
inductive D where
  | non | bl (b : Bool) | int (i : Int) | str (x : Str) | ref (a : Addr) | ty (n : String)
  | tup (l : List D) | lst (l : List D) | dic (ks : List Key) (l : List D) | obj (C : Addr) (ks : List Str) (l : List D)
  /-- an exception that was caught -/
  | exn (C : Addr) (ks : List Str) (l : List D)
  /-- any other thing: what is true of it -/
  | oth (R : Hp → V → Prop) (mono : ∀ (F F' : Hp) (v : V), (∀ a o, F a = some o → F' a = some o) → R F v → R F' v)

/-- at a: an exception of the class at C with its dict at d -/
def cau (a C d : Addr) : HO := .ext fun h => ∃ (oe : Obj) (vs : Array Value), h.get? a = some oe ∧ oe.cls = .ref C ∧ oe.dict = some d ∧ oe.data = .fields vs
mutual
def Den (K : Frag) (F : Hp) : D → V → Prop
  | .non, v => v = .non
  | .bl b, v => v = .bl b
  | .int i, v => v = .int i
  | .str x, v => v = .str x
  | .ref a, v => v = .ref a
  | .ty n, v => v = .ty n
  | .tup l, v => ∃ a xs, v = .ref a ∧ SqT K F a xs ∧ DenL K F l xs
  | .lst l, v => ∃ a xs, v = .ref a ∧ SqL K F a xs ∧ DenL K F l xs
  | .dic ks l, v => ∃ a o xs, v = .ref a ∧ F a = some (.frz o (.dK (ks.zip xs))) ∧ ks.length = xs.length ∧ DenL K F l xs
  | .obj C ks l, v => ∃ a dx xs, v = .ref a ∧ F a = some (.ins C dx (ks.zip xs)) ∧ ks.length = xs.length ∧ DenL K F l xs
  | .exn C ks l, v => ∃ a dx xs, v = .ref a ∧ F a = some (cau a C dx) ∧ F dx = some (.xd (ks.zip xs)) ∧ ks.length = xs.length ∧ DenL K F l xs
  | .oth R _, v => (∃ a, v = .ref a) ∧ R F v
def DenL (K : Frag) (F : Hp) : List D → List V → Prop
  | [], xs => xs = []
  | d :: ds, xs => ∃ x r, xs = x :: r ∧ Den K F d x ∧ DenL K F ds r
end
/-- what stands before stands behind -/
def Ext (F F' : Hp) : Prop := ∀ a o, F a = some o → F' a = some o
theorem Ext.refl {F : Hp} : Ext F F := fun _ _ h => h
theorem Ext.trans {F G H : Hp} (a : Ext F G) (b : Ext G H) : Ext F H := fun x o h => b x o (a x o h)
theorem Ext.new {F : Hp} {p : Addr} {o : HO} (h : F p = none) : Ext F (upd F p o) := fun a u e => by
  rw [upd_ne (ne_of_none e h)]
  exact e
theorem rd_ext {F F' : Hp} {a : Addr} {u : HO} (e : Ext F F') (h : Rd F a u) : Rd F' a u := h.elim (fun h => .inl (e _ _ h)) fun ⟨o, h⟩ => .inr ⟨o, e _ _ h⟩
theorem sql_ext {K : Frag} {F F' : Hp} {a : Addr} {xs : List V} (e : Ext F F') (h : SqL K F a xs) : SqL K F' a xs := h.elim (fun h => .inl (rd_ext e h)) .inr
theorem sqt_ext {K : Frag} {F F' : Hp} {a : Addr} {xs : List V} (e : Ext F F') (h : SqT K F a xs) : SqT K F' a xs := h.elim (fun h => .inl (rd_ext e h)) .inr
mutual
theorem Den.ext {K : Frag} {F F' : Hp} (e : Ext F F') : ∀ {d : D} {v : V}, Den K F d v → Den K F' d v
  | .non, _, h => h
  | .bl _, _, h => h
  | .int _, _, h => h
  | .str _, _, h => h
  | .ref _, _, h => h
  | .ty _, _, h => h
  | .tup _, _, ⟨a, xs, h1, h2, h3⟩ => ⟨a, xs, h1, sqt_ext e h2, DenL.ext e h3⟩
  | .lst _, _, ⟨a, xs, h1, h2, h3⟩ => ⟨a, xs, h1, sql_ext e h2, DenL.ext e h3⟩
  | .dic _ _, _, ⟨a, o, xs, h1, h2, h3, h4⟩ => ⟨a, o, xs, h1, e _ _ h2, h3, DenL.ext e h4⟩
  | .obj _ _ _, _, ⟨a, dx, xs, h1, h2, h3, h4⟩ => ⟨a, dx, xs, h1, e _ _ h2, h3, DenL.ext e h4⟩
  | .exn _ _ _, _, ⟨a, dx, xs, h1, h2, h5, h3, h4⟩ => ⟨a, dx, xs, h1, e _ _ h2, e _ _ h5, h3, DenL.ext e h4⟩
  | .oth _ m, _, ⟨h1, h2⟩ => ⟨h1, m _ _ _ e h2⟩
theorem DenL.ext {K : Frag} {F F' : Hp} (e : Ext F F') : ∀ {l : List D} {xs : List V}, DenL K F l xs → DenL K F' l xs
  | [], _, h => h
  | _ :: _, _, ⟨x, r, h1, h2, h3⟩ => ⟨x, r, h1, Den.ext e h2, DenL.ext e h3⟩
end
theorem DenL.len {K : Frag} {F : Hp} : ∀ {l : List D} {xs : List V}, DenL K F l xs → l.length = xs.length
  | [], xs, h => by rw [show xs = [] from h] <;> rfl
  | _ :: _, _, ⟨_, _, h1, _, h3⟩ => by rw [h1, List.length_cons, List.length_cons, DenL.len h3]
theorem DenL.get {K : Frag} {F : Hp} : ∀ {l : List D} {xs : List V} {i : Nat} {d : D}, DenL K F l xs → l[i]? = some d → ∃ x, xs[i]? = some x ∧ Den K F d x
  | [], _, _, _, _, e => by cases e
  | _ :: _, _, 0, _, ⟨x, r, h1, h2, h3⟩, e => by subst h1; cases e; exact ⟨x, rfl, h2⟩
  | _ :: _, _, i + 1, _, ⟨x, r, h1, h2, h3⟩, e => by
    subst h1
    exact DenL.get (i := i) h3 (by simpa using e)
theorem DenL.get' {K : Frag} {F : Hp} : ∀ {l : List D} {xs : List V} {i : Nat} {x : V}, DenL K F l xs → xs[i]? = some x → ∃ d, l[i]? = some d ∧ Den K F d x
  | [], _, _, _, h, e => by rw [show _ = [] from h] at e; cases e
  | d :: _, _, 0, _, ⟨x, r, h1, h2, h3⟩, e => by subst h1; cases e; exact ⟨d, rfl, h2⟩
  | _ :: _, _, i + 1, _, ⟨x, r, h1, h2, h3⟩, e => by
    subst h1
    exact DenL.get' (i := i) h3 (by simpa using e)
theorem DenL.append {K : Frag} {F : Hp} : ∀ {l m : List D} {xs ys : List V}, DenL K F l xs → DenL K F m ys → DenL K F (l ++ m) (xs ++ ys)
  | [], _, _, _, h, g => by rw [show _ = [] from h]; exact g
  | _ :: _, _, _, _, ⟨x, r, h1, h2, h3⟩, g => by subst h1; exact ⟨x, _, rfl, h2, DenL.append h3 g⟩
theorem DenL.take {K : Frag} {F : Hp} : ∀ {l : List D} {xs : List V} (n : Nat), DenL K F l xs → DenL K F (l.take n) (xs.take n)
  | _, _, 0, _ => by simp [DenL]
  | [], _, _ + 1, h => by rw [show _ = [] from h]; simp [DenL]
  | _ :: _, _, n + 1, ⟨x, r, h1, h2, h3⟩ => by subst h1; exact ⟨x, _, rfl, h2, DenL.take n h3⟩
theorem DenL.drop {K : Frag} {F : Hp} : ∀ {l : List D} {xs : List V} (n : Nat), DenL K F l xs → DenL K F (l.drop n) (xs.drop n)
  | _, _, 0, h => h
  | [], _, _ + 1, h => by rw [show _ = [] from h]; simp [DenL]
  | _ :: _, _, n + 1, ⟨x, r, h1, h2, h3⟩ => by subst h1; exact DenL.drop n h3
theorem DenL.set {K : Frag} {F : Hp} {d : D} {x : V} (h : Den K F d x) : ∀ {l : List D} {xs : List V} (n : Nat), DenL K F l xs → DenL K F (l.set n d) (xs.set n x)
  | [], _, _, h => by rw [show _ = [] from h]; simp [DenL]
  | _ :: _, _, 0, ⟨x, r, h1, h2, h3⟩ => by subst h1; exact ⟨_, _, rfl, h, h3⟩
  | _ :: _, _, n + 1, ⟨x, r, h1, h2, h3⟩ => by subst h1; exact ⟨_, _, rfl, h2, DenL.set h n h3⟩
theorem DenL.reverse {K : Frag} {F : Hp} : ∀ {l : List D} {xs : List V}, DenL K F l xs → DenL K F l.reverse xs.reverse
  | [], _, h => by rw [show _ = [] from h]; exact rfl
  | _ :: _, _, ⟨x, r, h1, h2, h3⟩ => by
    subst h1
    rw [List.reverse_cons, List.reverse_cons]
    exact (DenL.reverse h3).append ⟨x, [], rfl, h2, rfl⟩
theorem DenL.one {K : Frag} {F : Hp} {d : D} {x : V} (h : Den K F d x) : DenL K F [d] [x] := ⟨x, [], rfl, h, rfl⟩
theorem DenL.ofMap {K : Frag} {F : Hp} {α : Type} {f : α → D} {g : α → V} (h : ∀ x, Den K F (f x) (g x)) : ∀ l : List α, DenL K F (l.map f) (l.map g)
  | [] => rfl
  | x :: r => ⟨_, _, rfl, h x, DenL.ofMap h r⟩
theorem DenL.toMap {K : Frag} {F : Hp} {α : Type} {f : α → D} {g : α → V} (h : ∀ x v, Den K F (f x) v → v = g x) : ∀ (l : List α) {xs : List V}, DenL K F (l.map f) xs → xs = l.map g
  | [], _, e => e
  | x :: r, _, ⟨y, ys, h1, h2, h3⟩ => by rw [h1, h x y h2, DenL.toMap h r h3]; rfl

/-! ### the memory -/
inductive MB where
  | lst (l : List D) | dic (kvs : List (Key × D)) | ins (C : Addr) (fs : List (Str × D))
  /-- a dict that is locked: its very object and values -/
  | lk (kvs : List (Key × D)) (o : Obj) (xs : List (Key × V))
  /-- any other thing that is changed: what is true of it -/
  | oth (R : Hp → HO → Prop) (mono : ∀ F F' ho, Ext F F' → R F ho → R F' ho) (nx : ∀ F ho, R F ho → ∀ fs, ho ≠ .xd fs)
/-- a cell holds something of which φ is told -/
abbrev Mem := Addr → Option (MB → Prop)
def DenP (K : Frag) (F : Hp) {κ : Type} (l : List (κ × D)) (xs : List (κ × V)) : Prop := l.map (·.1) = xs.map (·.1) ∧ DenL K F (l.map (·.2)) (xs.map (·.2))
def DenB (K : Frag) (F : Hp) : MB → HO → Prop
  | .lst l, ho => ∃ xs, ho = .lst xs ∧ DenL K F l xs
  | .dic kvs, ho => ∃ xs, ho = .dK xs ∧ DenP K F kvs xs
  | .ins C fs, ho => ∃ dx xs, ho = .ins C dx xs ∧ DenP K F fs xs
  | .lk kvs o xs, ho => ho = .frz o (.dK xs) ∧ DenP K F kvs xs
  | .oth R _ _, ho => R F ho
def DenM (K : Frag) (F : Hp) (φ : MB → Prop) (ho : HO) : Prop := ∃ mb, φ mb ∧ DenB K F mb ho
theorem DenB.ext {K : Frag} {F F' : Hp} (e : Ext F F') {mb : MB} {ho : HO} (h : DenB K F mb ho) : DenB K F' mb ho := by
  cases mb with
  | lst l => obtain ⟨xs, h1, h2⟩ := h; exact ⟨xs, h1, h2.ext e⟩
  | dic kvs => obtain ⟨xs, h1, h2, h3⟩ := h; exact ⟨xs, h1, h2, h3.ext e⟩
  | ins C fs => obtain ⟨dx, xs, h1, h2, h3⟩ := h; exact ⟨dx, xs, h1, h2, h3.ext e⟩
  | lk kvs o xs => obtain ⟨h1, h2, h3⟩ := h; exact ⟨h1, h2, h3.ext e⟩
  | oth R m _ => exact m _ _ _ e h
def mset (M : Mem) (a : Addr) (φ : MB → Prop) : Mem := fun b => if b = a then some φ else M b
def mdel (M : Mem) (a : Addr) : Mem := fun b => if b = a then none else M b
theorem mset_same {M : Mem} {a : Addr} {φ : MB → Prop} : mset M a φ a = some φ := if_pos rfl
theorem mset_ne {M : Mem} {a b : Addr} {φ : MB → Prop} (h : b ≠ a) : mset M a φ b = M b := if_neg h
theorem mdel_ne {M : Mem} {a b : Addr} (h : b ≠ a) : mdel M a b = M b := if_neg h
theorem mset_mset {M : Mem} {a : Addr} {φ ψ : MB → Prop} : mset (mset M a φ) a ψ = mset M a ψ := by
  funext b; unfold mset; split <;> rfl
theorem ne_mem {M : Mem} {a b : Addr} {φ : MB → Prop} (h : M a = some φ) (h' : M b = none) : a ≠ b := fun e => by subst e; rw [h] at h'; cases h'
/-- F: what is never changed; H has it and the cells; G: what stands aside -/
structure Sat (K : Frag) (F : Hp) (M : Mem) (G : Hp) (H : Hp) : Prop where
  sub : Ext F H
  dis : ∀ a φ, M a = some φ → F a = none
  mem : ∀ a φ, M a = some φ → ∃ ho, H a = some ho ∧ DenM K F φ ho
  fr : ∀ a o, G a = some o → H a = some o ∧ F a = none ∧ M a = none
theorem Sat.freshF {K : Frag} {F G : Hp} {M : Mem} {H : Hp} (s : Sat K F M G H) {p : Addr} (h : H p = none) : F p = none := by
  cases e : F p with
  | none => rfl
  | some o => rw [s.sub p o e] at h; cases h
theorem Sat.freshM {K : Frag} {F G : Hp} {M : Mem} {H : Hp} (s : Sat K F M G H) {p : Addr} (h : H p = none) : M p = none := by
  cases e : M p with
  | none => rfl
  | some o => obtain ⟨ho, h1, _⟩ := s.mem p o e; rw [h1] at h; cases h
/-- a new object that is never changed -/
theorem Sat.new {K : Frag} {F G : Hp} {M : Mem} {H : Hp} (s : Sat K F M G H) {p : Addr} {o : HO} (h : H p = none) : Sat K (upd F p o) M G (upd H p o) where
  sub := fun a u e => by
    by_cases q : a = p
    · subst q; rw [upd_same] at e ⊢; exact e
    · rw [upd_ne q] at e ⊢; exact s.sub a u e
  dis := fun a φ e => by
    rw [upd_ne (ne_mem e (s.freshM h))]
    exact s.dis a φ e
  mem := fun a φ e => by
    obtain ⟨ho, h1, mb, h2, h3⟩ := s.mem a φ e
    refine ⟨ho, ?_, mb, h2, h3.ext (Ext.new (s.freshF h))⟩
    rw [upd_ne (ne_of_none h1 h)]
    exact h1
  fr := fun a u e => by
    obtain ⟨g1, g2, g3⟩ := s.fr a u e
    have z := ne_of_none g1 h
    rw [upd_ne z, upd_ne z]
    exact ⟨g1, g2, g3⟩
/-- a new cell -/
theorem Sat.cell {K : Frag} {F G : Hp} {M : Mem} {H : Hp} (s : Sat K F M G H) {p : Addr} {o : HO} {φ : MB → Prop} (h : H p = none) (q : DenM K F φ o) : Sat K F (mset M p φ) G (upd H p o) where
  sub := fun a u e => by
    rw [upd_ne (ne_of_none e (s.freshF h))]
    exact s.sub a u e
  dis := fun a ψ e => by
    by_cases z : a = p
    · subst z; exact s.freshF h
    · rw [mset_ne z] at e; exact s.dis a ψ e
  mem := fun a ψ e => by
    by_cases z : a = p
    · subst z; rw [mset_same] at e; cases e; exact ⟨o, upd_same, q⟩
    · rw [mset_ne z] at e
      obtain ⟨ho, h1, h2⟩ := s.mem a ψ e
      exact ⟨ho, by rw [upd_ne z]; exact h1, h2⟩
  fr := fun a u e => by
    obtain ⟨g1, g2, g3⟩ := s.fr a u e
    have z := ne_of_none g1 h
    rw [upd_ne z, mset_ne z]
    exact ⟨g1, g2, g3⟩
/-- a cell is written -/
theorem Sat.write {K : Frag} {F G : Hp} {M : Mem} {H : Hp} (s : Sat K F M G H) {p : Addr} {o : HO} {φ ψ : MB → Prop} (h : M p = some φ) (q : DenM K F ψ o) : Sat K F (mset M p ψ) G (upd H p o) where
  sub := fun a u e => by
    have z : a ≠ p := fun z => by subst z; rw [s.dis a φ h] at e; cases e
    rw [upd_ne z]
    exact s.sub a u e
  dis := fun a χ e => by
    by_cases z : a = p
    · subst z; exact s.dis a φ h
    · rw [mset_ne z] at e; exact s.dis a χ e
  mem := fun a χ e => by
    by_cases z : a = p
    · subst z; rw [mset_same] at e; cases e; exact ⟨o, upd_same, q⟩
    · rw [mset_ne z] at e
      obtain ⟨ho, h1, h2⟩ := s.mem a χ e
      exact ⟨ho, by rw [upd_ne z]; exact h1, h2⟩
  fr := fun a u e => by
    obtain ⟨g1, g2, g3⟩ := s.fr a u e
    have z : a ≠ p := fun z => by subst z; rw [h] at g3; cases g3
    rw [upd_ne z, mset_ne z]
    exact ⟨g1, g2, g3⟩
/-- more is told of a cell -/
theorem Sat.tell {K : Frag} {F G : Hp} {M : Mem} {H : Hp} (s : Sat K F M G H) {p : Addr} {φ : MB → Prop} (h : M p = some φ) : ∃ mb ho, φ mb ∧ H p = some ho ∧ DenB K F mb ho ∧ Sat K F (mset M p (· = mb)) G H := by
  obtain ⟨ho, h1, mb, h2, h3⟩ := s.mem p φ h
  refine ⟨mb, ho, h2, h1, h3, s.sub, fun a χ e => ?_, fun a χ e => ?_, fun a u e => ?_⟩
  · by_cases z : a = p
    · subst z; exact s.dis a φ h
    · rw [mset_ne z] at e; exact s.dis a χ e
  · by_cases z : a = p
    · subst z; rw [mset_same] at e; cases e; exact ⟨ho, h1, mb, rfl, h3⟩
    · rw [mset_ne z] at e; exact s.mem a χ e
  · obtain ⟨g1, g2, g3⟩ := s.fr a u e
    have z : a ≠ p := fun z => by subst z; rw [h] at g3; cases g3
    rw [mset_ne z]
    exact ⟨g1, g2, g3⟩
theorem Sat.less {K : Frag} {F G : Hp} {M M' : Mem} {H : Hp} (s : Sat K F M G H) (h : ∀ a ψ, M' a = some ψ → ∃ φ, M a = some φ ∧ ∀ mb, φ mb → ψ mb) : Sat K F M' G H :=
  ⟨s.sub, fun a ψ e => let ⟨φ, e', _⟩ := h a ψ e; s.dis a φ e', fun a ψ e => let ⟨φ, e', k⟩ := h a ψ e; let ⟨ho, h1, mb, h2, h3⟩ := s.mem a φ e'; ⟨ho, h1, mb, k mb h2, h3⟩, fun a u e => let ⟨g1, g2, g3⟩ := s.fr a u e; ⟨g1, g2, by
    cases q : M' a with
    | none => rfl
    | some ψ => obtain ⟨φ, e', _⟩ := h a ψ q; rw [g3] at e'; cases e'⟩⟩
/-- a cell that holds a list is never changed from now on -/
theorem Sat.freeze {K : Frag} {F G : Hp} {M : Mem} {H : Hp} {p : Addr} {ds : List D} (s : Sat K F M G H) (h : M p = some (· = .lst ds)) : ∃ F', Ext F F' ∧ Sat K F' (mdel M p) G H ∧ Den K F' (.lst ds) (.ref p) := by
  obtain ⟨ho, h1, mb, h2, h3⟩ := s.mem p _ h
  subst h2
  obtain ⟨xs, rfl, h4⟩ := h3
  have fp := s.dis p _ h
  have ex : Ext F (upd F p (.lst xs)) := Ext.new fp
  refine ⟨upd F p (.lst xs), ex, ⟨fun a u e => ?_, fun a φ e => ?_, fun a φ e => ?_, fun a u e => ?_⟩, p, xs, rfl, SqL.of upd_same, h4.ext ex⟩
  · by_cases z : a = p
    · subst z; rw [upd_same] at e; cases e; exact h1
    · rw [upd_ne z] at e; exact s.sub a u e
  · by_cases z : a = p
    · subst z; unfold mdel at e; rw [if_pos rfl] at e; cases e
    · rw [mdel_ne z] at e; rw [upd_ne z]; exact s.dis a φ e
  · by_cases z : a = p
    · subst z; unfold mdel at e; rw [if_pos rfl] at e; cases e
    · rw [mdel_ne z] at e
      obtain ⟨ho, g1, mb, g2, g3⟩ := s.mem a φ e
      exact ⟨ho, g1, mb, g2, g3.ext ex⟩
  · obtain ⟨g1, g2, g3⟩ := s.fr a u e
    have z : a ≠ p := fun z => by subst z; rw [h] at g3; cases g3
    rw [upd_ne z, mdel_ne z]
    exact ⟨g1, g2, g3⟩
/-- another thing is put aside, or less of it is told -/
theorem Sat.aside {K : Frag} {F G G' : Hp} {M : Mem} {H : Hp} (s : Sat K F M G H) (h : ∀ a o, G' a = some o → G a = some o) : Sat K F M G' H := ⟨s.sub, s.dis, s.mem, fun a o e => s.fr a o (h a o e)⟩
theorem Sat.put {K : Frag} {F G : Hp} {M : Mem} {H : Hp} (s : Sat K F M G H) {p : Addr} {o : HO} (h : H p = none) : Sat K F M (upd G p o) (upd H p o) where
  sub := fun a u e => by
    rw [upd_ne (ne_of_none e (s.freshF h))]
    exact s.sub a u e
  dis := s.dis
  mem := fun a ψ e => by
    obtain ⟨ho, h1, h2⟩ := s.mem a ψ e
    exact ⟨ho, by rw [upd_ne (ne_of_none h1 h)]; exact h1, h2⟩
  fr := fun a u e => by
    by_cases z : a = p
    · subst z; rw [upd_same] at e ⊢; exact ⟨e, s.freshF h, s.freshM h⟩
    · rw [upd_ne z] at e ⊢; exact s.fr a u e
theorem Sat.reput {K : Frag} {F G : Hp} {M : Mem} {H : Hp} {p : Addr} {o u : HO} (s : Sat K F M (upd G p u) H) : Sat K F M (upd G p o) (upd H p o) where
  sub := fun a v e => by
    have z : a ≠ p := fun z => by
      subst z
      have := (s.fr a u upd_same).2.1
      rw [this] at e; cases e
    rw [upd_ne z]
    exact s.sub a v e
  dis := s.dis
  mem := fun a ψ e => by
    obtain ⟨ho, h1, h2⟩ := s.mem a ψ e
    have z : a ≠ p := fun z => by
      subst z
      have := (s.fr a u upd_same).2.2
      rw [this] at e; cases e
    exact ⟨ho, by rw [upd_ne z]; exact h1, h2⟩
  fr := fun a v e => by
    by_cases z : a = p
    · subst z; rw [upd_same] at e ⊢; exact ⟨e, (s.fr a u upd_same).2⟩
    · rw [upd_ne z] at e ⊢; exact s.fr a v (by rw [upd_ne z]; exact e)
/-- what stood aside is never changed from now on -/
theorem Sat.settle {K : Frag} {F G : Hp} {M : Mem} {H : Hp} {p : Addr} {o : HO} (s : Sat K F M (upd G p o) H) (hg : G p = none) : Ext F (upd F p o) ∧ Sat K (upd F p o) M G H := by
  obtain ⟨h1, h2, h3⟩ := s.fr p o upd_same
  have ex : Ext F (upd F p o) := Ext.new h2
  refine ⟨ex, fun a u e => ?_, fun a φ e => ?_, fun a φ e => ?_, fun a u e => ?_⟩
  · by_cases z : a = p
    · subst z; rw [upd_same] at e; cases e; exact h1
    · rw [upd_ne z] at e; exact s.sub a u e
  · rw [upd_ne (ne_mem e h3)]; exact s.dis a φ e
  · obtain ⟨ho, g1, mb, g2, g3⟩ := s.mem a φ e
    exact ⟨ho, g1, mb, g2, g3.ext ex⟩
  · have z : a ≠ p := ne_of_none e hg
    rw [upd_ne z]
    exact s.fr a u (by rw [upd_ne z]; exact e)
theorem Sat.freshG {K : Frag} {F G : Hp} {M : Mem} {H : Hp} (s : Sat K F M G H) {p : Addr} (h : H p = none) : G p = none := by
  cases e : G p with
  | none => rfl
  | some o => rw [(s.fr p o e).1] at h; cases h
theorem aside_upd {G : Hp} {p : Addr} {o : HO} (h : G p = none) : ∀ a u, G a = some u → upd G p o a = some u := fun a u e => by
  rw [upd_ne (ne_of_none e h)]
  exact e

/-! ### readings over data -/
abbrev DE := List (Option D)
structure EnvOk (K : Frag) (F : Hp) (δ : DE) (σ : St) : Prop where
  len : δ.length = σ.length
  at_ : ∀ (i : Nat) (d : D), δ[i]? = some (some d) → ∃ v : V, σ[i]? = some (some v) ∧ Den K F d v
theorem EnvOk.ext {K : Frag} {F F' : Hp} {δ : DE} {σ : St} (h : EnvOk K F δ σ) (e : Ext F F') : EnvOk K F' δ σ := ⟨h.len, fun i d q => let ⟨v, a, b⟩ := h.at_ i d q; ⟨v, a, b.ext e⟩⟩
theorem EnvOk.set {K : Frag} {F : Hp} {δ : DE} {σ : St} (h : EnvOk K F δ σ) {i : Nat} {d : D} {v : V} (q : Den K F d v) : EnvOk K F (δ.set i (some d)) (σ.set i (some v)) := by
  refine ⟨by rw [List.length_set, List.length_set, h.len], fun j d' e => ?_⟩
  by_cases z : i = j
  · subst z
    by_cases l : i < δ.length
    · rw [List.getElem?_set_self l] at e
      cases e
      exact ⟨v, by rw [List.getElem?_set_self (by rw [← h.len]; exact l)], q⟩
    · rw [List.getElem?_eq_none (by rw [List.length_set]; omega)] at e
      cases e
  · rw [List.getElem?_set_ne z] at e ⊢
    exact h.at_ j d' e
abbrev WK := D → Mem → Prop
abbrev WE := DE → Mem → WK → Prop
abbrev WT := DE → Mem → (Bool → Mem → Prop) → Prop
abbrev WA := DE → Mem → (List D → Mem → Prop) → Prop
structure WEnds where
  nx : DE → Mem → Prop
  rt : WK
  bk : DE → Mem → Prop := fun _ _ => False
  ct : DE → Mem → Prop := fun _ _ => False
abbrev WS := WEnds → DE → Mem → Prop
/-- an exception of a class of one's own: its class, its fields -/
structure Exn where
  cls : Addr
  ks : List Str
  fs : List D
abbrev WX := Exn → Mem → Prop
/-- what is wanted of exceptions, lifted: at one state of the slots -/
def EOk1 (K : Frag) (F G : Hp) (Ξ : WX) (E : XK) : Prop := ∀ (x : Exn) (M : Mem) (F' H : Hp) (dx : Addr) (xs : List V), Ξ x M → Ext F F' → Sat K F' M G H → H dx = some (.xd (x.ks.zip xs)) → G dx = none → x.ks.length = xs.length → DenL K F' x.fs xs → E (.ref x.cls) (some dx) H
theorem EOk1.ext {K : Frag} {F F' G : Hp} {Ξ : WX} {E : XK} (h : EOk1 K F G Ξ E) (e : Ext F F') : EOk1 K F' G Ξ E := fun x M F2 H dx xs q y => h x M F2 H dx xs q (e.trans y)
theorem EOk1.aside {K : Frag} {F G G' : Hp} {Ξ : WX} {E : XK} (h : EOk1 K F G Ξ E) (e : ∀ a o, G a = some o → G' a = some o) : EOk1 K F G' Ξ E := fun x M F2 H dx xs q y s h1 h2 => h x M F2 H dx xs q y (s.aside e) h1 (by
  cases z : G dx with
  | none => rfl
  | some o => rw [e _ _ z] at h2; cases h2)
theorem EOk1.none {K : Frag} {F G : Hp} {E : XK} : EOk1 K F G (fun _ _ => False) E := fun _ _ _ _ _ _ h => h.elim
/-- the same, by the slots -/
abbrev XS := L2.St → XK
abbrev DX := DE → WX
abbrev kE (E : XK) : XS := fun _ => E
abbrev kX (Ξ : WX) : DX := fun _ => Ξ
def EOk (K : Frag) (F G : Hp) (Ξ : DX) (E : XS) : Prop := ∀ (δ : DE) (σ : L2.St) (F' : Hp), Ext F F' → EnvOk K F' δ σ → EOk1 K F' G (Ξ δ) (E σ)
theorem EOk.ext {K : Frag} {F F' G : Hp} {Ξ : DX} {E : XS} (h : EOk K F G Ξ E) (e : Ext F F') : EOk K F' G Ξ E := fun δ σ F2 y => h δ σ F2 (e.trans y)
theorem EOk.aside {K : Frag} {F G G' : Hp} {Ξ : DX} {E : XS} (h : EOk K F G Ξ E) (e : ∀ a o, G a = some o → G' a = some o) : EOk K F G' Ξ E := fun δ σ F2 y z => (h δ σ F2 y z).aside e
theorem EOk.none {K : Frag} {F G : Hp} {E : XS} : EOk K F G (fun _ _ _ => False) E := fun _ _ _ _ _ => EOk1.none
theorem EOk.at {K : Frag} {F G : Hp} {Ξ : DX} {E : XS} {δ : DE} {σ : L2.St} (h : EOk K F G Ξ E) (e : EnvOk K F δ σ) : EOk1 K F G (Ξ δ) (E σ) := h δ σ F Ext.refl e
theorem EOk1.k {K : Frag} {F G : Hp} {Ξ : WX} {E : XK} (h : EOk1 K F G Ξ E) : EOk K F G (kX Ξ) (kE E) := fun _ _ _ y _ => h.ext y
/-- lifting: an expression's, a test's, an argument list's reading -/
class LfE (K : Frag) (E : XS) (Ξ : DX) (t : TE) (W : outParam WE) : Prop where
  run : ∀ {δ : DE} {M : Mem} {Q : WK}, W δ M Q → ∀ {σ : St} {F G H : Hp}, EnvOk K F δ σ → Sat K F M G H → EOk K F G Ξ E → ∀ {R : VK}, (∀ d M' v F' H', Q d M' → Ext F F' → Sat K F' M' G H' → Den K F' d v → R v H') → t σ H R
class LfT (K : Frag) (E : XS) (Ξ : DX) (t : TT) (W : outParam WT) : Prop where
  run : ∀ {δ : DE} {M : Mem} {Q : Bool → Mem → Prop}, W δ M Q → ∀ {σ : St} {F G H : Hp}, EnvOk K F δ σ → Sat K F M G H → EOk K F G Ξ E → ∀ {R : Bool → Hp → Prop}, (∀ b M' F' H', Q b M' → Ext F F' → Sat K F' M' G H' → R b H') → t σ H R
class LfA (K : Frag) (E : XS) (Ξ : DX) (t : TA) (W : outParam WA) : Prop where
  run : ∀ {δ : DE} {M : Mem} {Q : List D → Mem → Prop}, W δ M Q → ∀ {σ : St} {F G H : Hp}, EnvOk K F δ σ → Sat K F M G H → EOk K F G Ξ E → ∀ {R : List V → Hp → Prop}, (∀ ds M' vs F' H', Q ds M' → Ext F F' → Sat K F' M' G H' → DenL K F' ds vs → R vs H') → t σ H R
/-- what is wanted behind a statement, lifted -/
structure EndsOk (K : Frag) (F G : Hp) (D : WEnds) (E : Ends) : Prop where
  nx : ∀ δ M σ F' H, D.nx δ M → Ext F F' → EnvOk K F' δ σ → Sat K F' M G H → E.nx σ H
  rt : ∀ d M v F' H, D.rt d M → Ext F F' → Sat K F' M G H → Den K F' d v → E.rt v H
  bk : ∀ δ M σ F' H, D.bk δ M → Ext F F' → EnvOk K F' δ σ → Sat K F' M G H → E.bk σ H
  ct : ∀ δ M σ F' H, D.ct δ M → Ext F F' → EnvOk K F' δ σ → Sat K F' M G H → E.ct σ H
theorem EndsOk.ext {K : Frag} {F F' G : Hp} {D : WEnds} {E : Ends} (h : EndsOk K F G D E) (e : Ext F F') : EndsOk K F' G D E :=
  ⟨fun δ M σ F2 H q x => h.nx δ M σ F2 H q (e.trans x), fun d M v F2 H q x => h.rt d M v F2 H q (e.trans x), fun δ M σ F2 H q x => h.bk δ M σ F2 H q (e.trans x), fun δ M σ F2 H q x => h.ct δ M σ F2 H q (e.trans x)⟩
class LfS (K : Frag) (E : XS) (Ξ : DX) (t : TS) (W : outParam WS) : Prop where
  run : ∀ {D : WEnds} {δ : DE} {M : Mem}, W D δ M → ∀ {σ : St} {F G H : Hp} {N : Ends}, EnvOk K F δ σ → Sat K F M G H → EOk K F G Ξ E → EndsOk K F G D N → t N σ H

section
variable {K : Frag} {E : XS} {Ξ : DX} {ta tb te : TE} {wa wb we : WE} {t u c : TT} {wt wu wc : WT} {tl : TA} {wl : WA} {ts us : TS} {ws wr : WS}
/-! ### names, constants -/
def wVar (i : Nat) (δ : DE) (M : Mem) (Q : WK) : Prop := ∃ d, δ[i]? = some (some d) ∧ Q d M
instance lf_var {i : Nat} : LfE K E Ξ (tVar i) (wVar i) := ⟨fun {δ M Q} ⟨d, h, q⟩ {σ F G H} e s o {R} k =>
  let ⟨v, a, b⟩ := e.at_ i d h
  ⟨v, a, k d M v F H q Ext.refl s b⟩⟩
def dV : V → D
  | .non => .non
  | .bl b => .bl b
  | .int i => .int i
  | .str x => .str x
  | .ref a => .ref a
  | .ty n => .ty n
  | _ => .non
def okV : V → Bool
  | .byt _ => false
  | .flt _ => false
  | _ => true
def wC (d : D) (_ : DE) (M : Mem) (Q : WK) : Prop := Q d M
instance lf_cn : LfE K E Ξ (tC .non) (wC .non) := ⟨fun {_ _ _} q {_ F G H} _ s _ {_} k => k _ _ _ F H q Ext.refl s rfl⟩
instance lf_cb {b : Bool} : LfE K E Ξ (tC (.bl b)) (wC (.bl b)) := ⟨fun {_ _ _} q {_ F G H} _ s _ {_} k => k _ _ _ F H q Ext.refl s rfl⟩
instance lf_ci {i : Int} : LfE K E Ξ (tC (.int i)) (wC (.int i)) := ⟨fun {_ _ _} q {_ F G H} _ s _ {_} k => k _ _ _ F H q Ext.refl s rfl⟩
instance lf_cs {x : Str} : LfE K E Ξ (tC (.str x)) (wC (.str x)) := ⟨fun {_ _ _} q {_ F G H} _ s _ {_} k => k _ _ _ F H q Ext.refl s rfl⟩
instance lf_cr {a : Addr} : LfE K E Ξ (tC (.ref a)) (wC (.ref a)) := ⟨fun {_ _ _} q {_ F G H} _ s _ {_} k => k _ _ _ F H q Ext.refl s rfl⟩
instance lf_ct {n : String} : LfE K E Ξ (tC (.ty n)) (wC (.ty n)) := ⟨fun {_ _ _} q {_ F G H} _ s _ {_} k => k _ _ _ F H q Ext.refl s rfl⟩

/-! ### operators: by values -/
abbrev WR2 := D → D → Mem → WK → Prop
class LfR (K : Frag) (E : XS) (Ξ : DX) (r : R2) (w : outParam WR2) : Prop where
  run : ∀ {x y : D} {M : Mem} {Q : WK}, w x y M Q → ∀ {F G H : Hp} {v u : V}, Sat K F M G H → EOk K F G Ξ E → Den K F x v → Den K F y u → ∀ {R : VK}, (∀ d M' v F' H', Q d M' → Ext F F' → Sat K F' M' G H' → Den K F' d v → R v H') → r v u H R
def wOp (r : WR2) (wa wb : WE) (δ : DE) (M : Mem) (Q : WK) : Prop := wa δ M fun x M1 => wb δ M1 fun y M2 => r x y M2 Q
instance lf_op {r : R2} {w : WR2} [a : LfE K E Ξ ta wa] [b : LfE K E Ξ tb wb] [l : LfR K E Ξ r w] : LfE K E Ξ (tOp r ta tb) (wOp w wa wb) := ⟨fun {δ M Q} h {σ F G H} e s o {R} k =>
  a.run h e s o fun x M1 v F1 H1 h1 x1 s1 d1 => b.run h1 (e.ext x1) s1 (o.ext x1) fun y M2 u F2 H2 h2 x2 s2 d2 =>
    l.run h2 s2 ((o.ext x1).ext x2) (d1.ext x2) d2 fun d M3 z F3 H3 h3 x3 s3 d3 => k d M3 z F3 H3 h3 ((x1.trans x2).trans x3) s3 d3⟩
def wUn (r : D → Mem → WK → Prop) (wa : WE) (δ : DE) (M : Mem) (Q : WK) : Prop := wa δ M fun x M1 => r x M1 Q
class LfU (K : Frag) (E : XS) (Ξ : DX) (r : V → Hp → VK → Prop) (w : outParam (D → Mem → WK → Prop)) : Prop where
  run : ∀ {x : D} {M : Mem} {Q : WK}, w x M Q → ∀ {F G H : Hp} {v : V}, Sat K F M G H → EOk K F G Ξ E → Den K F x v → ∀ {R : VK}, (∀ d M' v F' H', Q d M' → Ext F F' → Sat K F' M' G H' → Den K F' d v → R v H') → r v H R
instance lf_un {r : V → Hp → VK → Prop} {w : D → Mem → WK → Prop} [a : LfE K E Ξ ta wa] [l : LfU K E Ξ r w] : LfE K E Ξ (tUn r ta) (wUn w wa) := ⟨fun {δ M Q} h {σ F G H} e s o {R} k =>
  a.run h e s o fun x M1 v F1 H1 h1 x1 s1 d1 => l.run h1 s1 (o.ext x1) d1 fun d M3 z F3 H3 h3 x3 s3 d3 => k d M3 z F3 H3 h3 (x1.trans x3) s3 d3⟩

/-! ### arguments, displays -/
def wNil (_ : DE) (M : Mem) (Q : List D → Mem → Prop) : Prop := Q [] M
def wCons (we : WE) (wl : WA) (δ : DE) (M : Mem) (Q : List D → Mem → Prop) : Prop := we δ M fun x M1 => wl δ M1 fun xs M2 => Q (x :: xs) M2
instance lf_nil : LfA K E Ξ tNil wNil := ⟨fun {_ _ _} q {_ F G H} _ s _ {_} k => k _ _ _ F H q Ext.refl s rfl⟩
instance lf_cons [a : LfE K E Ξ te we] [b : LfA K E Ξ tl wl] : LfA K E Ξ (tCons te tl) (wCons we wl) := ⟨fun {δ M Q} h {σ F G H} e s o {R} k =>
  a.run h e s o fun x M1 v F1 H1 h1 x1 s1 d1 => b.run h1 (e.ext x1) s1 (o.ext x1) fun xs M2 vs F2 H2 h2 x2 s2 d2 => k _ M2 _ F2 H2 h2 (x1.trans x2) s2 ⟨v, vs, rfl, d1.ext x2, d2⟩⟩
def wTup (wl : WA) (δ : DE) (M : Mem) (Q : WK) : Prop := wl δ M fun xs M1 => xs.length ≤ sizeLine ∧ Q (.tup xs) M1
instance lf_tup [a : LfA K E Ξ tl wl] : LfE K E Ξ (tTup tl) (wTup wl) := ⟨fun {δ M Q} h {σ F G H} e s o {R} k =>
  a.run h e s o fun xs M1 vs F1 H1 ⟨hz, h1⟩ x1 s1 d1 => ⟨by rw [← d1.len]; exact hz, fun p np =>
    k _ M1 _ (upd F1 p (.tup vs)) _ h1 (x1.trans (Ext.new (s1.freshF np))) (s1.new np) ⟨p, vs, rfl, SqT.of upd_same, d1.ext (Ext.new (s1.freshF np))⟩⟩⟩
def wLst (wl : WA) (δ : DE) (M : Mem) (Q : WK) : Prop := wl δ M fun xs M1 => xs.length ≤ sizeLine ∧ Q (.lst xs) M1
instance lf_lst [a : LfA K E Ξ tl wl] : LfE K E Ξ (tLst tl) (wLst wl) := ⟨fun {δ M Q} h {σ F G H} e s o {R} k =>
  a.run h e s o fun xs M1 vs F1 H1 ⟨hz, h1⟩ x1 s1 d1 => ⟨by rw [← d1.len]; exact hz, fun p np =>
    k _ M1 _ (upd F1 p (.lst vs)) _ h1 (x1.trans (Ext.new (s1.freshF np))) (s1.new np) ⟨p, vs, rfl, SqL.of upd_same, d1.ext (Ext.new (s1.freshF np))⟩⟩⟩
/-- the same, where the list will be changed -/
def tLstC (t : TA) : TE := tLst t
def wLstC (wl : WA) (δ : DE) (M : Mem) (Q : WK) : Prop := wl δ M fun xs M1 => xs.length ≤ sizeLine ∧ ∀ p, M1 p = none → Q (.ref p) (mset M1 p (· = .lst xs))
instance lf_lstC [a : LfA K E Ξ tl wl] : LfE K E Ξ (tLstC tl) (wLstC wl) := ⟨fun {δ M Q} h {σ F G H} e s o {R} k =>
  a.run h e s o fun xs M1 vs F1 H1 ⟨hz, h1⟩ x1 s1 d1 => ⟨by rw [← d1.len]; exact hz, fun p np =>
    k _ _ _ F1 _ (h1 p (s1.freshM np)) x1 (s1.cell np ⟨_, rfl, vs, rfl, d1⟩) rfl⟩⟩

/-! ### tests -/
def wTest (w : WE) (δ : DE) (M : Mem) (Q : Bool → Mem → Prop) : Prop := w δ M fun x M1 => ∃ k, x = .bl k ∧ Q k M1
instance lf_test [a : LfE K E Ξ te we] : LfT K E Ξ (tTest te) (wTest we) := ⟨fun {δ M Q} h {σ F G H} e s o {R} k =>
  a.run h e s o fun x M1 v F1 H1 ⟨b, e1, h1⟩ x1 s1 d1 => by subst e1; exact ⟨b, d1, k b M1 F1 H1 h1 x1 s1⟩⟩
instance lf_testB [a : LfE K E Ξ te we] : LfT K E Ξ (tB te) (wTest we) := ⟨fun {δ M Q} h {σ F G H} e s o {R} k =>
  a.run h e s o fun x M1 v F1 H1 ⟨b, e1, h1⟩ x1 s1 d1 => by subst e1; exact ⟨b, d1, k b M1 F1 H1 h1 x1 s1⟩⟩
def wAnd (t u : WT) (δ : DE) (M : Mem) (Q : Bool → Mem → Prop) : Prop := t δ M fun b M1 => if b = true then u δ M1 Q else Q false M1
def wOr (t u : WT) (δ : DE) (M : Mem) (Q : Bool → Mem → Prop) : Prop := t δ M fun b M1 => if b = true then Q true M1 else u δ M1 Q
def wNot (t : WT) (δ : DE) (M : Mem) (Q : Bool → Mem → Prop) : Prop := t δ M fun b M1 => Q (!b) M1
instance lf_and [a : LfT K E Ξ t wt] [b : LfT K E Ξ u wu] : LfT K E Ξ (tAnd t u) (wAnd wt wu) := ⟨fun {δ M Q} h {σ F G H} e s o {R} k =>
  a.run h e s o fun z M1 F1 H1 h1 x1 s1 => by
    cases z with
    | true =>
      rw [if_pos rfl] at h1 ⊢
      exact b.run h1 (e.ext x1) s1 (o.ext x1) fun z M2 F2 H2 h2 x2 s2 => k z M2 F2 H2 h2 (x1.trans x2) s2
    | false => exact k _ _ _ _ h1 x1 s1⟩
instance lf_or [a : LfT K E Ξ t wt] [b : LfT K E Ξ u wu] : LfT K E Ξ (tOr t u) (wOr wt wu) := ⟨fun {δ M Q} h {σ F G H} e s o {R} k =>
  a.run h e s o fun z M1 F1 H1 h1 x1 s1 => by
    cases z with
    | true => exact k _ _ _ _ h1 x1 s1
    | false => exact b.run h1 (e.ext x1) s1 (o.ext x1) fun z M2 F2 H2 h2 x2 s2 => k z M2 F2 H2 h2 (x1.trans x2) s2⟩
instance lf_not [a : LfT K E Ξ t wt] : LfT K E Ξ (tNot t) (wNot wt) := ⟨fun {δ M Q} h {σ F G H} e s o {R} k => a.run h e s o fun z M1 F1 H1 h1 x1 s1 => k _ _ _ _ h1 x1 s1⟩
def wIf (t : WT) (wa wb : WE) (δ : DE) (M : Mem) (Q : WK) : Prop := t δ M fun b M1 => if b = true then wa δ M1 Q else wb δ M1 Q
instance lf_if [c : LfT K E Ξ t wt] [a : LfE K E Ξ ta wa] [b : LfE K E Ξ tb wb] : LfE K E Ξ (tIf t ta tb) (wIf wt wa wb) := ⟨fun {δ M Q} h {σ F G H} e s o {R} k =>
  c.run h e s o fun z M1 F1 H1 h1 x1 s1 => by
    cases z with
    | true => exact a.run h1 (e.ext x1) s1 (o.ext x1) fun d M2 v F2 H2 h2 x2 s2 d2 => k d M2 v F2 H2 h2 (x1.trans x2) s2 d2
    | false => exact b.run h1 (e.ext x1) s1 (o.ext x1) fun d M2 v F2 H2 h2 x2 s2 d2 => k d M2 v F2 H2 h2 (x1.trans x2) s2 d2⟩
/-- and, or, not as values (bools) -/
def wAndV (wa wb : WE) (δ : DE) (M : Mem) (Q : WK) : Prop := wa δ M fun x M1 => ∃ c, x = .bl c ∧ if c = true then wb δ M1 Q else Q (.bl false) M1
def wOrV (wa wb : WE) (δ : DE) (M : Mem) (Q : WK) : Prop := wa δ M fun x M1 => ∃ c, x = .bl c ∧ if c = true then Q (.bl true) M1 else wb δ M1 Q
def wNotV (wa : WE) (δ : DE) (M : Mem) (Q : WK) : Prop := wa δ M fun x M1 => ∃ c, x = .bl c ∧ Q (.bl (!c)) M1
instance lf_andV [a : LfE K E Ξ ta wa] [b : LfE K E Ξ tb wb] : LfE K E Ξ (tAndV ta tb) (wAndV wa wb) := ⟨fun {δ M Q} h {σ F G H} e s o {R} k =>
  a.run h e s o fun x M1 v F1 H1 ⟨c, e1, h1⟩ x1 s1 d1 => by
    subst e1
    refine ⟨c, d1, ?_⟩
    cases c with
    | true =>
      rw [if_pos rfl] at h1 ⊢
      exact b.run h1 (e.ext x1) s1 (o.ext x1) fun d M2 v F2 H2 h2 x2 s2 d2 => k d M2 v F2 H2 h2 (x1.trans x2) s2 d2
    | false => exact k _ _ _ _ _ h1 x1 s1 rfl⟩
instance lf_orV [a : LfE K E Ξ ta wa] [b : LfE K E Ξ tb wb] : LfE K E Ξ (tOrV ta tb) (wOrV wa wb) := ⟨fun {δ M Q} h {σ F G H} e s o {R} k =>
  a.run h e s o fun x M1 v F1 H1 ⟨c, e1, h1⟩ x1 s1 d1 => by
    subst e1
    refine ⟨c, d1, ?_⟩
    cases c with
    | true =>
      rw [if_pos rfl] at h1 ⊢
      exact k _ _ _ _ _ h1 x1 s1 rfl
    | false => exact b.run h1 (e.ext x1) s1 (o.ext x1) fun d M2 v F2 H2 h2 x2 s2 d2 => k d M2 v F2 H2 h2 (x1.trans x2) s2 d2⟩
instance lf_notV [a : LfE K E Ξ ta wa] : LfE K E Ξ (tNotV ta) (wNotV wa) := ⟨fun {δ M Q} h {σ F G H} e s o {R} k =>
  a.run h e s o fun x M1 v F1 H1 ⟨c, e1, h1⟩ x1 s1 d1 => by subst e1; exact ⟨c, d1, k _ _ _ _ _ h1 x1 s1 rfl⟩⟩

/-! ### statements -/
def wNext (D : WEnds) (δ : DE) (M : Mem) : Prop := D.nx δ M
/-- what comes behind is not looked at yet -/
def wHold (w : WS) (D : WEnds) (δ : DE) (M : Mem) : Prop := w D δ M
theorem wHold.go {w : WS} {D : WEnds} {δ : DE} {M : Mem} (h : w D δ M) : wHold w D δ M := h
def wSeq (ws wr : WS) (D : WEnds) (δ : DE) (M : Mem) : Prop := ws { D with nx := wHold wr D } δ M
instance lf_next : LfS K E Ξ tNext wNext := ⟨fun {_ _ _} h {σ F G H N} e s o k => k.nx _ _ σ F H h Ext.refl e s⟩
instance lf_seq [a : LfS K E Ξ ts ws] [b : LfS K E Ξ us wr] : LfS K E Ξ (tSeq ts us) (wSeq ws wr) := ⟨fun {D δ M} h {σ F G H N} e s o k =>
  a.run h e s o ⟨fun δ' M' σ' F' H' q x e' s' => b.run q e' s' (o.ext x) (k.ext x), k.rt, k.bk, k.ct⟩⟩
def wBreak (D : WEnds) (δ : DE) (M : Mem) : Prop := D.bk δ M
def wCont (D : WEnds) (δ : DE) (M : Mem) : Prop := D.ct δ M
instance lf_break : LfS K E Ξ tBreak wBreak := ⟨fun {_ _ _} h {σ F G H N} e s o k => k.bk _ _ σ F H h Ext.refl e s⟩
instance lf_cont : LfS K E Ξ tCont wCont := ⟨fun {_ _ _} h {σ F G H N} e s o k => k.ct _ _ σ F H h Ext.refl e s⟩
def wDrop (we : WE) (D : WEnds) (δ : DE) (M : Mem) : Prop := we δ M fun _ M1 => D.nx δ M1
instance lf_drop [a : LfE K E Ξ te we] : LfS K E Ξ (tDrop te) (wDrop we) := ⟨fun {D δ M} h {σ F G H N} e s o k =>
  a.run h e s o fun d M1 v F1 H1 h1 x1 s1 d1 => k.nx _ _ σ F1 H1 h1 x1 (e.ext x1) s1⟩
def wRet (we : WE) (D : WEnds) (δ : DE) (M : Mem) : Prop := we δ M D.rt
instance lf_ret [a : LfE K E Ξ te we] : LfS K E Ξ (tRet te) (wRet we) := ⟨fun {D δ M} h {σ F G H N} e s o k =>
  a.run h e s o fun d M1 v F1 H1 h1 x1 s1 d1 => k.rt d M1 v F1 H1 h1 x1 s1 d1⟩
def wRetN (D : WEnds) (_ : DE) (M : Mem) : Prop := D.rt .non M
instance lf_retN : LfS K E Ξ tRetN wRetN := ⟨fun {D δ M} h {σ F G H N} e s o k => k.rt _ _ _ F H h Ext.refl s rfl⟩
def wIfS (c : WT) (ws wr : WS) (D : WEnds) (δ : DE) (M : Mem) : Prop := c δ M fun b M1 => if b = true then ws D δ M1 else wr D δ M1
instance lf_ifS [c : LfT K E Ξ t wt] [a : LfS K E Ξ ts ws] [b : LfS K E Ξ us wr] : LfS K E Ξ (tIfS t ts us) (wIfS wt ws wr) := ⟨fun {D δ M} h {σ F G H N} e s o k =>
  c.run h e s o fun z M1 F1 H1 h1 x1 s1 => by
    cases z with
    | true => exact a.run h1 (e.ext x1) s1 (o.ext x1) (k.ext x1)
    | false => exact b.run h1 (e.ext x1) s1 (o.ext x1) (k.ext x1)⟩
/-! ### targets -/
abbrev WG := D → DE → Mem → (DE → Mem → Prop) → Prop
/-- but for the slots sl -/
def Keeps (sl : List Nat) (σ σ' : St) : Prop := ∀ ws : List Nat, (∀ i, i ∈ sl → i ∈ ws) → L2.wipe σ' ws = L2.wipe σ ws
theorem wipe_out {σ : St} {i : Nat} {v : Option V} : ∀ {ws : List Nat}, i ∉ ws → L2.wipe (σ.set i v) ws = (L2.wipe σ ws).set i v
  | [], _ => rfl
  | w :: ws, hw => by
    have h1 : i ≠ w := fun q => hw (by rw [q]; exact List.mem_cons_self)
    have h2 : i ∉ ws := fun q => hw (List.mem_cons_of_mem _ q)
    show (L2.wipe (σ.set i v) ws).set w none = ((L2.wipe σ ws).set w none).set i v
    rw [wipe_out h2, List.set_comm _ _ h1]
theorem wipe_in {σ : St} {i : Nat} {v : Option V} : ∀ {vs : List Nat}, i ∈ vs → L2.wipe (σ.set i v) vs = L2.wipe σ vs
  | [], h => absurd h (by simp)
  | j :: vs, h => by
    show (L2.wipe (σ.set i v) vs).set j none = (L2.wipe σ vs).set j none
    by_cases e : i ∈ vs
    · rw [wipe_in e]
    · have ej : i = j := by
        rcases List.mem_cons.mp h with h | h
        · exact h
        · exact absurd h e
      subst ej
      rw [wipe_out e, List.set_set]
theorem wipe_wipe {σ : St} : ∀ {vs : List Nat}, L2.wipe (L2.wipe σ vs) vs = L2.wipe σ vs := by
  have key : ∀ (us vs : List Nat), (∀ i, i ∈ us → i ∈ vs) → L2.wipe (L2.wipe σ us) vs = L2.wipe σ vs := by
    intro us
    induction us with
    | nil => intro vs _; rfl
    | cons u us ih =>
      intro vs h
      show L2.wipe ((L2.wipe σ us).set u none) vs = _
      rw [wipe_in (h u List.mem_cons_self), ih vs fun i hi => h i (List.mem_cons_of_mem _ hi)]
  intro vs
  exact key vs vs fun _ h => h
theorem Keeps.refl {sl : List Nat} {σ : St} : Keeps sl σ σ := fun _ _ => rfl
theorem Keeps.app {s1 s2 : List Nat} {σ τ υ : St} (a : Keeps s1 σ τ) (b : Keeps s2 τ υ) : Keeps (s1 ++ s2) σ υ := fun ws h => (b ws fun i hi => h i (List.mem_append_right _ hi)).trans (a ws fun i hi => h i (List.mem_append_left _ hi))
class LfG (K : Frag) (E : XS) (Ξ : DX) (g : TG) (w : outParam WG) (sl : outParam (List Nat)) : Prop where
  run : ∀ {x : D} {δ : DE} {M : Mem} {Q : DE → Mem → Prop}, w x δ M Q → ∀ {σ : St} {F G H : Hp} {v : V}, EnvOk K F δ σ → Sat K F M G H → EOk K F G Ξ E → Den K F x v → ∀ {R : St → Hp → Prop}, (∀ δ' M' σ' F' H', Q δ' M' → Ext F F' → EnvOk K F' δ' σ' → Sat K F' M' G H' → Keeps sl σ σ' → R σ' H') → g v σ H R
abbrev WGs := List D → DE → Mem → (DE → Mem → Prop) → Prop
class LfGs (K : Frag) (E : XS) (Ξ : DX) (g : TGs) (w : outParam WGs) (sl : outParam (List Nat)) : Prop where
  run : ∀ {xs : List D} {δ : DE} {M : Mem} {Q : DE → Mem → Prop}, w xs δ M Q → ∀ {σ : St} {F G H : Hp} {vs : List V}, EnvOk K F δ σ → Sat K F M G H → EOk K F G Ξ E → DenL K F xs vs → ∀ {R : St → Hp → Prop}, (∀ δ' M' σ' F' H', Q δ' M' → Ext F F' → EnvOk K F' δ' σ' → Sat K F' M' G H' → Keeps sl σ σ' → R σ' H') → g vs σ H R
def wName (i : Nat) (x : D) (δ : DE) (M : Mem) (Q : DE → Mem → Prop) : Prop := Q (δ.set i (some x)) M
instance lf_name {i : Nat} : LfG K E Ξ (gName i) (wName i) [i] := ⟨fun {_ _ _ _} h {σ F G H v} e s o d {R} k => k _ _ _ F H h Ext.refl (e.set d) s fun ws h => wipe_in (h i List.mem_cons_self)⟩
def wGNil (xs : List D) (δ : DE) (M : Mem) (Q : DE → Mem → Prop) : Prop := xs = [] ∧ Q δ M
def wGCons (g : WG) (gs : WGs) (xs : List D) (δ : DE) (M : Mem) (Q : DE → Mem → Prop) : Prop := ∃ x r, xs = x :: r ∧ g x δ M fun δ' M' => gs r δ' M' Q
instance lf_gnil : LfGs K E Ξ gNil wGNil [] := ⟨fun {_ _ _ _} ⟨h1, h⟩ {σ F G H v} e s o d {R} k => by subst h1; exact ⟨d, k _ _ _ F H h Ext.refl e s Keeps.refl⟩⟩
instance lf_gcons {g : TG} {gs : TGs} {wg : WG} {wgs : WGs} {s1 s2 : List Nat} [a : LfG K E Ξ g wg s1] [b : LfGs K E Ξ gs wgs s2] : LfGs K E Ξ (gCons g gs) (wGCons wg wgs) (s1 ++ s2) := ⟨fun {_ _ _ _} ⟨x, r, h1, h⟩ {σ F G H vs} e s o d {R} k => by
  subst h1
  obtain ⟨v, vr, e1, d1, d2⟩ := d
  exact ⟨v, vr, e1, a.run h e s o d1 fun δ' M' σ' F' H' q x1 e' s' k1 => b.run q e' s' (o.ext x1) (d2.ext x1) fun δ2 M2 σ2 F2 H2 q2 x2 e2 s2 k2 => k δ2 M2 σ2 F2 H2 q2 (x1.trans x2) e2 s2 (k1.app k2)⟩⟩
def wGTup (n : Nat) (g : WGs) (x : D) (δ : DE) (M : Mem) (Q : DE → Mem → Prop) : Prop := ∃ xs, x = .tup xs ∧ xs.length = n ∧ g xs δ M Q
instance lf_gtup {n : Nat} {g : TGs} {w : WGs} {sl : List Nat} [a : LfGs K E Ξ g w sl] : LfG K E Ξ (gTup K n g) (wGTup n w) sl := ⟨fun {_ _ _ _} ⟨xs, h1, h2, h⟩ {σ F G H v} e s o d {R} k => by
  subst h1
  obtain ⟨p, vs, e1, q, dl⟩ := d
  exact ⟨p, vs, e1, sqt_ext s.sub q, by rw [← dl.len, h2], a.run h e s o dl k⟩⟩
def wAsg (we : WE) (g : WG) (D : WEnds) (δ : DE) (M : Mem) : Prop := we δ M fun x M1 => g x δ M1 D.nx
instance lf_asg {g : TG} {w : WG} {sl : List Nat} [a : LfE K E Ξ te we] [b : LfG K E Ξ g w sl] : LfS K E Ξ (tAsg te g) (wAsg we w) := ⟨fun {D δ M} h {σ F G H N} e s o k =>
  a.run h e s o fun d M1 v F1 H1 h1 x1 s1 d1 => b.run h1 (e.ext x1) s1 (o.ext x1) d1 fun δ2 M2 σ2 F2 H2 q2 x2 e2 s2 _ => k.nx δ2 M2 σ2 F2 H2 q2 (x1.trans x2) e2 s2⟩
def wPar (i j : Nat) (wl : WA) (D : WEnds) (δ : DE) (M : Mem) : Prop := wl δ M fun xs M1 => ∃ x y, xs = [x, y] ∧ D.nx ((δ.set i (some x)).set j (some y)) M1
instance lf_par {i j : Nat} [a : LfA K E Ξ tl wl] : LfS K E Ξ (tPar i j tl) (wPar i j wl) := ⟨fun {D δ M} h {σ F G H N} e s o k =>
  a.run h e s o fun ds M1 vs F1 H1 ⟨x, y, e1, h1⟩ x1 s1 d1 => by
    subst e1
    obtain ⟨v, r, rfl, dx, u, r2, rfl, dy, rfl⟩ := d1
    exact ⟨v, u, rfl, k.nx _ _ _ F1 H1 h1 x1 (((e.ext x1).set dx).set dy) s1⟩⟩
end
end DL
set_option Elab.async false
set_option linter.all false
set_option maxRecDepth 100000
namespace DL
open PySem L2 PyProof.Rows
/-! ### operators, by values: several rules at once -/
theorem OpR.or {X : Cx} {f : Value → Value → Sem Value} {r r' : R2} (h : OpR X f r) (h' : OpR X f r') : OpR X f (fun x y H Q => r x y H Q ∨ r' x y H Q) := by
  intro pins s σ H x y v u Q I rx ry q
  rcases q with q | q
  · exact h pins s σ H x y v u Q I rx ry q
  · exact h' pins s σ H x y v u Q I rx ry q
def rCatL (K : Frag) : R2 := fun x y H Q => ∃ l b xs zs, x = .ref l ∧ y = .ref b ∧ SqL K H l xs ∧ SqL K H b zs ∧ xs.length + zs.length ≤ sizeLine ∧ ∀ p, H p = none → Q (.ref p) (upd H p (.lst (xs ++ zs)))
theorem op_catL {X : Cx} : OpR X (binaryOp .Add) (rCatL X.K) := by
  intro pins s σ H x y v u Q I rx ry h
  obtain ⟨l, b, xs, zs, rfl, rfl, hH, hB, hz, q⟩ := h
  cases rx
  cases ry
  obtain ⟨its, r, ⟨⟨c1, c2, c3, c4⟩, n, e, d1, d2, d3⟩, z1⟩ := I.list hH
  obtain ⟨its2, r2, ⟨⟨g1, g2, g3, g4⟩, n2, e2, f1, f2, f3⟩, z2⟩ := I.list hB
  simp only at d1 d2 d3 f1 f2 f3
  subst d1 d2 d3 f1 f2 f3
  have hl := r.length
  have hl2 := r2.length
  have ea : its.toArray ++ its2.toArray = (its ++ its2).toArray := by simp
  refine concat_meets ⟨_, e, rfl⟩ ⟨_, e2, rfl⟩ noFill_list_add seq_list_add PySem.F.slot_list_add PySem.F.entry_list_add (PySem.F.args_list_add_2 _ _)
    (list_addW l b its.toArray its2.toArray n n2 none none c4 g4 (by simp only [List.size_toArray]; omega)) ⟨e, e2, ?_⟩
  rw [ea]
  exact ⟨.ref _, _, I.lnew (t' := s.toks) (r.append r2) (by rw [List.length_append]; omega), rfl, q _ I.fresh⟩
/-- + -/
def rAddS : R2 := fun x y H Q => ∃ i j, x = .str i ∧ y = .str j ∧ i.length + j.length ≤ sizeLine ∧ Q (.str (i ++ j)) H
def rAddA (K : Frag) : R2 := fun x y H Q => (rI0 (fun i j => .int (i + j)) x y H Q ∨ rAddS x y H Q) ∨ (rCatL K x y H Q ∨ rCatA K x y H Q)
theorem op_addA {X : Cx} : OpR X (binaryOp .Add) (rAddA X.K) := OpR.or (OpR.or op_add op_add_str) (OpR.or op_catL op_catA)
/-- a list by value, or a cell that holds one -/
def LstAt (M : Mem) (x : D) (ds : List D) : Prop := x = .lst ds ∨ ∃ p, x = .ref p ∧ M p = some (· = .lst ds)
section
variable {K : Frag} {E : XS} {Ξ : DX} {F G H : Hp} {M : Mem} {x : D} {v : V} {ds : List D}
theorem lst_at (s : Sat K F M G H) (d : Den K F x v) (h : LstAt M x ds) : ∃ p xs, v = .ref p ∧ SqL K H p xs ∧ DenL K F ds xs := by
  rcases h with rfl | ⟨p, rfl, h⟩
  · obtain ⟨p, xs, e, q, dl⟩ := d
    exact ⟨p, xs, e, sql_ext s.sub q, dl⟩
  · obtain ⟨ho, h1, mb, h2, h3⟩ := s.mem p _ h
    subst h2
    obtain ⟨xs, rfl, dl⟩ := h3
    exact ⟨p, xs, d, SqL.of h1, dl⟩
def wAdd (x : D) (y : D) (M : Mem) (Q : WK) : Prop := match x, y with
  | .int i, .int j => Q (.int (i + j)) M
  | .str a, .str b => a.length + b.length ≤ sizeLine ∧ Q (.str (a ++ b)) M
  | .lst a, .lst b => a.length + b.length ≤ sizeLine ∧ Q (.lst (a ++ b)) M
  | .tup a, .tup b => a.length + b.length ≤ sizeLine ∧ Q (.tup (a ++ b)) M
  | .ref p, .lst b => ∃ a, M p = some (· = .lst a) ∧ a.length + b.length ≤ sizeLine ∧ Q (.lst (a ++ b)) M
  | .lst a, .ref p => ∃ b, M p = some (· = .lst b) ∧ a.length + b.length ≤ sizeLine ∧ Q (.lst (a ++ b)) M
  | .ref p, .ref q => ∃ a b, M p = some (· = .lst a) ∧ M q = some (· = .lst b) ∧ a.length + b.length ≤ sizeLine ∧ Q (.lst (a ++ b)) M
  | _, _ => False
theorem catL_run {y : D} {u : V} {es : List D} {Q : WK} {R : VK} (s : Sat K F M G H) (dx : Den K F x v) (dy : Den K F y u) (hx : LstAt M x ds) (hy : LstAt M y es) (hz : ds.length + es.length ≤ sizeLine) (q : Q (.lst (ds ++ es)) M)
    (k : ∀ d M' v F' H', Q d M' → Ext F F' → Sat K F' M' G H' → Den K F' d v → R v H') : rAddA K v u H R := by
  obtain ⟨p, xs, rfl, q1, d1⟩ := lst_at s dx hx
  obtain ⟨p2, ys, rfl, q2, d2⟩ := lst_at s dy hy
  refine .inr (.inl ⟨p, p2, xs, ys, rfl, rfl, q1, q2, by rw [← d1.len, ← d2.len]; exact hz, fun r nr => ?_⟩)
  have ex := Ext.new (o := .lst (xs ++ ys)) (s.freshF nr)
  exact k _ M _ _ _ q ex (s.new nr) ⟨r, _, rfl, SqL.of upd_same, (d1.append d2).ext ex⟩
instance lf_addA : LfR K E Ξ (rAddA K) wAdd := ⟨fun {x y M Q} h {F G H v u} s o dx dy {R} k => by
  cases x with
  | int i => cases y with
    | int j => cases dx; cases dy; exact .inl (.inl ⟨i, j, rfl, rfl, k _ M _ F H h Ext.refl s rfl⟩)
    | _ => exact h.elim
  | str a => cases y with
    | str b => cases dx; cases dy; exact .inl (.inr ⟨a, b, rfl, rfl, h.1, k _ M _ F H h.2 Ext.refl s rfl⟩)
    | _ => exact h.elim
  | lst a => cases y with
    | lst b => exact catL_run s dx dy (.inl rfl) (.inl rfl) h.1 h.2 k
    | ref p => obtain ⟨b, e, h1, h2⟩ := h; exact catL_run s dx dy (.inl rfl) (.inr ⟨p, rfl, e⟩) h1 h2 k
    | _ => exact h.elim
  | ref p => cases y with
    | lst b => obtain ⟨a, e, h1, h2⟩ := h; exact catL_run s dx dy (.inr ⟨p, rfl, e⟩) (.inl rfl) h1 h2 k
    | ref q => obtain ⟨a, b, e, e2, h1, h2⟩ := h; exact catL_run s dx dy (.inr ⟨p, rfl, e⟩) (.inr ⟨q, rfl, e2⟩) h1 h2 k
    | _ => exact h.elim
  | tup a => cases y with
    | tup b =>
      obtain ⟨p, xs, rfl, q1, d1⟩ := dx
      obtain ⟨p2, ys, rfl, q2, d2⟩ := dy
      refine .inr (.inr ⟨p, p2, xs, ys, rfl, rfl, sqt_ext s.sub q1, sqt_ext s.sub q2, by rw [← d1.len, ← d2.len]; exact h.1, fun e => ?_, fun _ e => ?_, fun _ _ r nr => ?_⟩)
      · subst e
        have ea : a = [] := by cases a with
          | nil => rfl
          | cons _ _ => obtain ⟨_, _, e, _⟩ := d1; cases e
        subst ea
        exact k _ M _ F H h.2 Ext.refl s ⟨p2, ys, rfl, q2, d2⟩
      · subst e
        have eb : b = [] := by cases b with
          | nil => rfl
          | cons _ _ => obtain ⟨_, _, e, _⟩ := d2; cases e
        subst eb
        exact k _ M _ F H h.2 Ext.refl s ⟨p, xs, rfl, q1, by rw [List.append_nil]; exact d1⟩
      · have ex := Ext.new (o := .tup (xs ++ ys)) (s.freshF nr)
        exact k _ M _ _ _ h.2 ex (s.new nr) ⟨r, _, rfl, SqT.of upd_same, (d1.append d2).ext ex⟩
    | _ => exact h.elim
  | _ => exact h.elim⟩
/-- two ints -/
def wII (C : Int → Int → Prop) (g : Int → Int → D) (x : D) (y : D) (M : Mem) (Q : WK) : Prop := match x, y with
  | .int i, .int j => C i j ∧ Q (g i j) M
  | _, _ => False
def wII0 (g : Int → Int → D) (x : D) (y : D) (M : Mem) (Q : WK) : Prop := match x, y with
  | .int i, .int j => Q (g i j) M
  | _, _ => False
instance lf_II {C : Int → Int → Prop} {g : Int → Int → Int} : LfR K E Ξ (rI C fun i j => .int (g i j)) (wII C fun i j => .int (g i j)) := ⟨fun {x y M Q} h {F G H v u} s o dx dy {R} k => by
  cases x with
  | int i => cases y with
    | int j => cases dx; cases dy; exact ⟨i, j, rfl, rfl, h.1, k _ M _ F H h.2 Ext.refl s rfl⟩
    | _ => exact h.elim
  | _ => exact h.elim⟩
instance lf_II0 {g : Int → Int → Int} : LfR K E Ξ (rI0 fun i j => .int (g i j)) (wII0 fun i j => .int (g i j)) := ⟨fun {x y M Q} h {F G H v u} s o dx dy {R} k => by
  cases x with
  | int i => cases y with
    | int j => cases dx; cases dy; exact ⟨i, j, rfl, rfl, k _ M _ F H h Ext.refl s rfl⟩
    | _ => exact h.elim
  | _ => exact h.elim⟩
def rNeg : V → Hp → VK → Prop := fun x H Q => ∃ i, x = .int i ∧ Q (.int (-i)) H
def wNeg (x : D) (M : Mem) (Q : WK) : Prop := match x with
  | .int i => Q (.int (-i)) M
  | _ => False
instance lf_neg : LfU K E Ξ rNeg wNeg := ⟨fun {x M Q} h {F G H v} s o dx {R} k => by
  cases x with
  | int i => cases dx; exact ⟨i, rfl, k _ M _ F H h Ext.refl s rfl⟩
  | _ => exact h.elim⟩
/-! ### comparisons -/
/-- <, <=, >, >= of ints, of texts -/
def rCmpS (g : Str → Str → Bool) : R2 := fun x y H Q => ∃ i j, x = .str i ∧ y = .str j ∧ Q (.bl (g i j)) H
def rCmp (f : Int → Int → Bool) (g : Str → Str → Bool) : R2 := fun x y H Q => rI0 (fun i j => .bl (f i j)) x y H Q ∨ rCmpS g x y H Q
def ltS (i j : Str) : Bool := decide (i.cps.toList < j.cps.toList)
theorem op_leA {X : Cx} : OpR X (compareOp .LtE) (rCmp (fun i j => decide (i ≤ j)) fun i j => !ltS j i) := OpR.or op_le op_le_str
theorem op_gtA {X : Cx} : OpR X (compareOp .Gt) (rCmp (fun i j => decide (j < i)) fun i j => ltS j i) := OpR.or op_gt op_gt_str
theorem op_geA {X : Cx} : OpR X (compareOp .GtE) (rCmp (fun i j => decide (j ≤ i)) fun i j => !ltS i j) := OpR.or op_ge op_ge_str
def wCmp (f : Int → Int → Bool) (g : Str → Str → Bool) (x : D) (y : D) (M : Mem) (Q : WK) : Prop := match x, y with
  | .int i, .int j => Q (.bl (f i j)) M
  | .str i, .str j => Q (.bl (g i j)) M
  | _, _ => False
instance lf_cmp {f : Int → Int → Bool} {g : Str → Str → Bool} : LfR K E Ξ (rCmp f g) (wCmp f g) := ⟨fun {x y M Q} h {F G H v u} s o dx dy {R} k => by
  cases x with
  | int i => cases y with
    | int j => cases dx; cases dy; exact .inl ⟨i, j, rfl, rfl, k _ M _ F H h Ext.refl s rfl⟩
    | _ => exact h.elim
  | str i => cases y with
    | str j => cases dx; cases dy; exact .inr ⟨i, j, rfl, rfl, k _ M _ F H h Ext.refl s rfl⟩
    | _ => exact h.elim
  | _ => exact h.elim⟩
/-! data that == compares -/
mutual
def toPy : D → Option PyData
  | .non => some .none
  | .bl b => some (.bool b)
  | .int i => some (.int i)
  | .str x => some (.str x)
  | .tup l => (toPyL l).map .tuple
  | .lst l => (toPyL l).map .list
  | _ => none
def toPyL : List D → Option (List PyData)
  | [] => some []
  | d :: r => match toPy d, toPyL r with
    | some x, some xs => some (x :: xs)
    | _, _ => none
end
mutual
theorem dp_of {F H : Hp} (e : Ext F H) : ∀ {d : D} {v : V} {p : PyData}, Den K F d v → toPy d = some p → Dp K H v p
  | .non, _, _, h, q => by cases h; cases q; exact .non
  | .bl b, _, _, h, q => by cases h; cases q; exact .bl b
  | .int i, _, _, h, q => by cases h; cases q; exact .int i
  | .str x, _, _, h, q => by cases h; cases q; exact .str x
  | .tup l, _, _, ⟨a, xs, h1, h2, h3⟩, q => by
    obtain ⟨ps, e1, e2⟩ := Option.map_eq_some_iff.mp (show (toPyL l).map PyData.tuple = some _ from q)
    subst h1 e2
    exact .tup (sqt_ext e h2) (dpL_of e h3 e1)
  | .lst l, _, _, ⟨a, xs, h1, h2, h3⟩, q => by
    obtain ⟨ps, e1, e2⟩ := Option.map_eq_some_iff.mp (show (toPyL l).map PyData.list = some _ from q)
    subst h1 e2
    exact .lst (sql_ext e h2) (dpL_of e h3 e1)
  | .ref _, _, _, _, q => nomatch q
  | .ty _, _, _, _, q => nomatch q
  | .dic _ _, _, _, _, q => nomatch q
  | .obj _ _ _, _, _, _, q => nomatch q
  | .exn _ _ _, _, _, _, q => nomatch q
  | .oth _ _, _, _, _, q => nomatch q
theorem dpL_of {F H : Hp} (e : Ext F H) : ∀ {l : List D} {xs : List V} {ps : List PyData}, DenL K F l xs → toPyL l = some ps → DpAll K H xs ps
  | [], _, _, h, q => by rw [show _ = [] from h]; cases q; exact .nil
  | d :: r, _, _, ⟨x, xs, h1, h2, h3⟩, q => by
    subst h1
    have q' : (match toPy d, toPyL r with
      | some x, some xs => some (x :: xs)
      | _, _ => none) = some _ := q
    cases e1 : toPy d with
    | none => rw [e1] at q'; cases q'
    | some p => cases e2 : toPyL r with
      | none => rw [e1, e2] at q'; cases q'
      | some ps => rw [e1, e2] at q'; cases q'; exact .cons (dp_of e h2 e1) (dpL_of e h3 e2)
end
def scalD : D → D → Option Bool
  | .non, .non => some true
  | .non, .int _ => some false | .int _, .non => some false | .non, .bl _ => some false | .bl _, .non => some false | .non, .str _ => some false | .str _, .non => some false
  | .int i, .int j => some (decide (i = j)) | .bl i, .bl j => some (i == j) | .str i, .str j => some (decide (i = j))
  | .int _, .str _ => some false | .str _, .int _ => some false | .bl _, .str _ => some false | .str _, .bl _ => some false
  | _, _ => none
/-! with empty dicts -/
mutual
def toPyE : D → Option PyData
  | .non => some .none
  | .bl b => some (.bool b)
  | .int i => some (.int i)
  | .str x => some (.str x)
  | .tup l => (toPyEL l).map .tuple
  | .lst l => (toPyEL l).map .list
  | .dic [] [] => some (.dict [])
  | _ => none
def toPyEL : List D → Option (List PyData)
  | [] => some []
  | d :: r => match toPyE d, toPyEL r with
    | some x, some xs => some (x :: xs)
    | _, _ => none
end
mutual
theorem toPyE_of : ∀ {d : D} {p : PyData}, toPy d = some p → toPyE d = some p
  | .non, _, q => q
  | .bl b, _, q => q
  | .int i, _, q => q
  | .str x, _, q => q
  | .tup l, _, q => by
    obtain ⟨ps, e1, e2⟩ := Option.map_eq_some_iff.mp (show (toPyL l).map PyData.tuple = some _ from q)
    subst e2
    show (toPyEL l).map PyData.tuple = _
    rw [toPyEL_of e1]
    rfl
  | .lst l, _, q => by
    obtain ⟨ps, e1, e2⟩ := Option.map_eq_some_iff.mp (show (toPyL l).map PyData.list = some _ from q)
    subst e2
    show (toPyEL l).map PyData.list = _
    rw [toPyEL_of e1]
    rfl
  | .ref _, _, q => nomatch q
  | .ty _, _, q => nomatch q
  | .dic _ _, _, q => nomatch q
  | .obj _ _ _, _, q => nomatch q
  | .exn _ _ _, _, q => nomatch q
  | .oth _ _, _, q => nomatch q
theorem toPyEL_of : ∀ {l : List D} {ps : List PyData}, toPyL l = some ps → toPyEL l = some ps
  | [], _, q => q
  | d :: r, ps, q => by
    have q' : (match toPy d, toPyL r with
      | some x, some xs => some (x :: xs)
      | _, _ => none) = some ps := q
    show (match toPyE d, toPyEL r with
      | some x, some xs => some (x :: xs)
      | _, _ => none) = some ps
    cases e1 : toPy d with
    | none => rw [e1] at q'; cases q'
    | some p => cases e2 : toPyL r with
      | none => rw [e1, e2] at q'; cases q'
      | some ps => rw [e1, e2] at q'; rw [toPyE_of e1, toPyEL_of e2]; exact q'
end
mutual
inductive DpE (K : Frag) (H : Hp) : V → PyData → Prop
  | non : DpE K H .non .none
  | bl (b : Bool) : DpE K H (.bl b) (.bool b)
  | int (i : Int) : DpE K H (.int i) (.int i)
  | str (x : Str) : DpE K H (.str x) (.str x)
  | lst {a : Addr} {xs : List V} {ds : List PyData} : SqL K H a xs → DpEAll K H xs ds → DpE K H (.ref a) (.list ds)
  | tup {a : Addr} {xs : List V} {ds : List PyData} : SqT K H a xs → DpEAll K H xs ds → DpE K H (.ref a) (.tuple ds)
  | dic {a : Addr} {o : Obj} : H a = some (.frz o (.dK [])) → DpE K H (.ref a) (.dict [])
inductive DpEAll (K : Frag) (H : Hp) : List V → List PyData → Prop
  | nil : DpEAll K H [] []
  | cons {v : V} {vs : List V} {d : PyData} {ds : List PyData} : DpE K H v d → DpEAll K H vs ds → DpEAll K H (v :: vs) (d :: ds)
end
section
variable {X : Cx} {pins : List (Addr × Obj)} {σ : L2.St} {H : Hp} {s : Shared}
mutual
theorem DpE.reads (I : L2.Inv X pins σ H s) : ∀ (d : PyData) (v : V) (u : Value), DpE X.K H v d → L2.RelV v u → ∃ as, Reads s.heap u d as
  | .none, _, _, h, r => by
    cases h
    cases r
    exact ⟨_, Reads.none⟩
  | .bool b, _, _, h, r => by
    cases h
    cases r
    exact ⟨_, Reads.bool b⟩
  | .int i, _, _, h, r => by
    cases h
    obtain ⟨t, rfl⟩ := r
    exact ⟨_, Reads.int i t⟩
  | .str x, _, _, h, r => by
    cases h
    obtain ⟨t, rfl⟩ := r
    exact ⟨_, Reads.str x t⟩
  | .list ds, _, _, h, r => by
    cases h with
    | lst hs ha =>
      cases r
      obtain ⟨its, rv, ⟨o, n, ho, hc, _, hd⟩, _⟩ := I.list hs
      obtain ⟨as, hr⟩ := DpE.readsAll I ds _ its ha rv
      exact ⟨_, Reads.list ho hc hd hr⟩
  | .tuple ds, _, _, h, r => by
    cases h with
    | tup hs ha =>
      cases r
      obtain ⟨its, rv, ⟨o, ho, hc, n, hd⟩, _⟩ := I.tuple hs
      obtain ⟨as, hr⟩ := DpE.readsAll I ds _ its ha rv
      exact ⟨_, Reads.tuple ho hc hd hr⟩
  | .dict _, _, _, h, r => by
    cases h with
    | dic hd =>
      cases r
      obtain ⟨_, _, _, vs, kv, o, es, ep, ho, hx, hdt, _, pr, _⟩ := (I.hok _ _ hd : ObjOk X.prog X.w H s.heap _ (.frz _ (.dK [])))
      cases kv
      have e0 : es.toList = [] := by
        match h0 : es.toList, pr with
        | [], _ => rfl
        | _ :: _, pr => cases pr
      refine ⟨_, Reads.dict (as := []) (bs := []) ho hx.1 hdt ?_ ?_⟩
      · rw [e0]
        exact .nil
      · rw [e0]
        exact .nil
theorem DpE.readsAll (I : L2.Inv X pins σ H s) : ∀ (ds : List PyData) (vs : List V) (us : List Value), DpEAll X.K H vs ds → Vals vs us → ∃ as, ReadsAll s.heap us ds as
  | [], _, _, h, r => by
    cases h
    cases r
    exact ⟨_, ReadsAll.nil⟩
  | d :: ds, _, _, h, r => by
    cases h with
    | cons h1 h2 =>
      cases r with
      | cons r1 r2 =>
        obtain ⟨as, q1⟩ := DpE.reads I d _ _ h1 r1
        obtain ⟨bs, q2⟩ := DpE.readsAll I ds _ _ h2 r2
        exact ⟨_, ReadsAll.cons q1 q2⟩
end
end
mutual
theorem dpE_of {F H : Hp} (e : Ext F H) : ∀ {d : D} {v : V} {p : PyData}, Den K F d v → toPyE d = some p → DpE K H v p
  | .non, _, _, h, q => by cases h; cases q; exact .non
  | .bl b, _, _, h, q => by cases h; cases q; exact .bl b
  | .int i, _, _, h, q => by cases h; cases q; exact .int i
  | .str x, _, _, h, q => by cases h; cases q; exact .str x
  | .tup l, _, _, ⟨a, xs, h1, h2, h3⟩, q => by
    obtain ⟨ps, e1, e2⟩ := Option.map_eq_some_iff.mp (show (toPyEL l).map PyData.tuple = some _ from q)
    subst h1 e2
    exact .tup (sqt_ext e h2) (dpEL_of e h3 e1)
  | .lst l, _, _, ⟨a, xs, h1, h2, h3⟩, q => by
    obtain ⟨ps, e1, e2⟩ := Option.map_eq_some_iff.mp (show (toPyEL l).map PyData.list = some _ from q)
    subst h1 e2
    exact .lst (sql_ext e h2) (dpEL_of e h3 e1)
  | .ref _, _, _, _, q => nomatch q
  | .ty _, _, _, _, q => nomatch q
  | .dic [] [], _, _, ⟨a, o, xs, h1, h2, h3, h4⟩, q => by
    cases q
    subst h1
    obtain rfl : xs = [] := h4
    exact .dic (e _ _ h2)
  | .dic (_ :: _) _, _, _, _, q => nomatch q
  | .dic [] (_ :: _), _, _, _, q => nomatch q
  | .obj _ _ _, _, _, _, q => nomatch q
  | .exn _ _ _, _, _, _, q => nomatch q
  | .oth _ _, _, _, _, q => nomatch q
theorem dpEL_of {F H : Hp} (e : Ext F H) : ∀ {l : List D} {xs : List V} {ps : List PyData}, DenL K F l xs → toPyEL l = some ps → DpEAll K H xs ps
  | [], _, _, h, q => by cases q; rw [show _ = [] from h]; exact .nil
  | d :: r, _, _, ⟨x, xr, h1, h2, h3⟩, q => by
    subst h1
    have q' : (match toPyE d, toPyEL r with
      | some x, some xs => some (x :: xs)
      | _, _ => none) = some _ := q
    cases e1 : toPyE d with
    | none => rw [e1] at q'; cases q'
    | some p => cases e2 : toPyEL r with
      | none => rw [e1, e2] at q'; cases q'
      | some ps => rw [e1, e2] at q'; cases q'; exact .cons (dpE_of e h2 e1) (dpEL_of e h3 e2)
end
def rEqE (K : Frag) : R2 := fun x y H Q => ∃ d e, DpE K H x d ∧ DpE K H y e ∧ SeqAt.shaped d = true ∧ SeqAt.shaped e = true ∧ Q (.bl (PyData.eqv d e)) H
def rNeE (K : Frag) : R2 := fun x y H Q => ∃ d e, DpE K H x d ∧ DpE K H y e ∧ SeqAt.shaped d = true ∧ SeqAt.shaped e = true ∧ Q (.bl (!PyData.eqv d e)) H
theorem op_eqE {X : Cx} (hu : X.A.units + 64 < cLine) : OpR X (compareOp .Eq) (rEqE X.K) := by
  intro pins s σ H x y v u Q I rx ry h
  obtain ⟨d, e, hd, he, sd, se, q⟩ := h
  obtain ⟨as, r1⟩ := DpE.reads I d x v hd rx
  obtain ⟨bs, r2⟩ := DpE.reads I e y u he ry
  exact SeqAt.compareEq_shaped r1 r2 sd se hu ⟨.bl _, H, I, rfl, q⟩
theorem op_neE {X : Cx} (hu : X.A.units + 64 < cLine) : OpR X (compareOp .NotEq) (rNeE X.K) := by
  intro pins s σ H x y v u Q I rx ry h
  obtain ⟨d, e, hd, he, sd, se, q⟩ := h
  obtain ⟨as, r1⟩ := DpE.reads I d x v hd rx
  obtain ⟨bs, r2⟩ := DpE.reads I e y u he ry
  exact SeqAt.compareNe_shaped r1 r2 sd se hu ⟨.bl _, H, I, rfl, q⟩
def rEqA (K : Frag) : R2 := fun x y H Q => rEq x y H Q ∨ rEqE K x y H Q
def rNeA (K : Frag) : R2 := fun x y H Q => rNe x y H Q ∨ rNeE K x y H Q
theorem op_eqA {X : Cx} (hu : X.A.units + 64 < cLine) : OpR X (compareOp .Eq) (rEqA X.K) := OpR.or op_eq (op_eqE hu)
theorem op_neA {X : Cx} (hu : X.A.units + 64 < cLine) : OpR X (compareOp .NotEq) (rNeA X.K) := OpR.or op_ne (op_neE hu)
/-- == of scalars at once; of other data by PyData -/
def eqW (neg : Bool) : WR2 := fun x y M Q => match scalD x y with
  | some b => Q (.bl (if neg then !b else b)) M
  | none => ∃ d e, toPyE x = some d ∧ toPyE y = some e ∧ SeqAt.shaped d = true ∧ SeqAt.shaped e = true ∧ Q (.bl (if neg then !PyData.eqv d e else PyData.eqv d e)) M
theorem scal_of {x y : D} {v u : V} {b : Bool} (dx : Den K F x v) (dy : Den K F y u) (h : scalD x y = some b) : scal v u = true ∧ decide (v = u) = b := by
  cases x <;> cases y <;> first | (cases h; done) | (cases dx; cases dy; cases h; refine ⟨rfl, ?_⟩; first | rfl | (rw [Bool.eq_iff_iff]; simp))
instance lf_eqA : LfR K E Ξ (rEqA K) (eqW false) := ⟨fun {x y M Q} h {F G H v u} s o dx dy {R} k => by
  unfold eqW at h
  cases e : scalD x y with
  | some b =>
    rw [e] at h
    obtain ⟨h1, h2⟩ := scal_of dx dy e
    refine .inl ⟨h1, ?_⟩
    rw [h2]
    exact k _ M _ F H h Ext.refl s rfl
  | none =>
    rw [e] at h
    obtain ⟨p, q, e1, e2, s1, s2, h⟩ := h
    exact .inr ⟨p, q, dpE_of s.sub dx e1, dpE_of s.sub dy e2, s1, s2, k _ M _ F H h Ext.refl s rfl⟩⟩
instance lf_neA : LfR K E Ξ (rNeA K) (eqW true) := ⟨fun {x y M Q} h {F G H v u} s o dx dy {R} k => by
  unfold eqW at h
  cases e : scalD x y with
  | some b =>
    rw [e] at h
    obtain ⟨h1, h2⟩ := scal_of dx dy e
    refine .inl ⟨h1, ?_⟩
    rw [h2]
    exact k _ M _ F H h Ext.refl s rfl
  | none =>
    rw [e] at h
    obtain ⟨p, q, e1, e2, s1, s2, h⟩ := h
    exact .inr ⟨p, q, dpE_of s.sub dx e1, dpE_of s.sub dy e2, s1, s2, k _ M _ F H h Ext.refl s rfl⟩⟩
/-- is None, is not None -/
def rIsNo (neg : Bool) : R2 := fun x y H Q => y = .non ∧ Q (.bl (if neg then !decide (x = .non) else decide (x = .non))) H
def isNon : D → Bool
  | .non => true
  | _ => false
def wIsNo (neg : Bool) (x : D) (y : D) (M : Mem) (Q : WK) : Prop := isNon y = true ∧ Q (.bl (if neg then !isNon x else isNon x)) M
theorem den_isNon {x : D} {v : V} (d : Den K F x v) : decide (v = .non) = isNon x := by
  cases x with
  | non => cases d; rfl
  | bl _ => cases d; rfl
  | int _ => cases d; rfl
  | str _ => cases d; rfl
  | ref _ => cases d; rfl
  | ty _ => cases d; rfl
  | tup _ => obtain ⟨_, _, rfl, _⟩ := d; rfl
  | lst _ => obtain ⟨_, _, rfl, _⟩ := d; rfl
  | dic _ _ => obtain ⟨_, _, _, rfl, _⟩ := d; rfl
  | obj _ _ _ => obtain ⟨_, _, _, rfl, _⟩ := d; rfl
  | exn _ _ _ => obtain ⟨_, _, _, rfl, _⟩ := d; rfl
  | oth _ _ => obtain ⟨⟨_, rfl⟩, _⟩ := d; rfl
instance lf_isNo {neg : Bool} : LfR K E Ξ (rIsNo neg) (wIsNo neg) := ⟨fun {x y M Q} h {F G H v u} s o dx dy {R} k => by
  refine ⟨?_, ?_⟩
  · have := den_isNon dy
    rw [h.1] at this
    exact of_decide_eq_true this
  · rw [den_isNon dx]
    exact k _ M _ F H h.2 Ext.refl s rfl⟩
/-- in, not in -/
def rInSub (neg : Bool) : R2 := fun x y H Q => ∃ i j, x = .str i ∧ y = .str j ∧ Q (.bl (if neg then !(!(Builtin.Str.occurrences j i 0 j.length 1).isEmpty) else !(Builtin.Str.occurrences j i 0 j.length 1).isEmpty)) H
def rInSgn (neg : Bool) : R2 := fun x y H Q => ∃ (c : Nat) (z : Str), x = .str ⟨#[c]⟩ ∧ y = .str z ∧ Q (.bl (if neg then !decide (c ∈ z.cps.toList) else decide (c ∈ z.cps.toList))) H
def rInD (neg : Bool) : R2 := fun y x H Q => ∃ a o, x = .ref a ∧ DGet H a y o ∧ Q (.bl (if neg then !o.isSome else o.isSome)) H
def rInA (K : Frag) (neg : Bool) : R2 := fun x y H Q => (rIn K neg x y H Q ∨ rInD neg x y H Q) ∨ (rInSgn neg x y H Q ∨ rInSub neg x y H Q)
theorem dgetZ {H : Hp} {a : Addr} {o : Obj} {kvs : List (Key × V)} {k : Key} (e : H a = some (.frz o (.dK kvs))) : DGet H a (kV k) (valV kvs k) := .inl ⟨kvs, k, .inr ⟨o, e⟩, rfl, rfl⟩
/-- a text in a text -/
def inStr (i j : Str) : Bool := if i.cps.size = 1 then decide (i.cps.getD 0 0 ∈ j.cps.toList) else !(Builtin.Str.occurrences j i 0 j.length 1).isEmpty
def flatD : D → Bool
  | .non => true | .bl _ => true | .int _ => true | .str _ => true
  | _ => false
def eqF : D → D → Bool
  | .non, .non => true
  | .bl a, .bl b => a == b
  | .bl a, .int b => (if a then 1 else 0) == b
  | .int a, .bl b => a == (if b then 1 else 0)
  | .int a, .int b => a == b
  | .str a, .str b => a == b
  | _, _ => false
theorem flat_of {x : D} {v : V} (d : Den K F x v) (h : flatD x = true) : flatV v = true := by
  cases x <;> first | (cases d; rfl) | (cases h)
theorem eqF_of {x y : D} {v u : V} (dx : Den K F x v) (dy : Den K F y u) (hx : flatD x = true) (hy : flatD y = true) : eqV v u = eqF x y := by
  cases x <;> first | (cases hx; done) | (cases dx; cases y <;> first | (cases hy; done) | (cases dy; rfl))
theorem flatL_of : ∀ {l : List D} {xs : List V}, DenL K F l xs → l.all flatD = true → xs.all flatV = true
  | [], _, h, _ => by rw [show _ = [] from h]; rfl
  | d :: r, _, ⟨x, xs, h1, h2, h3⟩, q => by
    subst h1
    rw [List.all_cons, Bool.and_eq_true] at q ⊢
    exact ⟨flat_of h2 q.1, flatL_of h3 q.2⟩
theorem inF_of {x : D} {v : V} (dx : Den K F x v) (hx : flatD x = true) : ∀ {l : List D} {xs : List V}, DenL K F l xs → l.all flatD = true → inV v xs = l.any fun y => eqF y x
  | [], _, h, _ => by rw [show _ = [] from h]; rfl
  | d :: r, _, ⟨y, ys, h1, h2, h3⟩, q => by
    subst h1
    rw [List.all_cons, Bool.and_eq_true] at q
    show (eqV y v || inV v ys) = (eqF d x || r.any fun y => eqF y x)
    rw [eqF_of h2 dx q.1 hx, inF_of dx hx h3 q.2]
def keyOf : D → Option Key
  | .int i => some (.inl i)
  | .str x => some (.inr x)
  | _ => none
theorem key_of {x : D} {v : V} {k : Key} (d : Den K F x v) (h : keyOf x = some k) : v = kV k := by
  cases x <;> first | (cases h; done) | (cases d; cases h; rfl)
def lk {κ α : Type} [DecidableEq κ] : List (κ × α) → κ → Option α
  | [], _ => none
  | p :: r, k => if p.1 = k then some p.2 else lk r k
theorem lk_valV {κ : Type} [DecidableEq κ] : ∀ (l : List (κ × V)) (k : κ), valV l k = lk l k
  | [], _ => rfl
  | p :: r, k => by
    unfold lk
    by_cases e : p.1 = k
    · rw [if_pos e, valV_pos e]
    · rw [if_neg e, valV_neg e, lk_valV r k]
theorem lk_den {κ : Type} [DecidableEq κ] : ∀ {l : List (κ × D)} {xs : List (κ × V)} (k : κ), DenP K F l xs → (∀ d, lk l k = some d → ∃ v, lk xs k = some v ∧ Den K F d v) ∧ ((lk xs k).isSome = (lk l k).isSome)
  | [], xs, k, ⟨h1, h2⟩ => by
    have : xs = [] := by
      have := congrArg List.length h1
      simpa using this.symm
    subst this
    exact ⟨fun d e => (nomatch e), rfl⟩
  | p :: r, xs, k, ⟨h1, h2⟩ => by
    cases xs with
    | nil => cases h1
    | cons q xs =>
      simp only [List.map_cons, List.cons.injEq] at h1
      obtain ⟨x, rr, e1, d1, d2⟩ := h2
      simp only [List.map_cons, List.cons.injEq] at e1
      obtain ⟨rfl, rfl⟩ := e1
      unfold lk
      by_cases e : p.1 = k
      · rw [if_pos e, if_pos (h1.1.symm.trans e)]
        exact ⟨fun d z => by cases z; exact ⟨_, rfl, d1⟩, rfl⟩
      · rw [if_neg e, if_neg (fun z => e (h1.1.trans z))]
        exact lk_den k ⟨h1.2, d2⟩
theorem den_zip {κ : Type} {ks : List κ} {l : List D} {xs : List V} (h : ks.length = xs.length) (d : DenL K F l xs) : DenP K F (ks.zip l) (ks.zip xs) := by
  have hl := d.len
  refine ⟨?_, ?_⟩
  · rw [List.map_fst_zip (by omega), List.map_fst_zip (by omega)]
  · rw [List.map_snd_zip (by omega), List.map_snd_zip (by omega)]
    exact d
def inL (x : D) (l : List D) : Option Bool := if flatD x && l.all flatD then some (l.any fun y => eqF y x) else none
def inM (x : D) (mb : MB) : Option Bool := match mb with
  | .lst l => inL x l
  | .dic kvs => (keyOf x).map fun k => (lk kvs k).isSome
  | .lk kvs _ _ => (keyOf x).map fun k => (lk kvs k).isSome
  | .ins _ _ => none
  | .oth _ _ _ => none
def inD (x y : D) : Option Bool := match y with
  | .str j => (match x with
    | .str i => some (inStr i j)
    | _ => none)
  | .lst l => inL x l
  | .tup l => inL x l
  | .dic ks l => (keyOf x).map fun k => (lk (ks.zip l) k).isSome
  | _ => none
def wIn (neg : Bool) (x y : D) (M : Mem) (Q : WK) : Prop := match y with
  | .ref p => ∃ φ, M p = some φ ∧ ∀ mb, φ mb → ∃ b, inM x mb = some b ∧ Q (.bl (if neg then !b else b)) (mset M p (· = mb))
  | y => ∃ b, inD x y = some b ∧ Q (.bl (if neg then !b else b)) M
theorem inL_some {x : D} {l : List D} {b : Bool} (h : inL x l = some b) : flatD x = true ∧ l.all flatD = true ∧ b = l.any fun y => eqF y x := by
  unfold inL at h
  by_cases e : (flatD x && l.all flatD) = true
  · rw [if_pos e] at h
    cases h
    exact ⟨(Bool.and_eq_true_iff.mp e).1, (Bool.and_eq_true_iff.mp e).2, rfl⟩
  · rw [if_neg e] at h; cases h
instance lf_in {neg : Bool} : LfR K E Ξ (rInA K neg) (wIn neg) := ⟨fun {x y M Q} h {F G H v u} s o dx dy {R} k => by
  cases y with
  | str j =>
    obtain ⟨b, e, h⟩ := h
    cases x with
    | str i =>
      cases dx; cases dy
      have eb : inStr i j = b := Option.some.inj (show some (inStr i j) = some b from e)
      subst eb
      unfold inStr at h
      by_cases e : i.cps.size = 1
      · simp only [if_pos e] at h
        obtain ⟨c, hc⟩ : ∃ c, i = ⟨#[c]⟩ := by
          obtain ⟨⟨l⟩⟩ := i
          match l, e with
          | [c], _ => exact ⟨c, rfl⟩
        subst hc
        exact .inr (.inl ⟨c, j, rfl, rfl, k _ M _ F H h Ext.refl s rfl⟩)
      · simp only [if_neg e] at h
        exact .inr (.inr ⟨i, j, rfl, rfl, k _ M _ F H h Ext.refl s rfl⟩)
    | _ => cases e
  | lst l =>
    obtain ⟨b, e, h⟩ := h
    obtain ⟨f1, f2, rfl⟩ := inL_some (show inL x l = some b from e)
    obtain ⟨p, xs, rfl, q, d⟩ := dy
    refine .inl (.inl ⟨p, xs, rfl, .inl (sql_ext s.sub q), flat_of dx f1, flatL_of d f2, ?_⟩)
    rw [inF_of dx f1 d f2]
    exact k _ M _ F H h Ext.refl s rfl
  | tup l =>
    obtain ⟨b, e, h⟩ := h
    obtain ⟨f1, f2, rfl⟩ := inL_some (show inL x l = some b from e)
    obtain ⟨p, xs, rfl, q, d⟩ := dy
    refine .inl (.inl ⟨p, xs, rfl, .inr (sqt_ext s.sub q), flat_of dx f1, flatL_of d f2, ?_⟩)
    rw [inF_of dx f1 d f2]
    exact k _ M _ F H h Ext.refl s rfl
  | dic ks l =>
    obtain ⟨b, e, h⟩ := h
    obtain ⟨kk, f1, eb⟩ := Option.map_eq_some_iff.mp (show ((keyOf x).map fun k => (lk (ks.zip l) k).isSome) = some b from e)
    subst eb
    obtain ⟨p, ob, xs, rfl, q, hl, d⟩ := dy
    have e := key_of dx f1
    subst e
    refine .inl (.inr ⟨p, _, rfl, dgetZ (k := kk) (s.sub _ _ q), ?_⟩)
    rw [lk_valV, (lk_den kk (den_zip hl d)).2]
    exact k _ M _ F H h Ext.refl s rfl
  | ref p =>
    obtain ⟨φ, hp, h⟩ := h
    obtain ⟨mb, ho, g1, g2, g3, s'⟩ := s.tell hp
    obtain ⟨b, e, h⟩ := h mb g1
    cases dy
    cases mb with
    | lst l =>
      obtain ⟨f1, f2, rfl⟩ := inL_some (show inL x l = some b from e)
      obtain ⟨xs, rfl, d⟩ := g3
      refine .inl (.inl ⟨p, xs, rfl, .inl (SqL.of g2), flat_of dx f1, flatL_of d f2, ?_⟩)
      rw [inF_of dx f1 d f2]
      exact k _ _ _ F H h Ext.refl s' rfl
    | dic kvs =>
      obtain ⟨kk, f1, eb⟩ := Option.map_eq_some_iff.mp (show ((keyOf x).map fun k => (lk kvs k).isSome) = some b from e)
      subst eb
      obtain ⟨xs, rfl, d⟩ := g3
      have e := key_of dx f1
      subst e
      refine .inl (.inr ⟨p, _, rfl, DGet.k (k := kk) g2, ?_⟩)
      rw [lk_valV, (lk_den kk d).2]
      exact k _ _ _ F H h Ext.refl s' rfl
    | lk kvs od xs =>
      obtain ⟨kk, f1, eb⟩ := Option.map_eq_some_iff.mp (show ((keyOf x).map fun k => (DL.lk kvs k).isSome) = some b from e)
      subst eb
      obtain ⟨rfl, d⟩ := g3
      have e := key_of dx f1
      subst e
      refine .inl (.inr ⟨p, _, rfl, dgetZ (k := kk) g2, ?_⟩)
      rw [lk_valV, (lk_den kk d).2]
      exact k _ _ _ F H h Ext.refl s' rfl
    | ins _ _ => cases e
    | oth _ _ _ => cases e
  | _ => obtain ⟨b, e, h⟩ := h; cases e⟩
/-! ### subscripts -/
def rIxD : R2 := fun x y H Q => ∃ a v, x = .ref a ∧ DGet H a y (some v) ∧ Q v H
theorem ix_dict {X : Cx} (hu : X.A.units + 1 < cLine) : IxR X rIxD := by
  intro value slice pins s σ H x y v u Q I rx ry h hs
  obtain ⟨a, z, rfl, g, q⟩ := h
  obtain rfl : v = Value.ref a := rx
  exact tail_any (dict_typeIs I g) PySem.F.slot_dict_getitem.lookup (d_getItem hu I g ry fun w' s' I' rw' => ⟨z, H, I', rw', q⟩) hs
def rIxA (K : Frag) : R2 := fun x y H Q => rIx K x y H Q ∨ rIxD x y H Q
theorem ix_all {X : Cx} (hu : X.A.units + 1 < cLine) : IxR X (rIxA X.K) := ix_seq.or (ix_dict hu)
/-- an item, a dict's value -/
def ixD (x y : D) : Option D := match x, y with
  | .lst l, .int i => atI l i
  | .tup l, .int i => atI l i
  | .dic ks l, y => (keyOf y).bind fun k => lk (ks.zip l) k
  | _, _ => none
def ixM (mb : MB) (y : D) : Option D := match mb, y with
  | .lst l, .int i => atI l i
  | .dic kvs, y => (keyOf y).bind fun k => lk kvs k
  | .lk kvs _ _, y => (keyOf y).bind fun k => lk kvs k
  | _, _ => none
def wIx (x y : D) (M : Mem) (Q : WK) : Prop := match x with
  | .str z => ∃ i c, y = .int i ∧ z.length ≤ sizeLine ∧ atI z.cps.toList i = some c ∧ Q (.str ⟨#[c]⟩) M
  | .ref p => ∃ φ, M p = some φ ∧ ∀ mb, φ mb → ∃ d, ixM mb y = some d ∧ Q d (mset M p (· = mb))
  | x => ∃ d, ixD x y = some d ∧ Q d M
theorem atI_den {l : List D} {xs : List V} {i : Int} {d : D} (h : DenL K F l xs) (e : atI l i = some d) : ∃ v, atI xs i = some v ∧ Den K F d v := by
  unfold atI at e ⊢
  rw [← h.len]
  obtain ⟨j, e1, e2⟩ := Option.bind_eq_some_iff.mp e
  obtain ⟨v, h1, h2⟩ := h.get e2
  exact ⟨v, by rw [e1]; exact h1, h2⟩
instance lf_ix : LfR K E Ξ (rIxA K) wIx := ⟨fun {x y M Q} h {F G H v u} s o dx dy {R} k => by
  cases x with
  | lst l =>
    obtain ⟨d, e, h⟩ := h
    cases y with
    | int i =>
      obtain ⟨p, xs, rfl, q, dl⟩ := dx
      cases dy
      obtain ⟨w, e2, dw⟩ := atI_den dl e
      exact .inl (.inl ⟨p, xs, i, w, rfl, rfl, sql_ext s.sub q, e2, k _ M _ F H h Ext.refl s dw⟩)
    | _ => cases e
  | tup l =>
    obtain ⟨d, e, h⟩ := h
    cases y with
    | int i =>
      obtain ⟨p, xs, rfl, q, dl⟩ := dx
      cases dy
      obtain ⟨w, e2, dw⟩ := atI_den dl e
      exact .inl (.inr (.inl ⟨p, xs, i, w, rfl, rfl, sqt_ext s.sub q, e2, k _ M _ F H h Ext.refl s dw⟩))
    | _ => cases e
  | str z =>
    obtain ⟨i, c, rfl, hz, e, h⟩ := h
    cases dx; cases dy
    exact .inl (.inr (.inr ⟨z, i, c, rfl, rfl, hz, e, k _ M _ F H h Ext.refl s rfl⟩))
  | dic ks l =>
    obtain ⟨d, e, h⟩ := h
    obtain ⟨kk, f1, e⟩ := Option.bind_eq_some_iff.mp (show ((keyOf y).bind fun k => lk (ks.zip l) k) = some d from e)
    obtain ⟨p, ob, xs, rfl, q, hl, dl⟩ := dx
    have ek := key_of dy f1
    subst ek
    obtain ⟨w, e2, dw⟩ := (lk_den kk (den_zip hl dl)).1 d e
    refine .inr ⟨p, w, rfl, ?_, k _ M _ F H h Ext.refl s dw⟩
    have g := dgetZ (k := kk) (s.sub _ _ q)
    rw [lk_valV, e2] at g
    exact g
  | ref p =>
    obtain ⟨φ, hp, h⟩ := h
    obtain ⟨mb, ho, g1, g2, g3, s'⟩ := s.tell hp
    obtain ⟨d, e0, hq⟩ := h mb g1
    clear h
    cases dx
    cases mb with
    | lst l =>
      obtain ⟨xs, rfl, dl⟩ := g3
      cases y with
      | int i =>
        cases dy
        obtain ⟨w, e2, dw⟩ := atI_den dl e0
        exact .inl (.inl ⟨p, xs, i, w, rfl, rfl, SqL.of g2, e2, k _ _ _ F H hq Ext.refl s' dw⟩)
      | _ => cases e0
    | dic kvs =>
      obtain ⟨kk, f1, e⟩ := Option.bind_eq_some_iff.mp (show ((keyOf y).bind fun k => lk kvs k) = some d from e0)
      obtain ⟨xs, rfl, dl⟩ := g3
      have ek := key_of dy f1
      subst ek
      obtain ⟨w, e2, dw⟩ := (lk_den kk dl).1 d e
      refine .inr ⟨p, w, rfl, ?_, k _ _ _ F H hq Ext.refl s' dw⟩
      have g := DGet.k (k := kk) g2
      rw [lk_valV, e2] at g
      exact g
    | lk kvs od xs =>
      obtain ⟨kk, f1, e⟩ := Option.bind_eq_some_iff.mp (show ((keyOf y).bind fun k => DL.lk kvs k) = some d from e0)
      obtain ⟨rfl, dl⟩ := g3
      have ek := key_of dy f1
      subst ek
      obtain ⟨w, e2, dw⟩ := (lk_den kk dl).1 d e
      refine .inr ⟨p, w, rfl, ?_, k _ _ _ F H hq Ext.refl s' dw⟩
      have g := dgetZ (k := kk) g2
      rw [lk_valV, e2] at g
      exact g
    | ins _ _ => cases y <;> cases e0
    | oth _ _ _ => cases y <;> cases e0
  | _ => obtain ⟨d, e, h⟩ := h; cases y <;> cases e⟩
/-! ### o[i] = v -/
theorem PSet.or {X : Cx} {t t' : TSet} (h : PSet X t) (h' : PSet X t') : PSet X (fun o i v H Q => t o i v H Q ∨ t' o i v H Q) := by
  intro pins s σ H o i v ov iv u Q I r1 r2 r3 q
  rcases q with q | q
  · exact h pins s σ H o i v ov iv u Q I r1 r2 r3 q
  · exact h' pins s σ H o i v ov iv u Q I r1 r2 r3 q
def rSetD : TSet := fun o i v H Q => ∃ a H', o = .ref a ∧ DPut H a i v H' ∧ Q H'
theorem set_dict {X : Cx} (hu : X.A.units + 1 < cLine) : PSet X rSetD := by
  intro pins s σ H o i v ov iv u Q I r1 r2 r3 h
  obtain ⟨a, H', rfl, g, q⟩ := h
  obtain rfl : ov = Value.ref a := r1
  exact d_setItem hu I g r2 r3 fun s4 I4 => ⟨H', I4, q⟩
def rSetA : TSet := fun o i v H Q => rSetL o i v H Q ∨ rSetD o i v H Q
theorem set_all {X : Cx} (hu : X.A.units + 1 < cLine) : PSet X rSetA := PSet.or set_list (set_dict hu)
def putD {κ : Type} [DecidableEq κ] (kvs : List (κ × D)) (k : κ) (v : D) : List (κ × D) :=
  if (kvs.any fun kv => decide (kv.1 = k)) = true then kvs.map (fun kv => if kv.1 = k then (kv.1, v) else kv) else kvs ++ [(k, v)]
theorem denP_cons {κ : Type} {p : κ × D} {r : List (κ × D)} {xs : List (κ × V)} (h : DenP K F (p :: r) xs) : ∃ v rs, xs = (p.1, v) :: rs ∧ Den K F p.2 v ∧ DenP K F r rs := by
  obtain ⟨h1, h2⟩ := h
  cases xs with
  | nil => cases h1
  | cons q xs =>
    simp only [List.map_cons, List.cons.injEq] at h1
    obtain ⟨x, rr, e1, d1, d2⟩ := h2
    simp only [List.map_cons, List.cons.injEq] at e1
    obtain ⟨q1, q2⟩ := q
    obtain ⟨rfl, rfl⟩ := e1
    obtain ⟨rfl, h3⟩ := h1
    exact ⟨_, xs, rfl, d1, h3, d2⟩
theorem DenP.cons {κ : Type} {k : κ} {d : D} {v : V} {r : List (κ × D)} {rs : List (κ × V)} (h : Den K F d v) (t : DenP K F r rs) : DenP K F ((k, d) :: r) ((k, v) :: rs) :=
  ⟨by rw [List.map_cons, List.map_cons, t.1], _, _, rfl, h, t.2⟩
theorem DenP.nil {κ : Type} : DenP K F ([] : List (κ × D)) ([] : List (κ × V)) := ⟨rfl, rfl⟩
theorem denP_nil {κ : Type} {xs : List (κ × V)} (h : DenP K F ([] : List (κ × D)) xs) : xs = [] := by
  have := congrArg List.length h.1
  simpa using this.symm
theorem denP_any {κ : Type} [DecidableEq κ] {k : κ} : ∀ {l : List (κ × D)} {xs : List (κ × V)}, DenP K F l xs → (xs.any fun kv => decide (kv.1 = k)) = (l.any fun kv => decide (kv.1 = k))
  | [], _, h => by rw [denP_nil h] <;> rfl
  | p :: r, _, h => by
    obtain ⟨v, rs, rfl, _, t⟩ := denP_cons h
    rw [List.any_cons, List.any_cons, denP_any t]
theorem denP_map {κ : Type} [DecidableEq κ] {k : κ} {d : D} {v : V} (hd : Den K F d v) : ∀ {l : List (κ × D)} {xs : List (κ × V)}, DenP K F l xs → DenP K F (l.map fun kv => if kv.1 = k then (kv.1, d) else kv) (xs.map fun kv => if kv.1 = k then (kv.1, v) else kv)
  | [], _, h => by rw [denP_nil h]; exact DenP.nil
  | p :: r, _, h => by
    obtain ⟨w, rs, rfl, dw, t⟩ := denP_cons h
    rw [List.map_cons, List.map_cons]
    by_cases e : p.1 = k
    · simp only [e, if_true]; exact DenP.cons hd (denP_map hd t)
    · simp only [e, if_false]; exact DenP.cons dw (denP_map hd t)
theorem DenP.append {κ : Type} : ∀ {l m : List (κ × D)} {xs ys : List (κ × V)}, DenP K F l xs → DenP K F m ys → DenP K F (l ++ m) (xs ++ ys)
  | [], _, _, _, h, g => by rw [denP_nil h]; exact g
  | p :: r, _, _, _, h, g => by
    obtain ⟨w, rs, rfl, dw, t⟩ := denP_cons h
    exact DenP.cons dw (DenP.append t g)
theorem denP_put {κ : Type} [DecidableEq κ] {k : κ} {d : D} {v : V} {l : List (κ × D)} {xs : List (κ × V)} (h : DenP K F l xs) (hd : Den K F d v) : DenP K F (putD l k d) (putK xs k v) := by
  unfold putD putK
  rw [denP_any h]
  by_cases e : (l.any fun kv => decide (kv.1 = k)) = true
  · rw [if_pos e, if_pos e]; exact denP_map hd h
  · rw [if_neg e, if_neg e]; exact h.append (DenP.cons hd DenP.nil)
theorem DenP.len {κ : Type} {l : List (κ × D)} {xs : List (κ × V)} (h : DenP K F l xs) : l.length = xs.length := by
  have := congrArg List.length h.1
  simpa using this
abbrev WSet := D → D → D → Mem → (Mem → Prop) → Prop
class LfSet (K : Frag) (E : XS) (Ξ : DX) (t : TSet) (w : outParam WSet) : Prop where
  run : ∀ {o i x : D} {M : Mem} {Q : Mem → Prop}, w o i x M Q → ∀ {F G H : Hp} {ov iv v : V}, Sat K F M G H → EOk K F G Ξ E → Den K F o ov → Den K F i iv → Den K F x v → ∀ {R : Hp → Prop}, (∀ M' F' H', Q M' → Ext F F' → Sat K F' M' G H' → R H') → t ov iv v H R
def setM (mb : MB) (i x : D) : Option MB := match mb, i with
  | .lst l, .int n => (ixN l.length n).map fun j => .lst (l.set j x)
  | .dic kvs, i => if kvs.length < sizeLine then (keyOf i).map fun k => .dic (putD kvs k x) else none
  | _, _ => none
def wSet (o i x : D) (M : Mem) (Q : Mem → Prop) : Prop := ∃ p, o = .ref p ∧ ∃ φ, M p = some φ ∧ ∀ mb, φ mb → ∃ mb', setM mb i x = some mb' ∧ Q (mset M p (· = mb'))
instance lf_set : LfSet K E Ξ rSetA wSet := ⟨fun {o i x M Q} h {F G H ov iv v} s oo d1 d2 d3 {R} k => by
  obtain ⟨p, rfl, φ, hp, h⟩ := h
  obtain ⟨ho, g2, mb, g1, g3⟩ := s.mem p _ hp
  obtain ⟨mb', e, h⟩ := h mb g1
  cases d1
  cases mb with
  | lst l =>
    cases i with
    | int n =>
      obtain ⟨j, ej, e⟩ := Option.map_eq_some_iff.mp (show ((ixN l.length n).map fun j => MB.lst (l.set j x)) = some mb' from e)
      subst e
      obtain ⟨xs, rfl, dl⟩ := g3
      cases d2
      refine .inl ⟨p, xs, n, j, rfl, rfl, g2, by rw [← dl.len]; exact ej, k _ _ _ h Ext.refl (s.write hp ⟨_, rfl, _, rfl, DenL.set d3 j dl⟩)⟩
    | _ => cases e
  | dic kvs =>
    have e : (if kvs.length < sizeLine then (keyOf i).map fun k => MB.dic (putD kvs k x) else none) = some mb' := e
    by_cases hz : kvs.length < sizeLine
    · rw [if_pos hz] at e
      obtain ⟨kk, ek, e⟩ := Option.map_eq_some_iff.mp e
      subst e
      obtain ⟨xs, rfl, dl⟩ := g3
      have ek := key_of d2 ek
      subst ek
      exact .inr ⟨p, _, rfl, DPut.k (k := kk) g2 (by rw [← dl.len]; exact hz), k _ _ _ h Ext.refl (s.write hp ⟨_, rfl, _, rfl, denP_put dl d3⟩)⟩
    · rw [if_neg hz] at e; cases e
  | lk _ _ _ => cases i <;> cases e
  | ins _ _ => cases i <;> cases e
  | oth _ _ _ => cases i <;> cases e⟩
def wGSub (wo wi : WE) (t : WSet) (x : D) (δ : DE) (M : Mem) (Q : DE → Mem → Prop) : Prop := wo δ M fun o M1 => wi δ M1 fun i M2 => t o i x M2 fun M3 => Q δ M3
instance lf_gsub {to ti : TE} {wo wi : WE} {t : TSet} {wt : WSet} [a : LfE K E Ξ to wo] [b : LfE K E Ξ ti wi] [c : LfSet K E Ξ t wt] : LfG K E Ξ (gSub to ti t) (wGSub wo wi wt) [] := ⟨fun {x δ M Q} h {σ F G H v} e s o d {R} k =>
  a.run h e s o fun od M1 ov F1 H1 h1 x1 s1 d1 => b.run h1 (e.ext x1) s1 (o.ext x1) fun id M2 iv F2 H2 h2 x2 s2 d2 =>
    c.run h2 s2 ((o.ext x1).ext x2) (d1.ext x2) d2 ((d.ext x1).ext x2) fun M3 F3 H3 h3 x3 s3 => k δ M3 σ F3 H3 h3 ((x1.trans x2).trans x3) (((e.ext x1).ext x2).ext x3) s3 Keeps.refl⟩
end
end DL
set_option Elab.async false
set_option linter.all false
set_option maxRecDepth 100000
namespace DL
open PySem L2 PyProof.Rows
section
variable {K : Frag} {E : XS} {Ξ : DX}
/-! ### what is walked -/
/-- the iterator gives these, whatever is added meanwhile -/
structure ItOk (K : Frag) (F : Hp) (J : It) (ds : List D) : Prop where
  go : ∀ (i : Nat) (F' : Hp) (M : Mem) (G H : Hp), i < ds.length → Ext F F' → Sat K F' M G H → J.go i H
  yld : ∀ (i : Nat) (F' : Hp) (M : Mem) (G H H2 : Hp) (x : V), i < ds.length → Ext F F' → Sat K F' M G H → J.yld i H x H2 → ∃ (d : D) (F2 : Hp), ds[i]? = some d ∧ Ext F' F2 ∧ Sat K F2 M G H2 ∧ Den K F2 d x
  stop : ∀ (F' : Hp) (M : Mem) (G H : Hp), Ext F F' → Sat K F' M G H → J.stop ds.length H
theorem ItOk.ext {F F' : Hp} {J : It} {ds : List D} (h : ItOk K F J ds) (e : Ext F F') : ItOk K F' J ds :=
  ⟨fun i F2 M G H l x s => h.go i F2 M G H l (e.trans x) s, fun i F2 M G H H2 x l y s q => h.yld i F2 M G H H2 x l (e.trans y) s q, fun F2 M G H x s => h.stop F2 M G H (e.trans x) s⟩
theorem it_list {F : Hp} {a : Addr} {xs : List V} {ds : List D} (q : SqL K F a xs) (d : DenL K F ds xs) : ItOk K F (Itl K a) ds where
  go := fun i F' M G H l e s => ⟨xs, xs[i]'(by rw [← d.len]; exact l), sql_ext s.sub (sql_ext e q), by rw [List.getElem?_eq_getElem]⟩
  yld := fun i F' M G H H2 x l e s y => by
    obtain ⟨e1, y⟩ := y
    subst e1
    obtain ⟨z, h1, h2⟩ := d.get' (y xs (sql_ext s.sub (sql_ext e q)))
    exact ⟨z, F', h1, Ext.refl, s, h2.ext e⟩
  stop := fun F' M G H e s => ⟨xs, sql_ext s.sub (sql_ext e q), by rw [d.len]; exact Nat.le_refl _⟩
theorem it_tup {F : Hp} {a : Addr} {xs : List V} {ds : List D} (q : SqT K F a xs) (d : DenL K F ds xs) : ItOk K F (Itt K a) ds where
  go := fun i F' M G H l e s => ⟨xs, xs[i]'(by rw [← d.len]; exact l), sqt_ext s.sub (sqt_ext e q), by rw [List.getElem?_eq_getElem]⟩
  yld := fun i F' M G H H2 x l e s y => by
    obtain ⟨e1, y⟩ := y
    subst e1
    obtain ⟨z, h1, h2⟩ := d.get' (y xs (sqt_ext s.sub (sqt_ext e q)))
    exact ⟨z, F', h1, Ext.refl, s, h2.ext e⟩
  stop := fun F' M G H e s => ⟨xs, sqt_ext s.sub (sqt_ext e q), by rw [d.len]; exact Nat.le_refl _⟩
def rngD (lo : Int) (n : Nat) : List D := (List.range n).map fun (i : Nat) => D.int (lo + (i : Int))
theorem rngD_len {lo : Int} {n : Nat} : (rngD lo n).length = n := by unfold rngD; rw [List.length_map, List.length_range]
theorem rngD_at {lo : Int} {n i : Nat} (h : i < n) : (rngD lo n)[i]? = some (.int (lo + (i : Int))) := by
  unfold rngD
  rw [List.getElem?_map, List.getElem?_range h]
  rfl
theorem it_rng {F : Hp} {lo : Int} {n : Nat} : ItOk K F (Itr lo n) (rngD lo n) where
  go := fun i F' M G H l e s => by rw [rngD_len] at l; exact l
  yld := fun i F' M G H H2 x l e s y => by
    obtain ⟨e1, y⟩ := y
    subst e1 y
    rw [rngD_len] at l
    exact ⟨_, F', rngD_at l, Ext.refl, s, rfl⟩
  stop := fun F' M G H e s => by rw [rngD_len]; exact Nat.le_refl _
def sgnD (x : Str) : List D := x.cps.toList.map fun c => D.str ⟨#[c]⟩
theorem it_str {F : Hp} {x : Str} : ItOk K F (Its x) (sgnD x) where
  go := fun i F' M G H l e s => by
    unfold sgnD at l
    show i < x.cps.size
    simpa using l
  yld := fun i F' M G H H2 v l e s y => by
    obtain ⟨e1, c, y1, y2⟩ := y
    subst e1 y2
    refine ⟨.str ⟨#[c]⟩, F', ?_, Ext.refl, s, rfl⟩
    unfold sgnD
    rw [List.getElem?_map, Array.getElem?_toList, y1]
    rfl
  stop := fun F' M G H e s => by
    show x.cps.size ≤ (sgnD x).length
    unfold sgnD
    simp
abbrev WI := DE → Mem → (List D → Mem → Prop) → Prop
class LfI (K : Frag) (E : XS) (Ξ : DX) (t : TI) (W : outParam WI) : Prop where
  run : ∀ {δ : DE} {M : Mem} {Q : List D → Mem → Prop}, W δ M Q → ∀ {σ : L2.St} {F G H : Hp}, EnvOk K F δ σ → Sat K F M G H → EOk K F G Ξ E → ∀ {R : It → Hp → Prop}, (∀ ds M' J F' H', Q ds M' → Ext F F' → Sat K F' M' G H' → ItOk K F' J ds → R J H') → t σ H R
/-- a list, a tuple, a text -/
def iSeq (K : Frag) (tl : TE) : TI := fun σ H R => tl σ H fun x H1 => (∃ a xs, x = .ref a ∧ SqL K H1 a xs ∧ R (Itl K a) H1) ∨ (∃ a xs, x = .ref a ∧ SqT K H1 a xs ∧ R (Itt K a) H1) ∨ (∃ z, x = .str z ∧ R (Its z) H1) ∨ ∃ d o kvs, x = .ref d ∧ H1 d = some (.frz o (.dK kvs)) ∧ R (Itk d o kvs) H1
theorem pi_seq {X : Cx} {tg l : Expr} {tl : TE} (hl : PE X l tl) : PI X tg l (iSeq X.K tl) := by
  refine ⟨fun pins s σ H R I h => ?_⟩
  refine thn (hl.run pins s σ H _ I h) fun v s1 ⟨x, H1, I1, r1, q1⟩ => ?_
  rcases q1 with ⟨a, xs, e, hq, q⟩ | ⟨a, xs, e, hq, q⟩ | ⟨z, e, q⟩ | ⟨d, o, kvs, e, hd, q⟩
  · subst e
    cases r1
    obtain ⟨its, rv, p, hz⟩ := I1.list hq
    exact wpAny_pyIter_list p.isList (pi_one (tk := s1.toks) I1 _ (turn_list a _) ⟨_, Heap.get?_push_size _ rfl, rfl, rfl⟩ q)
  · subst e
    cases r1
    obtain ⟨its, rv, p, hz⟩ := I1.tuple hq
    exact wpAny_pyIter_tuple (show s1.heap.IsTuple a its.toArray from p) (pi_one (tk := s1.toks) I1 _ (turn_tuple a _) ⟨_, Heap.get?_push_size _ rfl, rfl, rfl⟩ q)
  · subst e
    obtain ⟨t, rfl⟩ := r1
    cases ha : z.cps.all (· < 128)
    · exact wpAny_pyIter_wide ha (pi_one (tk := s1.toks) I1 _ (turn_str _ z t "str_iterator" (.inr rfl)) ⟨_, Heap.get?_push_size _ rfl, rfl, rfl⟩ q)
    · exact wpAny_pyIter_ascii ha (pi_one (tk := s1.toks) I1 _ (turn_str _ z t "str_ascii_iterator" (.inl rfl)) ⟨_, Heap.get?_push_size _ rfl, rfl, rfl⟩ q)
  · subst e
    cases r1
    obtain ⟨hs, hgd, hx, es, ep, vs, hdt, hsz, kv, hm⟩ := I1.frzK hd
    refine iter_keys hs hgd hx hdt (pi_one (tk := s1.toks) I1 _ (turn_keys _ hdt) ?_ q)
    rw [hsz]
    exact ⟨_, Heap.get?_push_size _ rfl, rfl, rfl⟩
def keyD : Key → D
  | .inl i => .int i
  | .inr x => .str x
theorem den_key {F : Hp} : ∀ {k : Key}, Den K F (keyD k) (kV k)
  | .inl _ => rfl
  | .inr _ => rfl
theorem it_keys {F : Hp} {a : Addr} {o : Obj} {ks : List Key} {l : List D} {xs : List V} (q : F a = some (.frz o (.dK (ks.zip xs)))) (hl : ks.length = xs.length) : ItOk K F (Itk a o (ks.zip xs)) (ks.map keyD) where
  go := fun i F' M G H l e s => ⟨s.sub _ _ (e _ _ q), by rw [List.length_zip, ← hl, Nat.min_self]; simpa using l⟩
  yld := fun i F' M G H H2 x l e s y => by
    obtain ⟨e1, k, v, y1, y2⟩ := y
    subst e1 y2
    refine ⟨keyD k, F', ?_, Ext.refl, s, den_key⟩
    rw [List.getElem?_map]
    have := List.getElem?_zip_eq_some.mp y1
    rw [this.1]
    rfl
  stop := fun F' M G H e s => ⟨s.sub _ _ (e _ _ q), by rw [List.length_zip, ← hl, Nat.min_self, List.length_map]; exact Nat.le_refl _⟩
def wSeqI (we : WE) (δ : DE) (M : Mem) (Q : List D → Mem → Prop) : Prop := we δ M fun x M1 => match x with
  | .lst l => Q l M1
  | .tup l => Q l M1
  | .str z => Q (sgnD z) M1
  | .dic ks _ => Q (ks.map keyD) M1
  | _ => False
variable {ta tb te : TE} {wa wb we : WE} {t u c : TT} {wt wu wc : WT} {tl : TA} {wl : WA} {ts us : TS} {ws wr : WS}
instance lf_seqI [a : LfE K E Ξ te we] : LfI K E Ξ (iSeq K te) (wSeqI we) := ⟨fun {δ M Q} h {σ F G H} e s o {R} k =>
  a.run h e s o fun x M1 v F1 H1 h1 x1 s1 d1 => by
    cases x with
    | lst l =>
      obtain ⟨p, xs, rfl, q, d⟩ := d1
      exact .inl ⟨p, xs, rfl, sql_ext s1.sub q, k l M1 _ F1 H1 h1 x1 s1 (it_list q d)⟩
    | tup l =>
      obtain ⟨p, xs, rfl, q, d⟩ := d1
      exact .inr (.inl ⟨p, xs, rfl, sqt_ext s1.sub q, k l M1 _ F1 H1 h1 x1 s1 (it_tup q d)⟩)
    | str z => cases d1; exact .inr (.inr (.inl ⟨z, rfl, k _ M1 _ F1 H1 h1 x1 s1 it_str⟩))
    | dic ks l =>
      obtain ⟨p, od, xs, rfl, q, hl, d⟩ := d1
      exact .inr (.inr (.inr ⟨p, od, _, rfl, s1.sub _ _ q, k _ M1 _ F1 H1 h1 x1 s1 (it_keys (l := l) q hl)⟩))
    | _ => exact h1.elim⟩
def wRng1 (wl : WA) (δ : DE) (M : Mem) (Q : List D → Mem → Prop) : Prop := wl δ M fun xs M1 => ∃ j : Int, xs = [.int j] ∧ -(2 ^ 62) ≤ j ∧ j < 2 ^ 62 ∧ Q (rngD 0 j.toNat) M1
instance lf_rng1 [a : LfA K E Ξ tl wl] : LfI K E Ξ (iRng1 tl) (wRng1 wl) := ⟨fun {δ M Q} h {σ F G H} e s o {R} k =>
  a.run h e s o fun ds M1 vs F1 H1 ⟨j, e1, h1, h2, h3⟩ x1 s1 d1 => by
    subst e1
    obtain ⟨_, _, rfl, rfl, rfl⟩ := d1
    exact ⟨j, rfl, h1, h2, k _ M1 _ F1 H1 h3 x1 s1 it_rng⟩⟩
def wRng2 (wl : WA) (δ : DE) (M : Mem) (Q : List D → Mem → Prop) : Prop := wl δ M fun xs M1 => ∃ i j : Int, xs = [.int i, .int j] ∧ (-(2 ^ 62) ≤ i ∧ i < 2 ^ 62 ∧ -(2 ^ 62) ≤ j ∧ j < 2 ^ 62) ∧ Q (rngD i (j - i).toNat) M1
instance lf_rng2 [a : LfA K E Ξ tl wl] : LfI K E Ξ (iRng2 tl) (wRng2 wl) := ⟨fun {δ M Q} h {σ F G H} e s o {R} k =>
  a.run h e s o fun ds M1 vs F1 H1 ⟨i, j, e1, h1, h3⟩ x1 s1 d1 => by
    subst e1
    obtain ⟨_, _, rfl, rfl, _, _, rfl, rfl, rfl⟩ := d1
    exact ⟨i, j, rfl, h1, k _ M1 _ F1 H1 h3 x1 s1 it_rng⟩⟩
/-! ### for -/
def wFor (wi : WI) (g : WG) (wb : WS) (D : WEnds) (δ : DE) (M : Mem) : Prop := wi δ M fun xs M1 => ∃ I : Nat → DE → Mem → Prop, I 0 δ M1 ∧
  (∀ i x δ M, xs[i]? = some x → I i δ M → g x δ M fun δ2 M2 => wb { D with nx := I (i + 1), ct := I (i + 1), bk := D.nx } δ2 M2) ∧ ∀ δ M, I xs.length δ M → D.nx δ M
instance lf_for {wi : TI} {Wi : WI} {g : TG} {wg : WG} [a : LfI K E Ξ wi Wi] {sl : List Nat} [b : LfG K E Ξ g wg sl] [cc : LfS K E Ξ ts ws] : LfS K E Ξ (tFor wi g ts) (wFor Wi wg ws) := ⟨fun {D δ M} h {σ F G H N} e s o k =>
  a.run h e s o fun xs M1 J F1 H1 ⟨I, i0, turn, done⟩ x1 s1 it => by
    refine ⟨fun i m σ H => m = xs.length - i ∧ i ≤ xs.length ∧ ∃ δ M F2, I i δ M ∧ Ext F1 F2 ∧ EnvOk K F2 δ σ ∧ Sat K F2 M G H, ⟨xs.length, by omega, Nat.zero_le _, δ, M1, F1, i0, Ext.refl, e.ext x1, s1⟩, ?_⟩
    rintro i m σ2 H2 ⟨rfl, hi, δ2, M2, F2, hI, x2, e2, s2⟩
    by_cases l : i < xs.length
    · refine .inr ⟨it.go i F2 M2 G H2 l x2 s2, fun σ3 H3 => ∃ δ3 M3 F3, I (i + 1) δ3 M3 ∧ Ext F1 F3 ∧ EnvOk K F3 δ3 σ3 ∧ Sat K F3 M3 G H3, fun σ3 H3 ⟨δ3, M3, F3, h3, x3, e3, s3⟩ => ⟨xs.length - (i + 1), by omega, rfl, l, δ3, M3, F3, h3, x3, e3, s3⟩, fun x H3 y => ?_⟩
      obtain ⟨d, F3, g1, g2, g3, g4⟩ := it.yld i F2 M2 G H2 H3 x l x2 s2 y
      have x13 := x2.trans g2
      refine b.run (turn i d δ2 M2 g1 hI) (e2.ext g2) g3 ((o.ext x1).ext x13) g4 fun δ4 M4 σ4 F4 H4 q4 x4 e4 s4 _ => ?_
      have x14 := x13.trans x4
      refine cc.run q4 e4 s4 ((o.ext x1).ext x14) ⟨fun δ5 M5 σ5 F5 H5 q5 x5 e5 s5 => ⟨δ5, M5, F5, q5, x14.trans x5, e5, s5⟩, fun d5 M5 v5 F5 H5 q5 x5 s5 d5 => k.rt _ _ _ F5 H5 q5 (x1.trans (x14.trans x5)) s5 d5, fun δ5 M5 σ5 F5 H5 q5 x5 e5 s5 => k.nx _ _ _ F5 H5 q5 (x1.trans (x14.trans x5)) e5 s5, fun δ5 M5 σ5 F5 H5 q5 x5 e5 s5 => ⟨δ5, M5, F5, q5, x14.trans x5, e5, s5⟩⟩
    · have ei : i = xs.length := by omega
      subst ei
      exact .inl ⟨it.stop F2 M2 G H2 x2 s2, k.nx _ _ _ F2 H2 (done δ2 M2 hI) (x1.trans x2) e2 s2⟩⟩
/-! ### while -/
def wWhile (c : WT) (wb : WS) (D : WEnds) (δ : DE) (M : Mem) : Prop := ∃ I : Nat → DE → Mem → Prop, (∃ m, I m δ M) ∧ ∀ m δ M, I m δ M → c δ M fun b M1 => if b = true then wb { D with nx := fun δ M => ∃ m', m' < m ∧ I m' δ M, ct := fun δ M => ∃ m', m' < m ∧ I m' δ M, bk := D.nx } δ M1 else D.nx δ M1
instance lf_while [cl : LfT K E Ξ t wt] [cc : LfS K E Ξ ts ws] : LfS K E Ξ (tWhile t ts) (wWhile wt ws) := ⟨fun {D δ M} ⟨I, ⟨m0, i0⟩, turn⟩ {σ F G H N} e s o k => by
  refine ⟨fun m σ H => ∃ δ M F2, I m δ M ∧ Ext F F2 ∧ EnvOk K F2 δ σ ∧ Sat K F2 M G H, ⟨m0, δ, M, F, i0, Ext.refl, e, s⟩, ?_⟩
  rintro m σ2 H2 ⟨δ2, M2, F2, hI, x2, e2, s2⟩
  refine cl.run (turn m δ2 M2 hI) e2 s2 (o.ext x2) fun b M3 F3 H3 h3 x3 s3 => ?_
  have x23 := x2.trans x3
  cases b with
  | true =>
    have h3 : ws _ δ2 M3 := h3
    refine ⟨fun σ H => ∃ m', m' < m ∧ ∃ δ M F2, I m' δ M ∧ Ext F F2 ∧ EnvOk K F2 δ σ ∧ Sat K F2 M G H, fun σ4 H4 h => h, ?_⟩
    exact cc.run h3 (e2.ext x3) s3 (o.ext x23) ⟨fun δ5 M5 σ5 F5 H5 ⟨m', l, q5⟩ x5 e5 s5 => ⟨m', l, δ5, M5, F5, q5, x23.trans x5, e5, s5⟩, fun d5 M5 v5 F5 H5 q5 x5 s5 d5 => k.rt _ _ _ F5 H5 q5 (x23.trans x5) s5 d5, fun δ5 M5 σ5 F5 H5 q5 x5 e5 s5 => k.nx _ _ _ F5 H5 q5 (x23.trans x5) e5 s5, fun δ5 M5 σ5 F5 H5 ⟨m', l, q5⟩ x5 e5 s5 => ⟨m', l, δ5, M5, F5, q5, x23.trans x5, e5, s5⟩⟩
  | false => exact k.nx _ _ _ F3 H3 h3 x23 (e2.ext x3) s3⟩
/-! ### list comprehensions -/
def wipeD (δ : DE) : List Nat → DE
  | [] => δ
  | v :: vs => (wipeD δ vs).set v none
theorem EnvOk.none {F : Hp} {δ : DE} {σ : L2.St} (h : EnvOk K F δ σ) (v : Nat) : EnvOk K F (δ.set v none) (σ.set v none) := by
  refine ⟨by rw [List.length_set, List.length_set, h.len], fun j d' e => ?_⟩
  by_cases z : v = j
  · subst z
    by_cases l : v < δ.length
    · rw [List.getElem?_set_self l] at e; cases e
    · rw [List.getElem?_eq_none (by rw [List.length_set]; omega)] at e; cases e
  · rw [List.getElem?_set_ne z] at e ⊢
    exact h.at_ j d' e
theorem EnvOk.wipe {F : Hp} {δ : DE} {σ : L2.St} (h : EnvOk K F δ σ) : ∀ vs : List Nat, EnvOk K F (wipeD δ vs) (L2.wipe σ vs)
  | [] => h
  | v :: vs => (EnvOk.wipe h vs).none v
def wLc (wi : WI) (g : WG) (sl : List Nat) (tt : WT) (we : WE) (vs : List Nat) (δ : DE) (M : Mem) (Q : WK) : Prop := wi δ M fun xs M1 => sl.all (fun i => vs.contains i) = true ∧ xs.length ≤ sizeLine ∧ ∃ I : Nat → List D → Mem → Prop, I 0 [] M1 ∧
  (∀ i x acc M, xs[i]? = some x → acc.length ≤ i → I i acc M → g x (wipeD δ vs) M fun δ2 M2 => tt δ2 M2 fun b M3 => if b = true then we δ2 M3 fun y M4 => I (i + 1) (acc ++ [y]) M4 else I (i + 1) acc M3) ∧
  ∀ acc M, acc.length ≤ xs.length → I xs.length acc M → Q (.lst acc) M
instance lf_yes : LfT K E Ξ tYes (fun _ M Q => Q true M) := ⟨fun {δ M Q} h {σ F G H} e s o {R} k => k true M F H h Ext.refl s⟩
instance lf_lc {wi : TI} {Wi : WI} {g : TG} {wg : WG} {sl vs : List Nat} [a : LfI K E Ξ wi Wi] [b : LfG K (kE E0) (fun _ _ _ => False) g wg sl] [cl : LfT K (kE E0) (fun _ _ _ => False) t wt] [ce : LfE K (kE E0) (fun _ _ _ => False) te we] : LfE K E Ξ (tLc wi g t te vs) (wLc Wi wg sl wt we vs) := ⟨fun {δ M Q} h {σ F G H} e s o {R} k =>
  a.run h e s o fun xs M1 J F1 H1 ⟨hsl, hz, I, i0, turn, done⟩ x1 s1 it => by
    intro L nL
    have gL := s1.freshG nL
    have hsl' : ∀ i, i ∈ sl → i ∈ vs := fun i hi => by
      have := List.all_eq_true.mp hsl i hi
      simpa using this
    refine ⟨fun i m H => m = xs.length - i ∧ i ≤ xs.length ∧ ∃ acc vacc M F2, I i acc M ∧ acc.length ≤ i ∧ Ext F1 F2 ∧ DenL K F2 acc vacc ∧ Sat K F2 M (upd G L (.lst vacc)) H, ⟨xs.length, by omega, Nat.zero_le _, [], [], M1, F1, i0, Nat.le_refl _, Ext.refl, rfl, s1.put nL⟩, ?_⟩
    rintro i m H2 ⟨rfl, hi, acc, vacc, M2, F2, hI, hac, x2, da, s2⟩
    have e2 := e.ext (x1.trans x2)
    by_cases l : i < xs.length
    · refine .inr ⟨it.go i F2 M2 _ H2 l x2 s2, fun H3 => ∃ acc vacc M F2, I (i + 1) acc M ∧ acc.length ≤ i + 1 ∧ Ext F1 F2 ∧ DenL K F2 acc vacc ∧ Sat K F2 M (upd G L (.lst vacc)) H3, fun H3 h3 => ⟨xs.length - (i + 1), by omega, rfl, l, h3⟩, fun x H3 y => ?_⟩
      obtain ⟨d, F3, g1, g2, g3, g4⟩ := it.yld i F2 M2 _ H2 H3 x l x2 s2 y
      have x13 := x2.trans g2
      refine b.run (turn i d acc M2 g1 hac hI) ((e2.ext g2).wipe vs) g3 EOk.none g4 fun δ4 M4 σ4 F4 H4 q4 x4 e4 s4 k4 => ?_
      refine ⟨by rw [k4 vs hsl', wipe_wipe], ?_⟩
      have x14 := x13.trans x4
      refine cl.run q4 e4 s4 EOk.none fun bb M5 F5 H5 q5 x5 s5 => ?_
      have x15 := x14.trans x5
      have da5 := (((da.ext g2).ext x4).ext x5)
      cases bb with
      | true =>
        refine ce.run q5 (e4.ext x5) s5 EOk.none fun z M6 v6 F6 H6 q6 x6 s6 d6 => ?_
        have eL := (s6.fr L _ upd_same).1
        have hvl := da.len
        exact ⟨vacc, eL, by omega, acc ++ [z], vacc ++ [v6], M6, F6, q6, by rw [List.length_append]; show acc.length + 1 ≤ i + 1; omega, x15.trans x6, (da5.ext x6).append (DenL.one d6), s6.reput⟩
      | false => exact ⟨acc, vacc, M5, F5, q5, by omega, x15, da5, s5⟩
    · have ei : i = xs.length := by omega
      subst ei
      obtain ⟨x3, s3⟩ := s2.settle gL
      exact .inl ⟨it.stop F2 M2 _ H2 x2 s2, k _ M2 _ _ H2 (done acc M2 hac hI) ((x1.trans x2).trans x3) s3 ⟨L, vacc, rfl, SqL.of upd_same, da.ext x3⟩⟩⟩
/-! ### defs -/
abbrev DSp := List D → Mem → WK → WX → Prop
/-- a promise over data, as a promise of the layer below -/
def toSp (K : Frag) (n : Nat) (S : DSp) : Sp := fun vs H Q E => vs.length = n ∧ ∃ (ds : List D) (M : Mem) (F G : Hp) (Qd : WK) (Ed : WX), S ds M Qd Ed ∧ Sat K F M G H ∧ DenL K F ds vs ∧ (∀ d M' v F' H', Qd d M' → Ext F F' → Sat K F' M' G H' → Den K F' d v → Q v H') ∧ EOk1 K F G Ed E
def wCall (n : Nat) (S : DSp) (dd : List D) (Ξ : DX) (wl : WA) (δ : DE) (M : Mem) (Q : WK) : Prop := wl δ M fun xs M1 => (xs ++ dd).length = n ∧ S (xs ++ dd) M1 Q (Ξ δ)
theorem call_run {n : Nat} {S : DSp} {xs : List D} {M : Mem} {Q : WK} {F G H : Hp} {vs : List V} {R : VK} {Ξ : WX} {E : XK} (hn : xs.length = n) (h : S xs M Q Ξ) (s : Sat K F M G H) (d : DenL K F xs vs) (o : EOk1 K F G Ξ E) (k : ∀ d M' v F' H', Q d M' → Ext F F' → Sat K F' M' G H' → Den K F' d v → R v H') : toSp K n S vs H R E :=
  ⟨by rw [← d.len, hn], xs, M, F, G, Q, Ξ, h, s, d, k, o⟩
def startD (N : List Str) (ds : List D) : DE := ds.map some ++ List.replicate (N.length - ds.length) none
theorem env_start {F : Hp} {N : List Str} {ds : List D} {vs : List V} (d : DenL K F ds vs) : EnvOk K F (startD N ds) (L2.start N vs) := by
  have hl := d.len
  unfold startD L2.start
  refine ⟨by simp only [List.length_append, List.length_map, List.length_replicate]; omega, fun i x e => ?_⟩
  by_cases l : i < ds.length
  · rw [List.getElem?_append_left (by simpa using l), List.getElem?_map] at e
    cases q : ds[i]? with
    | none => rw [q] at e; cases e
    | some y =>
      rw [q] at e
      cases e
      obtain ⟨v, h1, h2⟩ := d.get q
      exact ⟨v, by rw [List.getElem?_append_left (by simpa using (by omega : i < vs.length)), List.getElem?_map, h1]; rfl, h2⟩
  · rw [List.getElem?_append_right (by simpa using l), List.getElem?_replicate] at e
    split at e <;> cases e
/-- less is told, or nothing, of some cells -/
def Wk (M' M : Mem) : Prop := ∀ a ψ, M' a = some ψ → ∃ φ, M a = some φ ∧ ∀ mb, φ mb → ψ mb
theorem Wk.refl {M : Mem} : Wk M M := fun _ ψ e => ⟨ψ, e, fun _ h => h⟩
theorem Wk.trans {M1 M2 M3 : Mem} (a : Wk M1 M2) (b : Wk M2 M3) : Wk M1 M3 := fun p ψ e => let ⟨φ, e1, k1⟩ := a p ψ e; let ⟨χ, e2, k2⟩ := b p φ e1; ⟨χ, e2, fun mb h => k1 mb (k2 mb h)⟩
theorem Wk.set {M' M : Mem} {p : Addr} {φ ψ : MB → Prop} (h : Wk M' M) (k : ∀ mb, φ mb → ψ mb) : Wk (mset M' p ψ) (mset M p φ) := fun a χ e => by
  by_cases z : a = p
  · subst z; rw [mset_same] at e ⊢; cases e; exact ⟨φ, rfl, k⟩
  · rw [mset_ne z] at e ⊢; exact h a χ e
/-- a cell of one's own is forgotten -/
theorem Wk.drop {M' M : Mem} {p : Addr} {φ : MB → Prop} (h : Wk M' M) (hp : M' p = none) : Wk M' (mset M p φ) := fun a χ e => by
  have z : a ≠ p := fun z => by subst z; rw [hp] at e; cases e
  rw [mset_ne z]
  exact h a χ e
def weakK (Q : WK) : WK := fun d M => ∃ M', Wk M' M ∧ Q d M'
def weakX (Ξ : WX) : WX := fun x M => ∃ M', Wk M' M ∧ Ξ x M'
theorem weakK_of {Q : WK} {d : D} {M : Mem} (h : Q d M) : weakK Q d M := ⟨M, Wk.refl, h⟩
/-- the body's reading, from the promise over data -/
theorem run_def {P : Program} {N : List Str} {ds : List D} {vs : List V} {M : Mem} {F G H : Hp} {Qd : WK} {Ed : WX} {Q : VK} {E : XK} (l : LfS K (kE E) (kX (weakX Ed)) ts ws) (h : ws { nx := fun _ M => weakK Qd .non M, rt := weakK Qd } (startD N ds) M)
    (s : Sat K F M G H) (d : DenL K F ds vs) (k : ∀ d M' v F' H', Qd d M' → Ext F F' → Sat K F' M' G H' → Den K F' d v → Q v H') (o : EOk1 K F G Ed E) : ts { nx := fun _ H' => Q .non H', rt := Q } (L2.start N vs) H :=
  l.run h (env_start d) s (EOk1.k (Ξ := weakX Ed) fun x M F' H dx xs ⟨M', w, q⟩ e s => o x M' F' H dx xs q e (s.less w)) ⟨fun δ M σ F' H' ⟨M', w, q⟩ x e s => k .non M' .non F' H' q x (s.less w) rfl, fun d M v F' H' ⟨M', w, q⟩ x s dd => k d M' v F' H' q x (s.less w) dd, fun _ _ _ _ _ q => q.elim, fun _ _ _ _ _ q => q.elim⟩
end
section
variable {P : Program} {w : World} {K : Frag} {mg : Str → Option Value} {base : Heap}
/-- THE RULE for a def of the text -/
theorem def_ok {x qual : Str} {params : Arguments} {body : List Stmt} {scope : Scope} {dvs : List V} {kws : List (Str × V)} {f : Addr} {fd : FuncData} {N ps : List Str} {k n : Nat} {S : DSp} (F : FunD K x qual params body scope dvs kws f fd) (Sc : FnScope N ps scope) (hn : n = ps.length) {W : WX → WS}
    (hbody : ∀ (cdv : Value) (A : Around) (outer : List Env) (s : Shared) (H : Hp) (E : XK), Room k (A.deeper (envOfC qual scope s.heap.objs.size f cdv)) → ∃ t, PSs (cxOf (L2.CX P w) P w K mg base N qual scope f cdv A outer s H E) body t ∧ ∀ Ξ, LfS K (kE E) (kX Ξ) t (W Ξ))
    (pure : ∀ ds M Qd Ed, ds.length = n → S ds M Qd Ed → W (weakX Ed) { nx := fun _ M => weakK Qd .non M, rt := weakK Qd } (startD N ds) M) : FnOk P w K mg base (L2.CX P w) (k + 1) f fd ps (toSp K n S) :=
  F.ok Sc (fun vs H Q E h => by rw [← hn]; exact h.1) fun cdv A outer s H vs Q E hr h => by
    obtain ⟨t, ht, l⟩ := hbody cdv A outer s H E hr
    obtain ⟨hv, ds, M, F0, G, Qd, Ed, hS, sat, d, kk, o⟩ := h
    exact ⟨t, ht, run_def (P := P) (l (weakX Ed)) (pure ds M Qd Ed (by rw [d.len, hv]) hS) sat d kk o⟩
end
end DL
set_option Elab.async false
set_option linter.all false
set_option maxRecDepth 100000
namespace DL
open PySem L2 PyProof.Rows
/-! ### calls: what is raised is wished for at the caller's slots -/
def PassesS (CX : CXT) (X : Cx) (E : XS) : Prop := ∀ σ, PassesAt CX X σ (E σ)
theorem passS {CX : CXT} {X : Cx} {E : XK} (h : Passes CX X E) : PassesS CX X (kE E) := fun σ pins H s e s' I c => h pins σ H s e s' I c
theorem passLS {X : Cx} : PassesS (L2.CX X.prog X.w) X (kE E0) := passS passL
def tCallX (sp : Sp) (dvs : List V) (E : XS) (t : TA) : TE := fun σ H Q => t σ H fun vs H1 => sp (vs ++ dvs) H1 Q (E σ)
def tCallNX (n m : Nat) (sp : Sp) (gV : List V → List V → List V) (E : XS) (t tk : TA) : TE := fun σ H Q => t σ H fun vs H1 => tk σ H1 fun zs H2 => vs.length = n ∧ zs.length = m ∧ sp (gV vs zs) H2 Q (E σ)
def tMethX (C : Addr) (m : Str) (sp : Sp) (dvs : List V) (E : XS) (ta : TE) (t : TA) : TE := fun σ H Q => ta σ H fun x H1 => ∃ a dx fs, x = .ref a ∧ H1 a = some (.ins C dx fs) ∧ fs.lookup m = none ∧
  t σ H1 fun vs H2 => sp (x :: (vs ++ dvs)) H2 Q (E σ)
def tMakeX (C : Addr) (sp : Sp) (dvs : List V) (E : XS) (t : TA) : TE := fun σ H Q => t σ H fun vs H1 => ∀ x dx, H1 x = none → H1 dx = none → dx ≠ x →
  sp (.ref x :: (vs ++ dvs)) (upd (upd H1 dx (.own x)) x (.ins C dx [])) (fun v H2 => v = .non ∧ Q (.ref x) H2) (E σ)
def tCMethX (C : Addr) (sp : Sp) (E : XS) (ta : TE) (t : TA) : TE := fun σ H Q => ta σ H fun x H1 => x = .ref C ∧ t σ H1 fun vs H2 => sp (.ref C :: vs) H2 Q (E σ)
section
variable {X : Cx} {CX : CXT} {k : Nat} {f C : Addr} {fd : FuncData} {ps : List Str} {sp : Sp} {dvs : List V} {ds : List Value} {E : XS} {E1 : XK} {x m : Str} {p pos apos : Pos} {e o : Expr} {es : List Expr} {ta : TE} {t : TA} {pins : List (Addr × Obj)} {σ : L2.St} {H : Hp} {s : Shared} {Q : VK} {us : List Value} {vs : List V}
theorem pe_callX (F : FnOk X.prog X.w X.K X.mg X.base CX k f fd ps sp) (hr : Room k X.A) (hg : Gl X x) (hm : X.mg x = some (.ref f)) (hk : PySem.W.keepIn X.K (.ref f) = true) (hb : Binds X.K fd ps ds) (hd : Vals dvs ds) (hx : PassesS CX X E)
    (ha : PA X (e :: es) t) (hdb : (x == ("__debug__" : Str)) = false := by decide) (he : starEach (e :: es) X.env = (false, eval e X.env) :: starEach es X.env := by rfl) (hpl : (backTo pos (starEach es X.env)).any (·.1) = false := by rfl) :
    PE X (.Call (.Name x p) (e :: es) [] pos) (tCallX sp dvs E t) := pe_callSD F hr hg hm hk hb hd hx ha hdb he hpl
/-! keywords -/
variable {ks : List Str} {n : Nat} {g : List Value → List Value → List Value} {gV : List V → List V → List V} {kws : List Keyword} {tk : TA}
/-! classmethods -/
end
/-! their readings over data -/
section
variable {K : Frag} {E : XS} {Ξ : DX} {tl : TA} {wl : WA}
instance lf_call {n : Nat} {S : DSp} [a : LfA K E Ξ tl wl] : LfE K E Ξ (tCallX (toSp K n S) [] E tl) (wCall n S [] Ξ wl) := ⟨fun {δ M Q} h {σ F G H} e s o {R} k =>
  a.run h e s o fun xs M1 vs F1 H1 ⟨h1, h2⟩ x1 s1 d1 => by
    rw [List.append_nil] at h1 h2 ⊢
    exact call_run h1 h2 s1 d1 ((o.at e).ext x1) fun d M' v F' H' q x2 s2 d2 => k d M' v F' H' q (x1.trans x2) s2 d2⟩
instance lf_call0 {n : Nat} {S : DSp} [a : LfA K E Ξ tl wl] : LfE K E Ξ (tCallX (toSp K n S) [] (kE E0) tl) (wCall n S [] (fun _ _ _ => False) wl) := ⟨fun {δ M Q} h {σ F G H} e s o {R} k =>
  a.run h e s o fun xs M1 vs F1 H1 ⟨h1, h2⟩ x1 s1 d1 => by
    rw [List.append_nil] at h1 h2 ⊢
    exact call_run h1 h2 s1 d1 EOk1.none fun d M' v F' H' q x2 s2 d2 => k d M' v F' H' q (x1.trans x2) s2 d2⟩
end
end DL
set_option Elab.async false
set_option linter.all false
set_option maxRecDepth 100000
namespace DL
open PySem L2 PyProof.Rows
/-! ### calls of built-ins, by values -/
theorem CallR.or {X : Cx} {f : Value} {r r' : List V → Hp → VK → Prop} (h : CallR X f r) (h' : CallR X f r') : CallR X f (fun xs H Q => r xs H Q ∨ r' xs H Q) := by
  intro pins s σ H xs us Q I rs q
  rcases q with q | q
  · exact h pins s σ H xs us Q I rs q
  · exact h' pins s σ H xs us Q I rs q
abbrev WC := List D → Mem → WK → Prop
class LfC (K : Frag) (E : XS) (Ξ : DX) (r : List V → Hp → VK → Prop) (w : outParam WC) : Prop where
  run : ∀ {xs : List D} {M : Mem} {Q : WK}, w xs M Q → ∀ {F G H : Hp} {vs : List V}, Sat K F M G H → EOk K F G Ξ E → DenL K F xs vs → ∀ {R : VK}, (∀ d M' v F' H', Q d M' → Ext F F' → Sat K F' M' G H' → Den K F' d v → R v H') → r vs H R
def wCB (w : WC) (wl : WA) (δ : DE) (M : Mem) (Q : WK) : Prop := wl δ M fun xs M1 => w xs M1 Q
section
variable {K : Frag} {E : XS} {Ξ : DX} {F G H : Hp} {M : Mem} {te : TE} {we : WE} {tl : TA} {wl : WA}
instance lf_cb' {r : List V → Hp → VK → Prop} {w : WC} [a : LfA K E Ξ tl wl] [b : LfC K E Ξ r w] : LfE K E Ξ (tCB r tl) (wCB w wl) := ⟨fun {δ M Q} h {σ F G H} e s o {R} k =>
  a.run h e s o fun xs M1 vs F1 H1 h1 x1 s1 d1 => b.run h1 s1 (o.ext x1) d1 fun d M3 z F3 H3 h3 x3 s3 d3 => k d M3 z F3 H3 h3 (x1.trans x3) s3 d3⟩
theorem den1 {x : D} {vs : List V} (d : DenL K F [x] vs) : ∃ v, vs = [v] ∧ Den K F x v := by
  obtain ⟨v, r, rfl, d, rfl⟩ := d
  exact ⟨v, rfl, d⟩
theorem den2 {x y : D} {vs : List V} (d : DenL K F [x, y] vs) : ∃ v u, vs = [v, u] ∧ Den K F x v ∧ Den K F y u := by
  obtain ⟨v, r, rfl, e1, d2⟩ := d
  obtain ⟨u, rfl, e2⟩ := den1 d2
  exact ⟨v, u, rfl, e1, e2⟩
/-! len -/
def rLenQ (K : Frag) : List V → Hp → VK → Prop := fun xs H Q => ∃ x n, xs = [x] ∧ LenV K x H n ∧ Q (.int (n : Int)) H
def rLenD : List V → Hp → VK → Prop := fun xs H Q => ∃ a kvs, xs = [V.ref a] ∧ Rd H a (.dK kvs) ∧ Q (.int (kvs.length : Int)) H
theorem call_lenDR {X : Cx} : CallR X (.builtin "len") rLenD := by
  intro pins s σ H xs us Q I r h
  obtain ⟨a, kvs, rfl, ha, q⟩ := h
  obtain ⟨u, rfl, ru⟩ := vals1 r
  cases ru
  exact d_len I ha fun t s' I' => ⟨.int kvs.length, H, I', ⟨t, rfl⟩, q⟩
def rLenA (K : Frag) : List V → Hp → VK → Prop := fun xs H Q => rLenQ K xs H Q ∨ rLenD xs H Q
theorem call_lenA {X : Cx} : CallR X (.builtin "len") (rLenA X.K) := CallR.or call_len call_lenDR
def lenM (mb : MB) : Option Nat := match mb with
  | .lst l => some l.length
  | .dic kvs => some kvs.length
  | .lk kvs _ _ => some kvs.length
  | .ins _ _ => none
  | .oth _ _ _ => none
def wLen (xs : List D) (M : Mem) (Q : WK) : Prop := match xs with
  | [.str z] => z.length ≤ sizeLine ∧ Q (.int (z.length : Int)) M
  | [.lst l] => Q (.int (l.length : Int)) M
  | [.tup l] => Q (.int (l.length : Int)) M
  | [.dic ks l] => Q (.int (ks.length : Int)) M
  | [.ref p] => ∃ φ, M p = some φ ∧ ∀ mb, φ mb → ∃ n : Nat, lenM mb = some n ∧ Q (.int (n : Int)) (mset M p (· = mb))
  | _ => False
instance lf_len : LfC K E Ξ (rLenA K) wLen := ⟨fun {xs M Q} h {F G H vs} s o d {R} k => by
  match xs with
  | [] => exact h.elim
  | [x] =>
    obtain ⟨v, rfl, dv⟩ := den1 d
    cases x with
    | str z => cases dv; exact .inl ⟨.str z, _, rfl, ⟨h.1, rfl⟩, k _ M _ F H h.2 Ext.refl s rfl⟩
    | lst l => obtain ⟨p, ys, rfl, q, dl⟩ := dv; exact .inl ⟨.ref p, _, rfl, Or.inl ⟨ys, sql_ext s.sub q, dl.len⟩, k _ M _ F H h Ext.refl s rfl⟩
    | tup l => obtain ⟨p, ys, rfl, q, dl⟩ := dv; exact .inl ⟨.ref p, _, rfl, Or.inr ⟨ys, sqt_ext s.sub q, dl.len⟩, k _ M _ F H h Ext.refl s rfl⟩
    | dic ks l =>
      obtain ⟨p, o2, ys, rfl, q, hl, dl⟩ := dv
      refine .inr ⟨p, _, rfl, .inr ⟨_, s.sub _ _ q⟩, ?_⟩
      rw [List.length_zip, hl, Nat.min_self, ← hl]
      exact k _ M _ F H h Ext.refl s rfl
    | ref p =>
      obtain ⟨φ, hp, h⟩ := h
      obtain ⟨mb, ho, g1, g2, g3, s'⟩ := s.tell hp
      obtain ⟨n, e, h⟩ := h mb g1
      cases dv
      cases mb with
      | lst l => cases e; obtain ⟨ys, rfl, dl⟩ := g3; exact .inl ⟨.ref p, _, rfl, Or.inl ⟨ys, SqL.of g2, dl.len⟩, k _ _ _ F H h Ext.refl s' rfl⟩
      | dic kvs => cases e; obtain ⟨ys, rfl, dl⟩ := g3; exact .inr ⟨p, _, rfl, .inl g2, by rw [← dl.len]; exact k _ _ _ F H h Ext.refl s' rfl⟩
      | lk kvs _ _ => cases e; obtain ⟨rfl, dl⟩ := g3; exact .inr ⟨p, _, rfl, .inr ⟨_, g2⟩, by rw [← dl.len]; exact k _ _ _ F H h Ext.refl s' rfl⟩
      | ins _ _ => cases e
      | oth _ _ _ => cases e
    | _ => exact h.elim
  | x :: y :: r => exact False.elim (by cases x <;> exact h)⟩
/-! all, any of a list of bools -/
/-! min, max of two ints; str, int -/
def rMin2 : List V → Hp → VK → Prop := fun xs H Q => ∃ i j, xs = [.int i, .int j] ∧ Q (.int (if j < i then j else i)) H
def rMax2 : List V → Hp → VK → Prop := fun xs H Q => ∃ i j, xs = [.int i, .int j] ∧ Q (.int (if j > i then j else i)) H
def wMin2 (xs : List D) (M : Mem) (Q : WK) : Prop := ∃ i j, xs = [.int i, .int j] ∧ Q (.int (if j < i then j else i)) M
def wMax2 (xs : List D) (M : Mem) (Q : WK) : Prop := ∃ i j, xs = [.int i, .int j] ∧ Q (.int (if j > i then j else i)) M
instance lf_min2 : LfC K E Ξ rMin2 wMin2 := ⟨fun {xs M Q} ⟨i, j, e, h⟩ {F G H vs} s o d {R} k => by
  subst e
  obtain ⟨v, u, rfl, d1, d2⟩ := den2 d
  cases d1; cases d2
  exact ⟨i, j, rfl, k _ M _ F H h Ext.refl s rfl⟩⟩
instance lf_max2 : LfC K E Ξ rMax2 wMax2 := ⟨fun {xs M Q} ⟨i, j, e, h⟩ {F G H vs} s o d {R} k => by
  subst e
  obtain ⟨v, u, rfl, d1, d2⟩ := den2 d
  cases d1; cases d2
  exact ⟨i, j, rfl, k _ M _ F H h Ext.refl s rfl⟩⟩
def rStrI : List V → Hp → VK → Prop := fun xs H Q => ∃ i : Int, xs = [.int i] ∧ i.natAbs.log2 < 1920 ∧ Q (.str (toString i)) H
def rStrS : List V → Hp → VK → Prop := fun xs H Q => ∃ a, xs = [.str a] ∧ Q (.str a) H
def rStr : List V → Hp → VK → Prop := fun xs H Q => rStrI xs H Q ∨ rStrS xs H Q
def wStr (xs : List D) (M : Mem) (Q : WK) : Prop := match xs with
  | [.int i] => i.natAbs.log2 < 1920 ∧ Q (.str (toString i)) M
  | [.str a] => Q (.str a) M
  | _ => False
instance lf_str : LfC K E Ξ rStr wStr := ⟨fun {xs M Q} h {F G H vs} s o d {R} k => by
  match xs with
  | [] => exact h.elim
  | [x] =>
    obtain ⟨v, rfl, dv⟩ := den1 d
    cases x with
    | int i => cases dv; exact .inl ⟨i, rfl, h.1, k _ M _ F H h.2 Ext.refl s rfl⟩
    | str a => cases dv; exact .inr ⟨a, rfl, k _ M _ F H h Ext.refl s rfl⟩
    | _ => exact h.elim
  | x :: y :: r => exact False.elim (by cases x <;> exact h)⟩
def rIntI : List V → Hp → VK → Prop := fun xs H Q => (∃ i, xs = [.int i] ∧ Q (.int i) H) ∨ ∃ k, xs = [.bl k] ∧ Q (.int (if k then 1 else 0)) H
def rIntS : List V → Hp → VK → Prop := fun xs H Q => ∃ a n, xs = [.str a] ∧ PySem.intText? a = some n ∧ a.length ≤ 640 ∧ Q (.int n) H
def rInt : List V → Hp → VK → Prop := fun xs H Q => rIntI xs H Q ∨ rIntS xs H Q
def wInt (xs : List D) (M : Mem) (Q : WK) : Prop := match xs with
  | [.int i] => Q (.int i) M
  | [.bl b] => Q (.int (if b then 1 else 0)) M
  | [.str a] => ∃ n, PySem.intText? a = some n ∧ a.length ≤ 640 ∧ Q (.int n) M
  | _ => False
instance lf_int : LfC K E Ξ rInt wInt := ⟨fun {xs M Q} h {F G H vs} s o d {R} k => by
  match xs with
  | [] => exact h.elim
  | [x] =>
    obtain ⟨v, rfl, dv⟩ := den1 d
    cases x with
    | int i => cases dv; exact .inl (.inl ⟨i, rfl, k _ M _ F H h Ext.refl s rfl⟩)
    | bl b => cases dv; exact .inl (.inr ⟨b, rfl, k _ M _ F H h Ext.refl s rfl⟩)
    | str a => obtain ⟨n, h1, h2, h⟩ := h; cases dv; exact .inr ⟨a, n, rfl, h1, h2, k _ M _ F H h Ext.refl s rfl⟩
    | _ => exact h.elim
  | x :: y :: r => exact False.elim (by cases x <;> exact h)⟩
/-! list(..), tuple(..) of a list or a tuple -/
def rListO (K : Frag) : List V → Hp → VK → Prop := fun xs H Q => ∃ p ys, xs = [.ref p] ∧ (SqL K H p ys ∨ SqT K H p ys) ∧ ∀ l, H l = none → Q (.ref l) (upd H l (.lst ys))
def rTupO (K : Frag) : List V → Hp → VK → Prop := fun xs H Q => ∃ p ys, xs = [.ref p] ∧ ((SqL K H p ys ∧ ∀ l, H l = none → Q (.ref l) (upd H l (.tup ys))) ∨ (SqT K H p ys ∧ Q (.ref p) H))
def wList (xs : List D) (M : Mem) (Q : WK) : Prop := match xs with
  | [.lst l] => Q (.lst l) M
  | [.tup l] => Q (.lst l) M
  | [.ref p] => ∃ l, M p = some (· = .lst l) ∧ Q (.lst l) M
  | _ => False
def wTuple (xs : List D) (M : Mem) (Q : WK) : Prop := match xs with
  | [.lst l] => Q (.tup l) M
  | [.tup l] => Q (.tup l) M
  | [.ref p] => ∃ l, M p = some (· = .lst l) ∧ Q (.tup l) M
  | _ => False
instance lf_list : LfC K E Ξ (rListO K) wList := ⟨fun {xs M Q} h {F G H vs} s o d {R} k => by
  have go : ∀ (p : Addr) (l : List D) (ys : List V), (SqL K H p ys ∨ SqT K H p ys) → DenL K F l ys → Q (.lst l) M → rListO K [.ref p] H R := fun p l ys q dl hq =>
    ⟨p, ys, rfl, q, fun r nr => k _ M _ _ _ hq (Ext.new (s.freshF nr)) (s.new nr) ⟨r, ys, rfl, SqL.of upd_same, dl.ext (Ext.new (s.freshF nr))⟩⟩
  match xs with
  | [] => exact h.elim
  | [x] =>
    obtain ⟨v, rfl, dv⟩ := den1 d
    cases x with
    | lst l => obtain ⟨p, ys, rfl, q, dl⟩ := dv; exact go p l ys (.inl (sql_ext s.sub q)) dl h
    | tup l => obtain ⟨p, ys, rfl, q, dl⟩ := dv; exact go p l ys (.inr (sqt_ext s.sub q)) dl h
    | ref p => obtain ⟨l, h1, h⟩ := h; obtain ⟨p', ys, e, q, dl⟩ := lst_at s dv (.inr ⟨p, rfl, h1⟩); subst e; exact go p' l ys (.inl q) dl h
    | _ => exact h.elim
  | x :: y :: r => exact False.elim (by cases x <;> exact h)⟩
instance lf_tuple : LfC K E Ξ (rTupO K) wTuple := ⟨fun {xs M Q} h {F G H vs} s o d {R} k => by
  have go : ∀ (p : Addr) (l : List D) (ys : List V), SqL K H p ys → DenL K F l ys → Q (.tup l) M → rTupO K [.ref p] H R := fun p l ys q dl hq =>
    ⟨p, ys, rfl, .inl ⟨q, fun r nr => k _ M _ _ _ hq (Ext.new (s.freshF nr)) (s.new nr) ⟨r, ys, rfl, SqT.of upd_same, dl.ext (Ext.new (s.freshF nr))⟩⟩⟩
  match xs with
  | [] => exact h.elim
  | [x] =>
    obtain ⟨v, rfl, dv⟩ := den1 d
    cases x with
    | lst l => obtain ⟨p, ys, rfl, q, dl⟩ := dv; exact go p l ys (sql_ext s.sub q) dl h
    | tup l => obtain ⟨p, ys, rfl, q, dl⟩ := dv; exact ⟨p, ys, rfl, .inr ⟨sqt_ext s.sub q, k _ M _ F H h Ext.refl s ⟨p, ys, rfl, q, dl⟩⟩⟩
    | ref p => obtain ⟨l, h1, h⟩ := h; obtain ⟨p', ys, e, q, dl⟩ := lst_at s dv (.inr ⟨p, rfl, h1⟩); subst e; exact go p' l ys q dl h
    | _ => exact h.elim
  | x :: y :: r => exact False.elim (by cases x <;> exact h)⟩
/-! isinstance -/
def tyS : D → Option String
  | .non => some "NoneType" | .bl _ => some "bool" | .int _ => some "int" | .str _ => some "str" | .tup _ => some "tuple" | .lst _ => some "list" | .dic _ _ => some "dict"
  | _ => none
theorem tyx_of (s : Sat K F M G H) {x : D} {v : V} {t : String} (d : Den K F x v) (h : tyS x = some t) : TyX K H v (.type t) := by
  cases x with
  | non => cases h; cases d; exact .base .non
  | bl b => cases h; cases d; exact .base (.bl b)
  | int i => cases h; cases d; exact .base (.int i)
  | str z => cases h; cases d; exact .base (.str z)
  | tup l =>
    cases h
    obtain ⟨p, xs, rfl, q, _⟩ := d
    rcases q with (q | ⟨o, q⟩) | ⟨o, its, n, q1, q2, _⟩
    · exact .base (.tup (s.sub _ _ q))
    · exact .fTuple (s.sub _ _ q)
    · exact .kTuple q1 q2
  | lst l =>
    cases h
    obtain ⟨p, xs, rfl, q, _⟩ := d
    rcases q with (q | ⟨o, q⟩) | ⟨o, its, n, q1, q2, _⟩
    · exact .base (.lst (s.sub _ _ q))
    · exact .base (.frz (s.sub _ _ q))
    · exact .kList q1 q2
  | dic ks l =>
    cases h
    obtain ⟨p, o2, xs, rfl, q, _⟩ := d
    exact .fDict (s.sub _ _ q)
  | _ => cases h
/-- what the written part says of a class whose instances are asked about -/
structure InsT (K : Frag) (C : Addr) : Prop where
  cl : Cls K C
  ha : PySem.W.findIn K (.ref C) "__class__" = some (some (.builtin "object.__class__"))
  hn : PySem.W.specialIn K (.builtin "object.__class__") "__get__" = some (some (.builtin "getset_descriptor.__get__"))
  ht : PySem.W.takesIn K (.builtin "object.__class__") = some true
  hm : PySem.W.mroIn K C (.type "object") = some true
def tyW (K : Frag) (x : D) (t : Value) : Prop := match x with
  | .obj C _ _ => InsT K C ∧ t = .ref C
  | x => ∃ n, tyS x = some n ∧ t = .type n
def clsW : D → Option Value
  | .ty n => some (.type n)
  | .ref C => some (.ref C)
  | _ => none
theorem tyw_of (s : Sat K F M G H) {x : D} {v : V} {t : Value} (d : Den K F x v) (h : tyW K x t) : TyX K H v t := by
  cases x with
  | obj C ks l =>
    obtain ⟨c, rfl⟩ := h
    obtain ⟨a, dx, xs, rfl, q, _⟩ := d
    exact .base (.ins (s.sub _ _ q) c.cl c.ha c.hn c.ht c.hm)
  | _ =>
    obtain ⟨n, h1, rfl⟩ := h
    exact tyx_of s d h1
theorem clsv_of {c : D} {v : V} {u : Value} (d : Den K F c v) (h : clsW c = some u) : ClsV v u := by
  cases c <;> first | (cases h; done) | (cases h; cases d; first | exact .ty _ | exact .own _)
def wIsi (K : Frag) (xs : List D) (M : Mem) (Q : WK) : Prop := ∃ x c t u b, xs = [x, c] ∧ tyW K x t ∧ clsW c = some u ∧ PySem.W.kitOne K t u = some b ∧ Q (.bl b) M
instance lf_isi : LfC K E Ξ (rIsi K) (wIsi K) := ⟨fun {xs M Q} ⟨x, c, t, u, b, e, h1, h2, h3, h⟩ {F G H vs} s o d {R} k => by
  subst e
  obtain ⟨v, z, rfl, d1, d2⟩ := den2 d
  exact ⟨v, z, t, u, b, rfl, clsv_of d2 h2, tyw_of s d1 h1, h3, k _ M _ F H h Ext.refl s rfl⟩⟩
/-! repr of data -/
def rRepr (K : Frag) : List V → Hp → VK → Prop := fun xs H Q => ∃ v p, xs = [v] ∧ Dp K H v p ∧ p.showable = true ∧ p.depth ≤ 60 ∧ p.shown.length ≤ sizeLine ∧ (∃ a, v = .ref a) ∧ Q (.str p.shown) H
mutual
theorem dp_nodict {H : Hp} : ∀ {v : V} {p : PyData}, Dp K H v p → p.hasDict = false
  | _, _, .non => rfl
  | _, _, .bl _ => rfl
  | _, _, .int _ => rfl
  | _, _, .str _ => rfl
  | _, _, .lst _ h => dp_nodictL h
  | _, _, .tup _ h => dp_nodictL h
theorem dp_nodictL {H : Hp} : ∀ {vs : List V} {ps : List PyData}, DpAll K H vs ps → PyData.hasDictAll ps = false
  | _, _, .nil => rfl
  | _, _, .cons h t => by
    show (_ || _) = false
    rw [dp_nodict h, dp_nodictL t]
    rfl
end
theorem call_reprA {X : Cx} (hg : X.A.guards = some []) (hu : X.A.units + 64 < cLine) : CallR X (.builtin "repr") (rRepr X.K) := by
  intro pins s σ H xs us Q I r h
  obtain ⟨v, p, rfl, d, h1, h2, h3, ⟨a, rfl⟩, q⟩ := h
  obtain ⟨u, rfl, rv⟩ := vals1 r
  cases rv
  obtain ⟨as, rd⟩ := Dp.reads I p _ _ d rfl
  exact repr_of_reads' rd h1 (PyData.noDict_hsm (dp_nodict d)) hg (by omega) (fun _ _ e => e) (fun h' u tk hk => ⟨.str p.shown, H, I.kept hk, ⟨u, rfl⟩, q⟩) h3
def isSeq : D → Bool
  | .tup _ => true
  | .lst _ => true
  | _ => false
def wRepr (xs : List D) (M : Mem) (Q : WK) : Prop := ∃ x p, xs = [x] ∧ isSeq x = true ∧ toPy x = some p ∧ p.showable = true ∧ p.depth ≤ 60 ∧ p.shown.length ≤ sizeLine ∧ Q (.str p.shown) M
instance lf_repr : LfC K E Ξ (rRepr K) wRepr := ⟨fun {xs M Q} ⟨x, p, e, h0, h1, h2, h3, h4, h⟩ {F G H vs} s o d {R} k => by
  subst e
  obtain ⟨v, rfl, dv⟩ := den1 d
  have dp := dp_of s.sub dv h1
  refine ⟨v, p, rfl, dp, h2, h3, h4, ?_, k _ M _ F H h Ext.refl s rfl⟩
  cases x <;> first | (cases h0; done) | (obtain ⟨a, _, e, _⟩ := dv; exact ⟨a, e⟩)⟩
/-! ### methods of built-in types -/
class LfM (K : Frag) (E : XS) (Ξ : DX) (r : V → List V → Hp → VK → Prop) (w : outParam (D → WC)) : Prop where
  run : ∀ {x : D} {xs : List D} {M : Mem} {Q : WK}, w x xs M Q → ∀ {F G H : Hp} {v : V} {vs : List V}, Sat K F M G H → EOk K F G Ξ E → Den K F x v → DenL K F xs vs → ∀ {R : VK}, (∀ d M' v F' H', Q d M' → Ext F F' → Sat K F' M' G H' → Den K F' d v → R v H') → r v vs H R
def isStr : D → Bool
  | .str _ => true
  | _ => false
def wBMs (w : D → WC) (wo : WE) (wl : WA) (δ : DE) (M : Mem) (Q : WK) : Prop := wo δ M fun x M1 => isStr x = true ∧ wl δ M1 fun xs M2 => w x xs M2 Q
instance lf_bms {r : V → List V → Hp → VK → Prop} {w : D → WC} [a : LfE K E Ξ te we] [b : LfA K E Ξ tl wl] [m : LfM K E Ξ r w] : LfE K E Ξ (tBM K "str" r te tl) (wBMs w we wl) := ⟨fun {δ M Q} h {σ F G H} e s o {R} k =>
  a.run h e s o fun x M1 v F1 H1 ⟨hx, h1⟩ x1 s1 d1 => by
    refine ⟨?_, b.run h1 (e.ext x1) s1 (o.ext x1) fun xs M2 vs F2 H2 h2 x2 s2 d2 => m.run h2 s2 ((o.ext x1).ext x2) (d1.ext x2) d2 fun d M3 z F3 H3 h3 x3 s3 d3 => k d M3 z F3 H3 h3 ((x1.trans x2).trans x3) s3 d3⟩
    cases x <;> first | (cases hx; done) | (cases d1; rfl)⟩
/-! "..".join(..) -/
/-! ### slices of step one -/
abbrev WO := DE → Mem → (Option Int → Mem → Prop) → Prop
class LfO (K : Frag) (E : XS) (Ξ : DX) (t : TO) (w : outParam WO) : Prop where
  run : ∀ {δ : DE} {M : Mem} {Q : Option Int → Mem → Prop}, w δ M Q → ∀ {σ : L2.St} {F G H : Hp}, EnvOk K F δ σ → Sat K F M G H → EOk K F G Ξ E → ∀ {R : Option Int → Hp → Prop}, (∀ b M' F' H', Q b M' → Ext F F' → Sat K F' M' G H' → R b H') → t σ H R
def wNoPart (_ : DE) (M : Mem) (Q : Option Int → Mem → Prop) : Prop := Q none M
def wPart (we : WE) (δ : DE) (M : Mem) (Q : Option Int → Mem → Prop) : Prop := we δ M fun x M1 => ∃ i, x = .int i ∧ Q (some i) M1
instance lf_noPart : LfO K E Ξ tNoPart wNoPart := ⟨fun {_ _ _} h {σ F G H} e s o {R} k => k none _ F H h Ext.refl s⟩
instance lf_part [a : LfE K E Ξ te we] : LfO K E Ξ (tPart te) (wPart we) := ⟨fun {δ M Q} h {σ F G H} e s o {R} k =>
  a.run h e s o fun x M1 v F1 H1 ⟨i, e1, h1⟩ x1 s1 d1 => by subst e1; cases d1; exact ⟨i, rfl, k (some i) M1 F1 H1 h1 x1 s1⟩⟩
theorem SlR.or {X : Cx} {r r' : V → Option Int → Option Int → Hp → VK → Prop} (h : SlR X r) (h' : SlR X r') : SlR X (fun x lo hi H Q => r x lo hi H Q ∨ r' x lo hi H Q) := by
  intro pins s σ H x v vl vu lo hi sl Q I rx hs pl pu q
  rcases q with q | q
  · exact h pins s σ H x v vl vu lo hi sl Q I rx hs pl pu q
  · exact h' pins s σ H x v vl vu lo hi sl Q I rx hs pl pu q
def rSlX (K : Frag) : V → Option Int → Option Int → Hp → VK → Prop := fun x lo hi H Q => (rSlL K x lo hi H Q ∨ rSlA K x lo hi H Q) ∨ rSlS x lo hi H Q
theorem sl_all {X : Cx} : SlR X (rSlX X.K) := SlR.or (SlR.or sl_list sl_tupA) sl_str
def cutD (xs : List D) (lo hi : Option Int) : List D := (xs.drop (HT.sIx xs.length 0 lo)).take (HT.sIx xs.length xs.length hi - HT.sIx xs.length 0 lo)
theorem den_cut {l : List D} {xs : List V} (d : DenL K F l xs) (lo hi : Option Int) : DenL K F (cutD l lo hi) (cutV xs lo hi) := by
  unfold cutD cutV
  rw [d.len]
  exact (d.drop _).take _
def wSlX (x : D) (lo hi : Option Int) (M : Mem) (Q : WK) : Prop := match x with
  | .lst l => Q (.lst (cutD l lo hi)) M
  | .tup l => Q (.tup (cutD l lo hi)) M
  | .str z => z.length ≤ sizeLine ∧ Q (.str (cutS z lo hi)) M
  | .ref p => ∃ l, M p = some (· = .lst l) ∧ Q (.lst (cutD l lo hi)) M
  | _ => False
def wSl (we : WE) (wl wh : WO) (δ : DE) (M : Mem) (Q : WK) : Prop := we δ M fun x M1 => wl δ M1 fun l M2 => wh δ M2 fun u M3 => wSlX x l u M3 Q
end
end DL
set_option Elab.async false
set_option linter.all false
set_option maxRecDepth 100000
namespace DL
open PySem L2 PyProof.Rows
section
variable {K : Frag} {E : XS} {Ξ : DX} {te : TE} {we : WE} {tl th : TO} {wl wh : WO}
instance lf_slX [a : LfE K E Ξ te we] [b : LfO K E Ξ tl wl] [c : LfO K E Ξ th wh] : LfE K E Ξ (tSl (rSlX K) te tl th) (wSl we wl wh) := ⟨fun {δ M Q} h {σ F G H} e s o {R} k =>
  a.run h e s o fun x M1 v F1 H1 h1 x1 s1 d1 => b.run h1 (e.ext x1) s1 (o.ext x1) fun lo M2 F2 H2 h2 x2 s2 => c.run h2 ((e.ext x1).ext x2) s2 ((o.ext x1).ext x2) fun hi M3 F3 H3 h3 x3 s3 => by
    have x123 := (x1.trans x2).trans x3
    have d3 := (d1.ext x2).ext x3
    have lst : ∀ (p : Addr) (l : List D) (xs : List V), SqL K H3 p xs → DenL K F3 l xs → Q (.lst (cutD l lo hi)) M3 → rSlX K (.ref p) lo hi H3 R := fun p l xs q dl hq =>
      .inl (.inl ⟨p, xs, rfl, q, fun r nr => k _ M3 _ _ _ hq (x123.trans (Ext.new (s3.freshF nr))) (s3.new nr) ⟨r, _, rfl, SqL.of upd_same, (den_cut dl lo hi).ext (Ext.new (s3.freshF nr))⟩⟩)
    cases x with
    | lst l =>
      obtain ⟨p, xs, rfl, q, dl⟩ := d3
      exact lst p l xs (sql_ext s3.sub q) dl h3
    | ref p =>
      obtain ⟨l, hp, h3⟩ := h3
      obtain ⟨p', xs, e, q, dl⟩ := lst_at s3 d3 (.inr ⟨p, rfl, hp⟩)
      subst e
      exact lst p' l xs q dl h3
    | tup l =>
      obtain ⟨p, xs, rfl, q, dl⟩ := d3
      refine .inl (.inr ⟨p, xs, rfl, sqt_ext s3.sub q, fun hw => ?_, fun hw r nr => ?_⟩)
      · have el : cutD l lo hi = l := by
          unfold cutD
          rw [dl.len, hw.1, hw.2, List.drop_zero, Nat.sub_zero, ← dl.len, List.take_length]
        have h3 : Q (.tup (cutD l lo hi)) M3 := h3
        rw [el] at h3
        exact k _ M3 _ F3 H3 h3 x123 s3 ⟨p, xs, rfl, q, dl⟩
      · exact k _ M3 _ _ _ h3 (x123.trans (Ext.new (s3.freshF nr))) (s3.new nr) ⟨r, _, rfl, SqT.of upd_same, (den_cut dl lo hi).ext (Ext.new (s3.freshF nr))⟩
    | str z => cases d3; exact .inr ⟨z, rfl, h3.1, k _ M3 _ F3 H3 h3.2 x123 s3 rfl⟩
    | _ => exact h3.elim⟩
end
/-! ### defs that may show data: no object is being shown around them -/
structure FnG (P : Program) (w : World) (K : Frag) (mg : Str → Option Value) (base : Heap) (CX : CXT) (k : Nat) (f : Addr) (fd : FuncData) (ps : List Str) (sp : Sp) : Prop where
  size : ∀ {vs : List V} {H : Hp} {Q : VK} {E : XK}, sp vs H Q E → vs.length = ps.length
  go : ∀ {A : Around} {outer : List Env} {s : Shared} {H : Hp} {args : Args} {us : List Value} {vs : List V} {Q : VK} {E : XK}, A.guards = some [] → Room k A → Env0 P w K mg base A outer s H → BindsTo s fd args (ps.zip us) → Vals vs us → sp vs H Q E →
    codeAny (model P w) A (.call (.ref f) args) (CR CX outer P w H s Q E) s
theorem FnG.of {P : Program} {w : World} {K : Frag} {mg : Str → Option Value} {base : Heap} {CX : CXT} {k : Nat} {f : Addr} {fd : FuncData} {ps : List Str} {sp : Sp} (F : FnOk P w K mg base CX k f fd ps sp) : FnG P w K mg base CX k f fd ps sp :=
  ⟨fun h => F.len _ _ _ _ h, fun {A outer s H args us vs Q E} _ hr e b v h => F.run A outer s H args us vs Q E hr e b v h⟩
theorem FnG.up {P : Program} {w : World} {K : Frag} {mg : Str → Option Value} {base : Heap} {CX : CXT} {j k : Nat} {f : Addr} {fd : FuncData} {ps : List Str} {sp : Sp} (F : FnG P w K mg base CX j f fd ps sp) (h : j ≤ k) : FnG P w K mg base CX k f fd ps sp :=
  ⟨F.size, fun hg hr e b v q => F.go hg (hr.mono h) e b v q⟩
section
variable {X : Cx} {CX : CXT} {k : Nat} {f : Addr} {fd : FuncData} {ps : List Str} {sp : Sp} {dvs : List V} {ds : List Value} {E : XS} {E1 : XK}
variable {x : Str} {p pos : Pos} {e : Expr} {es : List Expr} {t : TA}
end
section
variable {P : Program} {w : World} {K : Frag} {mg : Str → Option Value} {base : Heap}
/-- as def_ok, for a def that may show data -/
theorem def_okG {x qual : Str} {params : Arguments} {body : List Stmt} {scope : Scope} {dvs : List V} {kws : List (Str × V)} {f : Addr} {fd : FuncData} {N ps : List Str} {k n : Nat} {S : DSp} (F : FunD K x qual params body scope dvs kws f fd) (Sc : FnScope N ps scope) (hn : n = ps.length) {W : WX → WS}
    (hbody : ∀ (cdv : Value) (A : Around) (outer : List Env) (s : Shared) (H : Hp) (E : XK), A.guards = some [] → Room k (A.deeper (envOfC qual scope s.heap.objs.size f cdv)) → ∃ t, PSs (cxOf (L2.CX P w) P w K mg base N qual scope f cdv A outer s H E) body t ∧ ∀ Ξ, LfS K (kE E) (kX Ξ) t (W Ξ))
    (pure : ∀ ds M Qd Ed, ds.length = n → S ds M Qd Ed → W (weakX Ed) { nx := fun _ M => weakK Qd .non M, rt := weakK Qd } (startD N ds) M) : FnG P w K mg base (L2.CX P w) (k + 1) f fd ps (toSp K n S) := by
  obtain ⟨oc, od, dV, kV, doc, pm, an, cdv, ct, osl, rfl, lk, hcd, hdf, hkw⟩ := F.ex
  refine ⟨fun h => by rw [← hn]; exact h.1, fun {A outer s H args us vs Q E} hg hr e0 hb r hsp => ?_⟩
  have hl : vs.length = ps.length := by rw [← hn]; exact hsp.1
  have KX : K.In s.heap := e0.mod.kin.keeps fun b o e => (e0.bs b o e).1
  have par : ∀ y ∈ ps.zip us, scope.names.lookup y.1 = some .local ∨ (scope.names.lookup y.1 = some .cell ∧ ((cellsFrom (s.heap.objs.size + 1) scope.names []).lookup y.1).isSome = true) := fun ⟨n, v⟩ hy =>
    (Sc.par n (List.of_mem_zip hy).1).elim .inl fun q => .inr ⟨q, PySem.W.cellsFrom_some _ _ _ (.inl q)⟩
  refine codeAny_call_function hr.depth (KX _ _ lk) rfl Sc.co Sc.gen rfl (PySem.W.codeRec_of KX hcd) (hb _ _ _ _ (wpAny_newFunctionEnv_cells Sc.kind par fun env he s1 z => ?_))
  subst he
  refine ⟨(e0.mod.nolimit.keeps fun b o e => (e0.bs b o e).1).keeps z.toInCall.keep, codeAny_func ?_⟩
  obtain ⟨t, ht, l⟩ := hbody cdv A outer s H E hg (hr.deeper _)
  obtain ⟨hv, ds, M, F0, G, Qd, Ed, hS, sat, d, kk, o⟩ := hsp
  have J := inv_start (CX := L2.CX P w) (cd := cdv) (f := f) (qual := qual) (outer := outer) (E := E) Sc hr.hd e0 hl r z
  refine wpAny_mono (ht.run [] s1 _ H _ J (run_def (P := P) (l (weakX Ed)) (pure ds M Qd Ed (by rw [d.len, hv]) hS) sat d kk o)) (fun fl s2 hs => ?_) fun e s2 hs => hs
  match fl, hs with
  | .ret u, ⟨v, σ2, H2, J2, rv, q⟩ => exact ⟨v, H2, J2.os, J2.bare, J2.base, J2.hok, rv, q⟩
  | .next, ⟨σ2, H2, J2, q⟩ => exact ⟨.non, H2, J2.os, J2.bare, J2.base, J2.hok, rfl, q⟩
  | .brk, ⟨σ2, H2, J2, q⟩ => exact q.elim
  | .cont, ⟨σ2, H2, J2, q⟩ => exact q.elim
end
end DL
set_option Elab.async false
set_option linter.all false
set_option maxRecDepth 100000
namespace DL
open PySem L2 PyProof.Rows
/-- the law's def is called on the script, nothing being shown -/
theorem law_goG {P : Program} {w : World} {K : Frag} {mg mb : Str → Option Value} {k : Nat} {fa a : Addr} {fd : FuncData} {x : Str} {sp : Sp} {z : Shared} {us : List Value} {ns : List Int}
    (KX : K.In z.heap) (hns : z.heap.Ns mainGlobals mg) (hb : z.heap.Ns builtinsNs mb) (hbb : ∀ x : Str, x ≠ "__name__" → mb x = bootBuiltins x) (hlim : z.heap.NoLimit) (hg : z.gens = #[])
    (ha : z.heap.get? a = some { cls := .type "list", data := .seq us.toArray }) (hi : IntsAre us ns) (hl : ns.length ≤ sizeLine) (hr : Room k callerA)
    (Fn : ∀ base : Heap, K.In base → base.Ns mainGlobals mg → FnG P w K mg base (L2.CX P w) k fa fd [x] sp) (hbind : ∀ (s : Shared) (u : Value), BindsTo s fd ⟨[u], []⟩ [(x, u)])
    (hsp : ∀ H : Hp, Only H → SqL K H a (ns.map V.int) → sp [.ref a] H (fun v _ => v = .bl true) fun _ _ _ => False) :
    codeAny (model P w) callerA (.call (.ref fa) ⟨[.ref a], []⟩) (fun r y => r = .ok (.ret (.bool true)) ∧ OldK z.heap y.heap ∧ y.os = z.os ∧ AllBare y.gens) z := by
  have rv := vals_ints hi
  have body : ∀ H : Hp, Only H → SqL K H a (ns.map V.int) → HOk P w H z.heap → (∀ b, H b ≠ none → b = a) → (H a ≠ none → K.lookup a = none) →
      codeAny (model P w) callerA (.call (.ref fa) ⟨[.ref a], []⟩) (fun r y => r = .ok (.ret (.bool true)) ∧ OldK z.heap y.heap ∧ y.os = z.os ∧ AllBare y.gens) z := by
    intro H hO hS ok only1 outK
    have isA : ∀ {b : Addr} {u : HO}, H b = some u → b = a := fun {b u} q => only1 b (by rw [q]; simp)
    have plain : ∀ {b : Addr} {o : Obj} {es : Array DictEntry} {ep : Nat}, z.heap.get? b = some o → o.data = .dict es ep → H b = none := fun {b o es ep} e d => by
      cases q : H b with
      | none => rfl
      | some u =>
        have eb := isA q
        rw [eb, ha] at e
        cases e
        exact nomatch (show Data.seq us.toArray _ = Data.dict es ep from d)
    have ns1 : ∀ {b : Addr} {m : Str → Option Value}, z.heap.Ns b m → (hidT z.heap H).Ns b m := fun {b m} ⟨o, es, ep, e, d, r⟩ => ⟨o, es, ep, hidT_get e (plain e d), d, r⟩
    have kin : K.In (hidT z.heap H) := fun b o e => hidT_get (KX b o e) (by
      cases q : H b with
      | none => rfl
      | some u =>
        have eb := isA q
        rw [eb] at q e
        rw [outK (by rw [q]; simp)] at e
        cases e)
    have noFr : ∀ b ∈ frs ([] : List Env), H b = none := fun b hb => nomatch (show b ∈ ([] : List Addr) from hb)
    have at0 : Env0 P w K mg (hidT z.heap H) callerA [] z H :=
      ⟨rfl, ⟨kin, ns1 hns, ⟨mb, ns1 hb, hbb⟩, hlim.elim fun mc q => ⟨mc, ns1 q.1, q.2⟩⟩, fun b o e => of_hidT e, Nat.le_of_eq (hidT_size _ _), trivial, noFr, ok, .of_eq hg⟩
    refine codeAny_mono ((Fn _ kin (ns1 hns)).go (us := [.ref a]) (vs := [.ref a]) rfl hr at0 (hbind z (.ref a)) (.cons rfl .nil) (hsp H hO hS)) fun r y h => ?_
    match r, h with
    | .error e, ⟨_, _, _, _, _, _, _, _, _, _, _, _, q⟩ => exact q.elim
    | .ok .next, h => exact h.elim
    | .ok .brk, h => exact h.elim
    | .ok .cont, h => exact h.elim
    | .ok (.ret u), ⟨v, H2, os, bare, un, ok2, rr, q⟩ =>
      have ev : v = .bl true := q
      subst ev
      cases (show u = Value.bool true from rr)
      refine ⟨rfl, OldK.of_keep fun b o e => ?_, os, bare⟩
      cases t : H b with
      | none => exact un.keep b o e t (fun m => (nomatch (show b ∈ ([] : List Addr) from m))) (fun m => (nomatch m))
      | some u =>
        rcases hO b with n | ⟨ob, xs, f⟩
        · rw [t] at n; cases n
        · have e1 := (show z.heap.get? b = some ob ∧ _ from ok b _ f).1
          have e2 := (show y.heap.get? b = some ob ∧ _ from ok2 b _ (un.frzs b ob _ f)).1
          rw [e] at e1
          cases e1
          exact e2
  cases hk : K.lookup a with
  | some o =>
    have e := KX a o hk
    rw [ha] at e
    cases e
    refine body (fun _ => none) (fun _ => .inl rfl) (.inr ⟨_, us.toArray, _, hk, rfl, rfl, rfl, ?_, by simpa using rv⟩) (fun b u q => (nomatch (show (none : Option HO) = some u from q))) (fun b q => absurd rfl q) fun q => absurd rfl q
    rw [List.size_toArray, hi.length]
    exact hl
  | none =>
    have at_a : ∀ {b : Addr} {u v : HO}, (if b = a then some v else none) = some u → b = a ∧ v = u := fun {b u v} q => by
      by_cases e : b = a
      · rw [if_pos e] at q; exact ⟨e, Option.some.inj q⟩
      · rw [if_neg e] at q; cases q
    refine body (fun b => if b = a then some (.frz { cls := .type "list", data := .seq us.toArray } (.lst (ns.map V.int))) else none) (fun b => ?_) (.inl (.inr ⟨_, if_pos rfl⟩)) (fun b u q => ?_) (fun b q => ?_) fun _ => hk
    · by_cases e : b = a
      · exact .inr ⟨_, _, if_pos e⟩
      · exact .inl (if_neg e)
    · obtain ⟨e1, e2⟩ := at_a q
      subst e1 e2
      exact ⟨ha, by rw [List.length_map]; exact hl, us, _, rv, ha⟩
    · exact Classical.byContradiction fun e => q (if_neg e)
/-- a law's row, from the promise of its def over data -/
theorem walkG {l : PySem.W.OpenLaw} {n k : Nat} {q : Program} {loose : List Str} {XP : (Str → Option Value) → Heap → Prop} {YP : World → Heap → Prop} {d : DefRec} {x : Str}
    (hn : l.most = some n) (hn2 : n ≤ sizeLine) (hdf : d.params.defaults = []) (hr : Room k callerA)
    (Fn : ∀ (w : World) (mg : Str → Option Value) (fa : Addr) (h : Heap), YP w h → h.Ns mainGlobals mg → mg d.name = some (.ref fa) →
      ∃ (K : Frag) (fd : FuncData), K.In h ∧ (∀ (s : Shared) (u : Value), BindsTo s fd ⟨[u], []⟩ [(x, u)]) ∧ ∃ S : DSp, (∀ (M : Mem) (ns : List Int), ns.length ≤ n → (∀ a, M a = none) → S [.lst (ns.map D.int)] M (fun v _ => v = .bl true) fun _ _ => False) ∧
        ∀ base : Heap, K.In base → base.Ns mainGlobals mg → FnG l.prog w K mg base (L2.CX l.prog w) k fa fd [x] (toSp K 1 S)) :
    PySem.W.WalkO q loose XP YP l.row.toRowW d [] (fun f vs => PySem.call f vs) := by
  refine Att.attach_call hn hdf fun w s0 z mg mb fa o pm cd doc a us ns G Y ho hd hcd hmg hobj hints hlen hg => ?_
  obtain ⟨K, fd, KX, hb, S, hS, hF⟩ := Fn w mg fa _ Y G.T.g hmg
  refine law_goG KX G.T.g G.T.b G.T.builtins G.T.nolimit hg hobj hints (Nat.le_trans hlen hn2) hr hF hb fun H hO hq => ?_
  refine ⟨rfl, [.lst (ns.map D.int)], fun _ => none, H, fun _ => none, _, _, hS _ ns hlen (fun _ => rfl), ⟨Ext.refl, (fun _ _ e => nomatch e), (fun _ _ e => nomatch e), (fun _ _ e => nomatch e)⟩, ⟨_, [], rfl, ⟨a, _, rfl, hq, ?_⟩, rfl⟩, fun d M' v F' H' e _ _ dv => ?_, EOk1.none⟩
  · exact DenL.ofMap (f := D.int) (g := V.int) (fun _ => rfl) ns
  · subst e
    exact dv
end DL
set_option Elab.async false
set_option linter.all false
set_option maxRecDepth 100000
namespace DL
open PySem L2 PyProof.Rows
section
variable {K : Frag} {E : XS} {Ξ : DX} {ta tb tc te : TE} {wa wb wc we : WE} {tl : TA} {wl : WA}
/-! ### chains, truth -/
def wChain (r r' : WR2) (wa wb wc : WE) (δ : DE) (M : Mem) (Q : WK) : Prop := wa δ M fun x M1 => wb δ M1 fun y M2 => r x y M2 fun z M3 => ∃ k, z = .bl k ∧ if k = true then wc δ M3 fun u M4 => r' y u M4 Q else Q (.bl false) M3
instance lf_chain {r r' : R2} {w w' : WR2} [a : LfE K E Ξ ta wa] [b : LfE K E Ξ tb wb] [c : LfE K E Ξ tc wc] [l : LfR K E Ξ r w] [l' : LfR K E Ξ r' w'] : LfE K E Ξ (tChain r r' ta tb tc) (wChain w w' wa wb wc) := ⟨fun {δ M Q} h {σ F G H} e s o {R} k =>
  a.run h e s o fun x M1 v F1 H1 h1 x1 s1 d1 => b.run h1 (e.ext x1) s1 (o.ext x1) fun y M2 u F2 H2 h2 x2 s2 d2 => l.run h2 s2 ((o.ext x1).ext x2) (d1.ext x2) d2 fun z M3 zv F3 H3 ⟨kk, e1, h3⟩ x3 s3 d3 => by
    subst e1
    refine ⟨kk, d3, ?_⟩
    have x123 := (x1.trans x2).trans x3
    cases kk with
    | true => exact c.run h3 (e.ext x123) s3 (o.ext x123) fun u M4 uv F4 H4 h4 x4 s4 d4 => l'.run h4 s4 (o.ext (x123.trans x4)) ((d2.ext x3).ext x4) d4 fun d M5 z F5 H5 h5 x5 s5 d5 => k d M5 z F5 H5 h5 ((x123.trans x4).trans x5) s5 d5
    | false => exact k _ M3 _ F3 H3 h3 x123 s3 rfl⟩
def tTruth (K : Frag) (ta : TE) : TT := fun σ H Q => ta σ H fun x H' => ∃ k, TruV K x H' k ∧ Q k H'
theorem pt_tru {X : Cx} {a : Expr} (ha : PE X a ta) (he : ∀ whole, isTrue a X.env whole = (do let v ← whole; standAt a.pos; holding [v] (truthy v)) := by intro _; rfl) : PT X a (tTruth X.K ta) := pt_truth ha he
def wTruth (we : WE) (δ : DE) (M : Mem) (Q : Bool → Mem → Prop) : Prop := we δ M fun x M1 => match x with
  | .non => Q false M1
  | .bl b => Q b M1
  | .int i => Q (i != 0) M1
  | .str z => z.length ≤ sizeLine ∧ Q ((z.length : Int) != 0) M1
  | .lst l => Q (!l.isEmpty) M1
  | .tup l => Q (!l.isEmpty) M1
  | .ref p => ∃ l, M1 p = some (· = .lst l) ∧ Q (!l.isEmpty) M1
  | _ => False
theorem den_isEmpty {F : Hp} {l : List D} {xs : List V} (d : DenL K F l xs) : l.isEmpty = xs.isEmpty := by
  cases l with
  | nil => rw [show xs = [] from d] <;> rfl
  | cons _ _ => obtain ⟨_, _, rfl, _⟩ := d; rfl
instance lf_truth [a : LfE K E Ξ te we] : LfT K E Ξ (tTruth K te) (wTruth we) := ⟨fun {δ M Q} h {σ F G H} e s o {R} k =>
  a.run h e s o fun x M1 v F1 H1 h1 x1 s1 d1 => by
    cases x with
    | non => cases d1; exact ⟨_, rfl, k _ M1 F1 H1 h1 x1 s1⟩
    | bl b => cases d1; exact ⟨_, rfl, k _ M1 F1 H1 h1 x1 s1⟩
    | int i => cases d1; exact ⟨_, rfl, k _ M1 F1 H1 h1 x1 s1⟩
    | str z => cases d1; exact ⟨_, ⟨h1.1, rfl⟩, k _ M1 F1 H1 h1.2 x1 s1⟩
    | lst l =>
      obtain ⟨p, xs, rfl, q, dl⟩ := d1
      exact ⟨_, .inl ⟨xs, sql_ext s1.sub q, rfl⟩, by rw [← den_isEmpty dl]; exact k _ M1 F1 H1 h1 x1 s1⟩
    | tup l =>
      obtain ⟨p, xs, rfl, q, dl⟩ := d1
      exact ⟨_, .inr (.inl ⟨xs, sqt_ext s1.sub q, rfl⟩), by rw [← den_isEmpty dl]; exact k _ M1 F1 H1 h1 x1 s1⟩
    | ref p =>
      obtain ⟨l, hp, h1⟩ := h1
      obtain ⟨p', xs, e, q, dl⟩ := lst_at s1 d1 (.inr ⟨p, rfl, hp⟩)
      subst e
      exact ⟨_, .inl ⟨xs, q, rfl⟩, by rw [← den_isEmpty dl]; exact k _ M1 F1 H1 h1 x1 s1⟩
    | _ => exact h1.elim⟩
/-! ### dict displays -/
def wPairs : List (WE × WE) → DE → Mem → (List (D × D) → Mem → Prop) → Prop
  | [], _, M, Q => Q [] M
  | (wk, wv) :: r, δ, M, Q => wk δ M fun x M1 => wv δ M1 fun y M2 => wPairs r δ M2 fun ps M3 => Q ((x, y) :: ps) M3
class LfPs (K : Frag) (E : XS) (Ξ : DX) (t : List (TE × TE)) (w : outParam (List (WE × WE))) : Prop where
  run : ∀ {δ : DE} {M : Mem} {Q : List (D × D) → Mem → Prop}, wPairs w δ M Q → ∀ {σ : L2.St} {F G H : Hp}, EnvOk K F δ σ → Sat K F M G H → EOk K F G Ξ E → ∀ {R : List (V × V) → Hp → Prop}, (∀ ps M' vs F' H', Q ps M' → Ext F F' → Sat K F' M' G H' → DenL K F' (ps.map (·.1)) (vs.map (·.1)) → DenL K F' (ps.map (·.2)) (vs.map (·.2)) → ps.length = vs.length → R vs H') → tPairs t σ H R
instance lf_psNil : LfPs K E Ξ [] [] := ⟨fun {δ M Q} h {σ F G H} e s o {R} k => k [] M [] F H h Ext.refl s rfl rfl rfl⟩
instance lf_psCons {ts : List (TE × TE)} {ws : List (WE × WE)} [a : LfE K E Ξ ta wa] [b : LfE K E Ξ tb wb] [c : LfPs K E Ξ ts ws] : LfPs K E Ξ ((ta, tb) :: ts) ((wa, wb) :: ws) := ⟨fun {δ M Q} h {σ F G H} e s o {R} k =>
  a.run h e s o fun x M1 v F1 H1 h1 x1 s1 d1 => b.run h1 (e.ext x1) s1 (o.ext x1) fun y M2 u F2 H2 h2 x2 s2 d2 => c.run h2 ((e.ext x1).ext x2) s2 ((o.ext x1).ext x2) fun ps M3 vs F3 H3 h3 x3 s3 d3 d4 hl =>
    k _ M3 ((v, u) :: vs) F3 H3 h3 ((x1.trans x2).trans x3) s3 ⟨_, _, rfl, (d1.ext x2).ext x3, d3⟩ ⟨_, _, rfl, d2.ext x3, d4⟩ (by rw [List.length_cons, List.length_cons, hl])⟩
/-- the keys are ints and texts -/
def keysOf : List (D × D) → Option (List (Key × D))
  | [] => some []
  | p :: r => match keyOf p.1, keysOf r with
    | some k, some ks => some ((k, p.2) :: ks)
    | _, _ => none
def mergeD (acc : List (Key × D)) (more : List (Key × D)) : List (Key × D) := more.foldl (fun acc kv => putD acc kv.1 kv.2) acc
theorem keys_den {F : Hp} : ∀ {ps : List (D × D)} {vs : List (V × V)} {kvs : List (Key × D)}, keysOf ps = some kvs → DenL K F (ps.map (·.1)) (vs.map (·.1)) → DenL K F (ps.map (·.2)) (vs.map (·.2)) → ps.length = vs.length →
    ∃ ws : List (Key × V), vs = ws.map (fun kv => (kV kv.1, kv.2)) ∧ DenP K F kvs ws ∧ ws.length = ps.length
  | [], vs, kvs, h, _, _, hl => by
    cases h
    have : vs = [] := List.eq_nil_of_length_eq_zero hl.symm
    subst this
    exact ⟨[], rfl, DenP.nil, rfl⟩
  | p :: r, vs, kvs, h, d1, d2, hl => by
    match vs, d1, d2, hl with
    | [], _, _, hl => cases hl
    | (v, u) :: vs, ⟨_, _, e1, dk, d3⟩, ⟨_, _, e2, dv, d4⟩, hl =>
      simp only [List.map_cons, List.cons.injEq] at e1 e2
      obtain ⟨rfl, rfl⟩ := e1
      obtain ⟨rfl, rfl⟩ := e2
      unfold keysOf at h
      cases q1 : keyOf p.1 with
      | none => rw [q1] at h; cases h
      | some k => cases q2 : keysOf r with
        | none => rw [q1, q2] at h; cases h
        | some ks =>
          rw [q1, q2] at h
          cases h
          obtain ⟨ws, e, d, l⟩ := keys_den q2 d3 d4 (by simpa using hl)
          exact ⟨(k, u) :: ws, by rw [e, key_of dk q1]; rfl, DenP.cons dv d, by simp [l]⟩
theorem denP_merge {F : Hp} : ∀ {more : List (Key × D)} {ms : List (Key × V)} {acc : List (Key × D)} {as : List (Key × V)}, DenP K F more ms → DenP K F acc as → DenP K F (mergeD acc more) (mergeK as ms)
  | [], _, _, _, h, g => by rw [denP_nil h]; exact g
  | p :: r, _, _, _, h, g => by
    obtain ⟨v, rs, rfl, dv, ht⟩ := denP_cons h
    show DenP K F (mergeD (putD _ p.1 p.2) r) (mergeK (putK _ p.1 v) rs)
    exact denP_merge ht (denP_put g dv)
theorem disp_run {trs : List (TE × TE)} {ws : List (WE × WE)} [a : LfPs K E Ξ trs ws] {δ : DE} {M : Mem} {Q : List (Key × D) → Mem → Prop} (h : wPairs ws δ M fun ps M1 => ∃ kvs, keysOf ps = some kvs ∧ ps.length ≤ 15 ∧ Q (mergeD [] kvs) M1) {σ : L2.St} {F G H : Hp} (e : EnvOk K F δ σ) (s : Sat K F M G H) (o : EOk K F G Ξ E) {R : VK}
    (k : ∀ kvs M' p ws F' H', Q kvs M' → Ext F F' → Sat K F' M' (upd G p (.dK ws)) H' → G p = none → DenP K F' kvs ws → R (.ref p) H') : tDisp trs σ H R := by
  intro p np
  have gp := s.freshG np
  refine a.run h e (s.put np) (o.aside (aside_upd gp)) fun ps M1 vs F1 H1 ⟨kvs, h1, h2, h3⟩ x1 s1 d1 d2 hl => ?_
  obtain ⟨ws, ev, dp, hw⟩ := keys_den h1 d1 d2 hl
  exact ⟨(s1.fr p _ upd_same).1, ws, ev, by rw [hw]; exact h2, k _ M1 p (mergeK [] ws) F1 _ h3 x1 s1.reput gp (denP_merge dp DenP.nil)⟩
/-- a dict that will be changed -/
def tDispC (trs : List (TE × TE)) : TE := tDisp trs
def wDispC (ws : List (WE × WE)) : WE := fun δ M Q => wPairs ws δ M fun ps M1 => ∃ kvs, keysOf ps = some kvs ∧ ps.length ≤ 15 ∧ ∀ p, M1 p = none → Q (.ref p) (mset M1 p (· = .dic (mergeD [] kvs)))
instance lf_dispC {trs : List (TE × TE)} {ws : List (WE × WE)} [a : LfPs K E Ξ trs ws] : LfE K E Ξ (tDispC trs) (wDispC ws) := ⟨fun {δ M Q} h {σ F G H} e s o {R} k =>
  disp_run (Q := fun kvs M1 => ∀ p, M1 p = none → Q (.ref p) (mset M1 p (· = .dic kvs))) h e s o fun kvs M1 p ws F1 H1 h1 x1 s1 gp dp => by
    obtain ⟨q1, q2, q3⟩ := s1.fr p _ upd_same
    refine k _ _ _ F1 H1 (h1 p q3) x1 ⟨s1.sub, fun a φ e => ?_, fun a φ e => ?_, fun a u e => ?_⟩ rfl
    · by_cases z : a = p
      · subst z; exact q2
      · rw [mset_ne z] at e; exact s1.dis a φ e
    · by_cases z : a = p
      · subst z; rw [mset_same] at e; cases e; exact ⟨_, q1, _, rfl, _, rfl, dp⟩
      · rw [mset_ne z] at e; exact s1.mem a φ e
    · have z := ne_of_none e gp
      rw [mset_ne z]
      exact s1.fr a u (by rw [upd_ne z]; exact e)⟩
/-- a dict that is never changed -/
def wDisp (ws : List (WE × WE)) : WE := fun δ M Q => wPairs ws δ M fun ps M1 => ∃ kvs, keysOf ps = some kvs ∧ ps.length ≤ 15 ∧ Q (.dic ((mergeD [] kvs).map Prod.fst) ((mergeD [] kvs).map Prod.snd)) M1
theorem zip_maps {α β : Type} : ∀ l : List (α × β), (l.map Prod.fst).zip (l.map Prod.snd) = l
  | [] => rfl
  | p :: r => by rw [List.map_cons, List.map_cons, List.zip_cons_cons, zip_maps r]
/-- what is made is locked for ever -/
def tFrz (t : TE) : TE := fun σ H Q => t σ H fun x H1 => ∃ d u, x = .ref d ∧ H1 d = some u ∧ Mut (some u) ∧ ∀ od, Q x (upd H1 d (.frz od u))
theorem pe_frz {X : Cx} {e : Expr} {t : TE} (h : PE X e t) : PE X e (tFrz t) := by
  refine ⟨fun pins s σ H Q I hw => ?_⟩
  refine thn (h.run pins s σ _ _ I hw) fun v s1 ⟨x, H1, I2, r, d, u, e1, hd, mu, q⟩ => ?_
  obtain ⟨od, I3⟩ := I2.lock hd mu
  exact ⟨x, _, I3, r, q od⟩
instance lf_disp {trs : List (TE × TE)} {ws : List (WE × WE)} [a : LfPs K E Ξ trs ws] : LfE K E Ξ (tFrz (tDisp trs)) (wDisp ws) := ⟨fun {δ M Q} h {σ F G H} e s o {R} k =>
  disp_run (Q := fun (kvs : List (Key × D)) M1 => Q (.dic (kvs.map Prod.fst) (kvs.map Prod.snd)) M1) h e s o fun kvs M1 p ws F1 H1 h1 x1 s1 gp dp => by
    refine ⟨p, _, rfl, (s1.fr p _ upd_same).1, trivial, fun od => ?_⟩
    obtain ⟨x2, s2⟩ := (s1.reput (o := .frz od (.dK ws))).settle gp
    refine k _ _ _ _ _ h1 (x1.trans x2) s2 ⟨p, od, ws.map (·.2), rfl, ?_, ?_, dp.2.ext x2⟩
    · rw [dp.1, zip_maps, upd_same]
    · rw [List.length_map, List.length_map, dp.len]⟩
instance lf_dnew : LfE K E Ξ (tFrz tDNewK) (wC (.dic [] [])) := ⟨fun {δ M Q} h {σ F G H} e s o {R} k p np => ⟨p, _, rfl, upd_same, trivial, fun od => by
  rw [upd_upd]
  exact k _ M _ _ _ h (Ext.new (s.freshF np)) (s.new np) ⟨p, od, [], rfl, upd_same, rfl, rfl⟩⟩⟩
theorem pe_dispC {X : Cx} {pos : Pos} {keys : List (Option Expr)} {values : List Expr} {trs : List (TE × TE)} (h : PE X (.Dict keys values pos) (tDisp trs)) : PE X (.Dict keys values pos) (tDispC trs) := h
theorem pe_lstC {X : Cx} {es : List Expr} {pos : Pos} {t : TA} (h : PE X (.List es pos) (tLst t)) : PE X (.List es pos) (tLstC t) := h
/-! ### the module's constants -/
theorem pe_gr {X : Cx} {x : Str} {a : Addr} {pos : Pos} (h : X.mg x = some (.ref a)) (hg : Gl X x := by rfl) (hd : (x == ("__debug__" : Str)) = false := by decide) : PE X (.Name x pos) (tC (.ref a)) := pe_glob hg h rfl hd
theorem pe_ty {X : Cx} {x : Str} {n : String} {pos : Pos} (h : X.mg x = none) (hb : bootBuiltins x = some (.type n)) (hg : Gl X x := by rfl) (hn : x ≠ "__name__" := by decide) (hd : (x == ("__debug__" : Str)) = false := by decide) : PE X (.Name x pos) (tC (.ty n)) := pe_bltn hg h hb rfl hn hd
/-- a tuple of the module's top -/
class KTup (K : Frag) (a : Addr) (ds : outParam (List D)) : Prop where
  den : ∀ F : Hp, Den K F (.tup ds) (.ref a)
def tKT (a : Addr) : TE := tC (.ref a)
instance lf_kt {a : Addr} {ds : List D} [c : KTup K a ds] : LfE K E Ξ (tKT a) (wC (.tup ds)) := ⟨fun {δ M Q} h {σ F G H} e s o {R} k => k _ M _ F H h Ext.refl s (c.den F)⟩
end
/-! ### a def by its name -/
/-- it stands in the text, of no defaults -/
def Def1 (K : Frag) (mg : Str → Option Value) (x : Str) (st : Stmt) : Prop := ∃ f fd, mg x = some (.ref f) ∧ FunD K x x (defArgs st) (defBody st) (defScope st) [] [] f fd
/-- it keeps its promise -/
structure Fn1 (P : Program) (w : World) (K : Frag) (mg : Str → Option Value) (base : Heap) (k : Nat) (x : Str) (st : Stmt) (ps : List Str) (n : Nat) (S : DSp) : Prop where
  ex : ∃ f fd, mg x = some (.ref f) ∧ FunD K x x (defArgs st) (defBody st) (defScope st) [] [] f fd ∧ Binds K fd ps [] ∧ FnOk P w K mg base (L2.CX P w) k f fd ps (toSp K n S)
structure Fn1G (P : Program) (w : World) (K : Frag) (mg : Str → Option Value) (base : Heap) (k : Nat) (x : Str) (st : Stmt) (ps : List Str) (n : Nat) (S : DSp) : Prop where
  ex : ∃ f fd, mg x = some (.ref f) ∧ FunD K x x (defArgs st) (defBody st) (defScope st) [] [] f fd ∧ Binds K fd ps [] ∧ FnG P w K mg base (L2.CX P w) k f fd ps (toSp K n S)
section
variable {P : Program} {w : World} {K : Frag} {mg : Str → Option Value} {base : Heap}
theorem fn1 {x : Str} {st : Stmt} {N ps : List Str} {k n : Nat} {S : DSp} (D : Def1 K mg x st) (Sc : FnScope N ps (defScope st)) (hn : n = ps.length)
    (hb : ∀ (kV doc pm : Value) (an : Option Addr) (cdv ct : Value) (us : List Value), us.length = ps.length → bindArgs (PySem.W.fnOf x x (defArgs st) (defBody st) (defScope st) .none kV doc pm an cdv ct) ⟨us, []⟩ = pure (ps.zip us)) {W : WX → WS}
    (hbody : ∀ (f : Addr) (cdv : Value) (A : Around) (outer : List Env) (s : Shared) (H : Hp) (E : XK), Room k (A.deeper (envOfC x (defScope st) s.heap.objs.size f cdv)) → ∃ t, PSs (cxOf (L2.CX P w) P w K mg base N x (defScope st) f cdv A outer s H E) (defBody st) t ∧ ∀ Ξ, LfS K (kE E) (kX Ξ) t (W Ξ))
    (pure : ∀ ds M Qd Ed, ds.length = n → S ds M Qd Ed → W (weakX Ed) { nx := fun _ M => weakK Qd .non M, rt := weakK Qd } (startD N ds) M) : Fn1 P w K mg base (k + 1) x st ps n S := by
  obtain ⟨f, fd, g, F⟩ := D
  exact ⟨f, fd, g, F, F.bindsN hb, def_ok F Sc hn (hbody f) pure⟩
theorem fn1G {x : Str} {st : Stmt} {N ps : List Str} {k n : Nat} {S : DSp} (D : Def1 K mg x st) (Sc : FnScope N ps (defScope st)) (hn : n = ps.length)
    (hb : ∀ (kV doc pm : Value) (an : Option Addr) (cdv ct : Value) (us : List Value), us.length = ps.length → bindArgs (PySem.W.fnOf x x (defArgs st) (defBody st) (defScope st) .none kV doc pm an cdv ct) ⟨us, []⟩ = pure (ps.zip us)) {W : WX → WS}
    (hbody : ∀ (f : Addr) (cdv : Value) (A : Around) (outer : List Env) (s : Shared) (H : Hp) (E : XK), A.guards = some [] → Room k (A.deeper (envOfC x (defScope st) s.heap.objs.size f cdv)) → ∃ t, PSs (cxOf (L2.CX P w) P w K mg base N x (defScope st) f cdv A outer s H E) (defBody st) t ∧ ∀ Ξ, LfS K (kE E) (kX Ξ) t (W Ξ))
    (pure : ∀ ds M Qd Ed, ds.length = n → S ds M Qd Ed → W (weakX Ed) { nx := fun _ M => weakK Qd .non M, rt := weakK Qd } (startD N ds) M) : Fn1G P w K mg base (k + 1) x st ps n S := by
  obtain ⟨f, fd, g, F⟩ := D
  exact ⟨f, fd, g, F, F.bindsN hb, def_okG F Sc hn (hbody f) pure⟩
theorem Fn1.g {k n : Nat} {x : Str} {st : Stmt} {ps : List Str} {S : DSp} (F : Fn1 P w K mg base k x st ps n S) : Fn1G P w K mg base k x st ps n S := by
  obtain ⟨f, fd, a, b, c, d⟩ := F.ex
  exact ⟨f, fd, a, b, c, FnG.of d⟩
end
section
variable {X : Cx} {k j n : Nat} {x : Str} {st : Stmt} {ps : List Str} {S : DSp} {E : XS} {p pos : Pos} {e : Expr} {es : List Expr} {t : TA}
theorem pe_fn (F : Fn1 X.prog X.w X.K X.mg X.base k x st ps n S) (hr : Room j X.A) (hj : Nat.ble k j = true) (hx : PassesS (L2.CX X.prog X.w) X E) (ha : PA X (e :: es) t) (hg : Gl X x := by rfl) (hdb : (x == ("__debug__" : Str)) = false := by decide)
    (he : starEach (e :: es) X.env = (false, eval e X.env) :: starEach es X.env := by rfl) (hpl : (backTo pos (starEach es X.env)).any (·.1) = false := by rfl) : PE X (.Call (.Name x p) (e :: es) [] pos) (tCallX (toSp X.K n S) [] E t) := by
  obtain ⟨f, fd, a, b, c, d⟩ := F.ex
  exact pe_callX d (hr.mono (Nat.le_of_ble_eq_true hj)) hg a b.kp c .nil hx ha hdb he hpl
end
abbrev noX : DX := fun _ _ _ => False
end DL
set_option Elab.async false
set_option linter.all false
set_option maxRecDepth 100000
namespace DL
open PySem L2 PyProof.Rows
/-! ### the rules, the written part K named -/
section
variable {X : Cx} {K : Frag} {E : XS} {k j n : Nat} {x m : Str} {st : Stmt} {ps ks : List Str} {S : DSp} {p pos apos cpos : Pos} {e o a b c : Expr} {es : List Expr} {ta tb tc te to : TE} {t : TA} {tt : TT}
theorem k_add (h : X.K = K := by rfl) : OpR X (binaryOp .Add) (rAddA K) := h ▸ op_addA
theorem k_sub : OpR X (binaryOp .Sub) (rI0 fun i j => .int (i - j)) := op_sub
theorem k_mul : OpR X (binaryOp .Mult) (rI CMulW fun i j => .int (i * j)) := op_mulW
theorem k_div : OpR X (binaryOp .FloorDiv) (rI CDivW fun i j => .int (i / j)) := op_fdivW
theorem k_mod : OpR X (binaryOp .Mod) (rI (fun _ j => 0 < j) fun i j => .int (i % j)) := op_mod
theorem k_pow : OpR X (binaryOp .Pow) (rI CPow fun i j => .int (i ^ j.toNat)) := op_pow
theorem k_eq (hr : Room j X.A) (h : X.K = K := by rfl) : OpR X (compareOp .Eq) (rEqA K) := h ▸ op_eqA hr.units
theorem k_ne (hr : Room j X.A) (h : X.K = K := by rfl) : OpR X (compareOp .NotEq) (rNeA K) := h ▸ op_neA hr.units
theorem pe_ixK (hr : Room j X.A) (ha : PE X a ta) (hb : PE X b tb) (h : X.K = K := by rfl) (hs : PlainIx b := by exact fun _ _ => rfl) : PE X (.Subscript a b pos) (tOp (rIxA K) ta tb) := h ▸ pe_ix (ix_all (hu_of hr)) ha hb hs
theorem pe_slK {lo hi : Option Expr} {tl th : TO} {p2 : Pos} (he : PE X e te) (hl : PO X lo tl) (hu : PO X hi th) (h : X.K = K := by rfl) : PE X (.Subscript e (.Slice lo hi none p2) pos) (tSl (rSlX K) te tl th) := h ▸ pe_slice sl_all he hl hu
theorem pt_trK (ha : PE X a ta) (h : X.K = K := by rfl) (he : ∀ whole, isTrue a X.env whole = (do let v ← whole; standAt a.pos; holding [v] (truthy v)) := by intro _; rfl) : PT X a (tTruth K ta) := h ▸ pt_tru ha he
theorem pi_seqK {tg l : Expr} {tl : TE} (hl : PE X l tl) (h : X.K = K := by rfl) : PI X tg l (iSeq K tl) := h ▸ pi_seq hl
theorem pg_tupK {es : List Expr} {kk : Nat} {g : TGs} (h : PGs X es g) (hc : X.calm = true := by rfl) (hK : X.K = K := by rfl) (hn : (assignEach es X.env).length = es.length := by rfl) (hst : (assignEach es X.env).findIdx? (·.1) = none := by rfl) : PG X (.Tuple es kk pos) (gTup K es.length g) := by
  subst hK
  exact pg_tup hc h hn hst
theorem pe_fnK (F : Fn1 X.prog X.w K X.mg X.base k x st ps n S) (hr : Room j X.A) (hj : Nat.ble k j = true) (hx : PassesS (L2.CX X.prog X.w) X E) (ha : PA X (e :: es) t) (hK : X.K = K := by rfl) (hg : Gl X x := by rfl) (hdb : (x == ("__debug__" : Str)) = false := by decide)
    (he : starEach (e :: es) X.env = (false, eval e X.env) :: starEach es X.env := by rfl) (hpl : (backTo pos (starEach es X.env)).any (·.1) = false := by rfl) : PE X (.Call (.Name x p) (e :: es) [] pos) (tCallX (toSp K n S) [] E t) := by
  subst hK
  exact pe_fn F hr hj hx ha hg hdb he hpl
/-! keywords, in the order of the parameters -/
def gA {α : Type} (a b : List α) : List α := a ++ b
def wCallN (np nk n : Nat) (S : DSp) (Ξ : DX) (wl wk : WA) (δ : DE) (M : Mem) (Q : WK) : Prop := wl δ M fun xs M1 => wk δ M1 fun ys M2 => xs.length = np ∧ ys.length = nk ∧ (xs ++ ys).length = n ∧ S (xs ++ ys) M2 Q (Ξ δ)
instance lf_callN {Ξ : DX} {np nk n : Nat} {tk : TA} {wl wk : WA} [la : LfA K E Ξ t wl] [lb : LfA K E Ξ tk wk] : LfE K E Ξ (tCallNX np nk (toSp K n S) gA E t tk) (wCallN np nk n S Ξ wl wk) := ⟨fun {δ M Q} h {σ F G H} e s o {R} kk =>
  la.run h e s o fun xs M1 vs F1 H1 h1 x1 s1 d1 => lb.run h1 (e.ext x1) s1 (o.ext x1) fun ys M2 us F2 H2 ⟨h2, h3, h4, h5⟩ x2 s2 d2 =>
    ⟨by rw [← d1.len, h2], by rw [← d2.len, h3], call_run h4 h5 s2 ((d1.ext x2).append d2) (((o.at e).ext x1).ext x2) fun d M' v F' H' q x3 s3 d3 => kk d M' v F' H' q ((x1.trans x2).trans x3) s3 d3⟩⟩
instance lf_callN0 {Ξ : DX} {np nk n : Nat} {tk : TA} {wl wk : WA} [la : LfA K E Ξ t wl] [lb : LfA K E Ξ tk wk] : LfE K E Ξ (tCallNX np nk (toSp K n S) gA (kE E0) t tk) (wCallN np nk n S (fun _ _ _ => False) wl wk) := ⟨fun {δ M Q} h {σ F G H} e s o {R} kk =>
  la.run h e s o fun xs M1 vs F1 H1 h1 x1 s1 d1 => lb.run h1 (e.ext x1) s1 (o.ext x1) fun ys M2 us F2 H2 ⟨h2, h3, h4, h5⟩ x2 s2 d2 =>
    ⟨by rw [← d1.len, h2], by rw [← d2.len, h3], call_run h4 h5 s2 ((d1.ext x2).append d2) EOk1.none fun d M' v F' H' q x3 s3 d3 => kk d M' v F' H' q ((x1.trans x2).trans x3) s3 d3⟩⟩
/-! calls of built-ins -/
theorem b_len (h : X.K = K := by rfl) : CallR X (.builtin "len") (rLenA K) := h ▸ call_lenA
theorem b_min (hc : X.calm = true := by rfl) : CallR X (.builtin "min") rMin2 := call_min2 hc
theorem b_isinstance (h : X.K = K := by rfl) : CallR X (.builtin "isinstance") (rIsi K) := h ▸ call_isi
theorem b_repr (hg : X.A.guards = some []) (hr : Room j X.A) (h : X.K = K := by rfl) : CallR X (.builtin "repr") (rRepr K) := h ▸ call_reprA hg hr.units
/-! methods of texts -/
end
abbrev wYes : WT := fun _ M Q => Q true M
end DL
set_option Elab.async false
set_option linter.all false
set_option maxRecDepth 100000
namespace DL
open PySem L2 PyProof.Rows
/-! ### the draws of a law: the cells of the script, two counters, what is left of a cell; n bounds the draws so far -/
def drawKvs (cs : List Int) (a l u : Int) : List (Key × D) := [(.inr "cells", .lst (cs.map .int)), (.inr "at", .int a), (.inr "left", .int l), (.inr "used", .int u)]
def Draw (n : Nat) : MB → Prop := fun mb => ∃ (cs : List Int) (a l u : Int), mb = .dic (drawKvs cs a l u) ∧ cs ≠ [] ∧ cs.length ≤ 64 ∧ 0 ≤ a ∧ a ≤ n ∧ 0 ≤ l ∧ 0 ≤ u ∧ u ≤ n
theorem lk_cells {cs : List Int} {a l u : Int} : lk (drawKvs cs a l u) (.inr "cells") = some (.lst (cs.map .int)) := rfl
theorem lk_at {cs : List Int} {a l u : Int} : lk (drawKvs cs a l u) (.inr "at") = some (.int a) := by
  have h0 : ¬ ((Sum.inr ("cells" : Str) : Key) = Sum.inr ("at" : Str)) := by decide +kernel
  unfold drawKvs
  simp [lk, h0]
theorem lk_left {cs : List Int} {a l u : Int} : lk (drawKvs cs a l u) (.inr "left") = some (.int l) := by
  have h0 : ¬ ((Sum.inr ("cells" : Str) : Key) = Sum.inr ("left" : Str)) := by decide +kernel
  have h1 : ¬ ((Sum.inr ("at" : Str) : Key) = Sum.inr ("left" : Str)) := by decide +kernel
  unfold drawKvs
  simp [lk, h0, h1]
theorem lk_used {cs : List Int} {a l u : Int} : lk (drawKvs cs a l u) (.inr "used") = some (.int u) := by
  have h0 : ¬ ((Sum.inr ("cells" : Str) : Key) = Sum.inr ("used" : Str)) := by decide +kernel
  have h1 : ¬ ((Sum.inr ("at" : Str) : Key) = Sum.inr ("used" : Str)) := by decide +kernel
  have h2 : ¬ ((Sum.inr ("left" : Str) : Key) = Sum.inr ("used" : Str)) := by decide +kernel
  unfold drawKvs
  simp [lk, h0, h1, h2]
theorem put_at {cs : List Int} {a l u v : Int} : putD (drawKvs cs a l u) (.inr "at") (.int v) = drawKvs cs v l u := by
  have h1 : ¬ ((Sum.inr ("cells" : Str) : Key) = Sum.inr ("at" : Str)) := by decide +kernel
  have h2 : ¬ ((Sum.inr ("left" : Str) : Key) = Sum.inr ("at" : Str)) := by decide +kernel
  have h3 : ¬ ((Sum.inr ("used" : Str) : Key) = Sum.inr ("at" : Str)) := by decide +kernel
  unfold putD drawKvs
  simp [h1, h2, h3]
theorem put_left {cs : List Int} {a l u v : Int} : putD (drawKvs cs a l u) (.inr "left") (.int v) = drawKvs cs a v u := by
  have h1 : ¬ ((Sum.inr ("cells" : Str) : Key) = Sum.inr ("left" : Str)) := by decide +kernel
  have h2 : ¬ ((Sum.inr ("at" : Str) : Key) = Sum.inr ("left" : Str)) := by decide +kernel
  have h3 : ¬ ((Sum.inr ("used" : Str) : Key) = Sum.inr ("left" : Str)) := by decide +kernel
  unfold putD drawKvs
  simp [h1, h2, h3]
theorem put_used {cs : List Int} {a l u v : Int} : putD (drawKvs cs a l u) (.inr "used") (.int v) = drawKvs cs a l v := by
  have h1 : ¬ ((Sum.inr ("cells" : Str) : Key) = Sum.inr ("used" : Str)) := by decide +kernel
  have h2 : ¬ ((Sum.inr ("at" : Str) : Key) = Sum.inr ("used" : Str)) := by decide +kernel
  have h3 : ¬ ((Sum.inr ("left" : Str) : Key) = Sum.inr ("used" : Str)) := by decide +kernel
  unfold putD drawKvs
  simp [h1, h2, h3]
theorem merge_draw {cs : List Int} {a l u : Int} : mergeD [] (drawKvs cs a l u) = drawKvs cs a l u := by
  have h1 : ¬ ((Sum.inr ("cells" : Str) : Key) = Sum.inr ("at" : Str)) := by decide +kernel
  have h2 : ¬ ((Sum.inr ("cells" : Str) : Key) = Sum.inr ("left" : Str)) := by decide +kernel
  have h3 : ¬ ((Sum.inr ("at" : Str) : Key) = Sum.inr ("left" : Str)) := by decide +kernel
  have h4 : ¬ ((Sum.inr ("cells" : Str) : Key) = Sum.inr ("used" : Str)) := by decide +kernel
  have h5 : ¬ ((Sum.inr ("at" : Str) : Key) = Sum.inr ("used" : Str)) := by decide +kernel
  have h6 : ¬ ((Sum.inr ("left" : Str) : Key) = Sum.inr ("used" : Str)) := by decide +kernel
  unfold mergeD drawKvs
  simp [putD, h1, h2, h3, h4, h5, h6]
theorem draw_len {cs : List Int} {a l u : Int} : (drawKvs cs a l u).length < sizeLine := by
  rw [sizeLine_eq]
  exact (by decide : 4 < 16777216)
theorem cmulW {i j : Int} (hi : i.natAbs < 2 ^ 400) (hj : j.natAbs < 2 ^ 400) : CMulW i j := wide_mul hi hj (by decide) (by decide) (by decide)
theorem cdivW {i j : Int} (h : 0 < j) (hj : j < 2 ^ 64) : CDivW i j := wide_div (b := 64) h (by omega) (by decide) (by decide)
theorem small {n : Nat} (h : n ≤ 100000) : n ≤ sizeLine := Nat.le_trans h (by rw [sizeLine_eq]; decide)
theorem atI_some {α : Type} {l : List α} {i : Int} (h0 : 0 ≤ i) (h1 : i < l.length) : ∃ x, atI l i = some x ∧ x ∈ l := by
  have e : ixN l.length i = some i.toNat := by unfold ixN; rw [if_pos h0, if_pos h1]
  refine ⟨l[i.toNat]'(by omega), ?_, List.getElem_mem _⟩
  unfold atI
  rw [e]
  show l[i.toNat]? = _
  rw [List.getElem?_eq_getElem]
theorem ixM_cells {cs : List Int} {a l u : Int} : ixM (.dic (drawKvs cs a l u)) (.str "cells") = some (.lst (cs.map .int)) := lk_cells (a := a) (l := l) (u := u)
theorem ixM_at {cs : List Int} {a l u : Int} : ixM (.dic (drawKvs cs a l u)) (.str "at") = some (.int a) := lk_at (cs := cs) (l := l) (u := u)
theorem ixM_left {cs : List Int} {a l u : Int} : ixM (.dic (drawKvs cs a l u)) (.str "left") = some (.int l) := lk_left (cs := cs) (a := a) (u := u)
theorem ixM_used {cs : List Int} {a l u : Int} : ixM (.dic (drawKvs cs a l u)) (.str "used") = some (.int u) := lk_used (cs := cs) (a := a) (l := l)
theorem setM_at {cs : List Int} {a l u v : Int} : setM (.dic (drawKvs cs a l u)) (.str "at") (.int v) = some (.dic (drawKvs cs v l u)) := by
  show (if (drawKvs cs a l u).length < sizeLine then some (MB.dic (putD (drawKvs cs a l u) (.inr "at") (.int v))) else none) = _
  rw [if_pos draw_len, put_at]
theorem setM_left {cs : List Int} {a l u v : Int} : setM (.dic (drawKvs cs a l u)) (.str "left") (.int v) = some (.dic (drawKvs cs a v u)) := by
  show (if (drawKvs cs a l u).length < sizeLine then some (MB.dic (putD (drawKvs cs a l u) (.inr "left") (.int v))) else none) = _
  rw [if_pos draw_len, put_left]
theorem setM_used {cs : List Int} {a l u v : Int} : setM (.dic (drawKvs cs a l u)) (.str "used") (.int v) = some (.dic (drawKvs cs a l v)) := by
  show (if (drawKvs cs a l u).length < sizeLine then some (MB.dic (putD (drawKvs cs a l u) (.inr "used") (.int v))) else none) = _
  rw [if_pos draw_len, put_used]
end DL
set_option Elab.async false
set_option linter.all false
set_option maxRecDepth 100000
namespace DL
open PySem L2 PyProof.Rows
/-! ### loops over data by a function of the elements; isinstance of built-in types -/
/-! lists of texts, as data -/
theorem lay_map {α : Type} {g : α → PyData} : ∀ {l : List α}, (∀ a ∈ l, (g a).canLay0 = true) → PyData.canLayAll0 (l.map g) = true
  | [], _ => by simp [PyData.canLayAll0]
  | a :: r, h => by
    rw [List.map_cons, PyData.canLayAll0, h a (by simp), lay_map fun b hb => h b (by simp [hb])]
    rfl
theorem depth_map {α : Type} {g : α → PyData} {n : Nat} : ∀ {l : List α}, (∀ a ∈ l, (g a).depth ≤ n) → PyData.depthAll (l.map g) ≤ n
  | [], _ => by simp [PyData.depthAll]
  | a :: r, h => by
    have h1 := h a (by simp)
    have h2 := depth_map (n := n) (l := r) fun b hb => h b (by simp [hb])
    simp only [List.map_cons, PyData.depthAll]
    omega
theorem shaped_of {d : PyData} (h1 : d.canLay0 = true) (h2 : d.depth ≤ 64) : SeqAt.shaped d = true := by
  show (d.canLay0 && decide (d.depth ≤ 64)) = true
  rw [h1, decide_eq_true h2]
  rfl
theorem strOk_mem {z : Str} (h : PyData.strOk z = true) {c : Nat} (hc : c ∈ z.cps.toList) : c < 0x110000 := by
  have h1 : z.cps.all (· < 0x110000) = true := h
  rw [← Array.all_toList] at h1
  have := List.all_eq_true.mp h1 c hc
  simpa using this
/-! texts: what is in them, how long they are -/
end DL
namespace DL
open PySem L2 PyProof.Rows
theorem funD_uniq {K : Frag} {x q x' q' : Str} {p p' : Arguments} {b b' : List Stmt} {s s' : Scope} {d d' : List V} {k k' : List (Str × V)} {f : Addr} {fd fd' : FuncData} (F : FunD K x q p b s d k f fd) (F' : FunD K x' q' p' b' s' d' k' f fd') : fd = fd' := by
  obtain ⟨_, _, _, _, _, _, _, _, _, _, _, h, _⟩ := F.ex
  obtain ⟨_, _, _, _, _, _, _, _, _, _, _, h', _⟩ := F'.ex
  rw [h] at h'
  cases h'
  rfl
end DL
set_option Elab.async false
set_option linter.all false
set_option maxRecDepth 100000
namespace DL
open PySem L2 PyProof.Rows
/-! ### instances of own classes -/
section
variable {K : Frag} {F G H : Hp} {M : Mem}
/-- instances of the class at C have the attribute for themselves -/
class Fld (K : Frag) (C : Addr) (f : Str) : Prop where
  c : Cls K C
  n : NoAttr K C f
theorem denP_lookup : ∀ {fs : List (Str × D)} {xs : List (Str × V)} {f : Str} {d : D}, DenP K F fs xs → fs.lookup f = some d → ∃ v, xs.lookup f = some v ∧ Den K F d v
  | [], _, _, _, _, e => by cases e
  | (k, d0) :: r, [], _, _, ⟨h1, _⟩, _ => by cases h1
  | (k, d0) :: r, (k', v0) :: s, f, d, ⟨h1, h2⟩, e => by
    obtain ⟨x, t, e1, d1, d2⟩ := h2
    have e1 : v0 :: s.map (·.2) = x :: t := e1
    cases e1
    have h1 : k :: r.map (·.1) = k' :: s.map (·.1) := h1
    injection h1 with hk hr
    subst hk
    rw [List.lookup_cons] at e ⊢
    by_cases z : (f == k) = true
    · simp only [z, if_true] at e ⊢
      cases e
      exact ⟨v0, rfl, d1⟩
    · have z : (f == k) = false := by simpa using z
      simp only [z] at e ⊢
      exact denP_lookup ⟨hr, d2⟩ e
theorem denP_none : ∀ {fs : List (Str × D)} {xs : List (Str × V)} {f : Str}, DenP K F fs xs → fs.lookup f = none → xs.lookup f = none
  | [], [], _, _, _ => rfl
  | [], _ :: _, _, ⟨h1, _⟩, _ => by cases h1
  | (k, d0) :: r, [], _, ⟨h1, _⟩, _ => by cases h1
  | (k, d0) :: r, (k', v0) :: s, f, ⟨h1, h2⟩, e => by
    obtain ⟨x, t, e1, d1, d2⟩ := h2
    have e1 : v0 :: s.map (·.2) = x :: t := e1
    cases e1
    have h1 : k :: r.map (·.1) = k' :: s.map (·.1) := h1
    injection h1 with hk hr
    subst hk
    rw [List.lookup_cons] at e ⊢
    by_cases z : (f == k) = true
    · simp only [z] at e
      cases e
    · have z : (f == k) = false := by simpa using z
      simp only [z] at e ⊢
      exact denP_none ⟨hr, d2⟩ e
theorem denP_zip {κ : Type} {ks : List κ} {l : List D} {xs : List V} (hl : ks.length = xs.length) (d : DenL K F l xs) : DenP K F (ks.zip l) (ks.zip xs) := by
  have := d.len
  refine ⟨?_, ?_⟩
  · rw [List.map_fst_zip (by omega), List.map_fst_zip (by omega)]
  · rw [List.map_snd_zip (by omega), List.map_snd_zip (by omega)]
    exact d
theorem denP_eq {κ : Type} {fs : List (κ × D)} {xs : List (κ × V)} (h : DenP K F fs xs) : (fs.map (·.1)).zip (xs.map (·.2)) = xs := by
  rw [h.1]
  exact (List.zip_of_prod rfl rfl).symm
def putFD (f : Str) (v : D) : List (Str × D) → List (Str × D)
  | [] => [(f, v)]
  | (g, x) :: r => if g = f then (g, v) :: r else (g, x) :: putFD f v r
theorem denP_putF {f : Str} {d : D} {v : V} (dv : Den K F d v) : ∀ {fs : List (Str × D)} {xs : List (Str × V)}, DenP K F fs xs → DenP K F (putFD f d fs) (putF f v xs)
  | [], [], _ => ⟨rfl, DenL.one dv⟩
  | [], _ :: _, ⟨h1, _⟩ => by cases h1
  | (k, d0) :: r, [], ⟨h1, _⟩ => by cases h1
  | (k, d0) :: r, (k', v0) :: s, ⟨h1, h2⟩ => by
    obtain ⟨x, t, e1, d1, d2⟩ := h2
    have e1 : v0 :: s.map (·.2) = x :: t := e1
    cases e1
    have h1 : k :: r.map (·.1) = k' :: s.map (·.1) := h1
    injection h1 with hk hr
    subst hk
    unfold putFD putF
    by_cases z : k = f
    · rw [if_pos z, if_pos z]
      exact ⟨congrArg (k :: ·) hr, _, _, rfl, dv, d2⟩
    · rw [if_neg z, if_neg z]
      obtain ⟨p1, p2⟩ := denP_putF dv (fs := r) (xs := s) ⟨hr, d2⟩
      exact ⟨congrArg (k :: ·) p1, _, _, rfl, d1, p2⟩
theorem DenP.ext {κ : Type} {F F' : Hp} (e : Ext F F') {l : List (κ × D)} {xs : List (κ × V)} (h : DenP K F l xs) : DenP K F' l xs := ⟨h.1, h.2.ext e⟩
theorem denP_len {κ : Type} {l : List (κ × D)} {xs : List (κ × V)} (h : DenP K F l xs) : l.length = xs.length := by
  have := congrArg List.length h.1
  simpa using this
/-- an instance of the class at C -/
def IsI (C : Addr) (M : Mem) (x : D) : Prop := match x with
  | .obj C' _ _ => C' = C
  | .ref p => ∃ φ, M p = some φ ∧ ∀ mb, φ mb → ∃ fs, mb = .ins C fs
  | _ => False
/-- .. without an attribute of the name -/
def IsIN (C : Addr) (m : Str) (M : Mem) (x : D) : Prop := match x with
  | .obj C' ks l => C' = C ∧ (ks.zip l).lookup m = none
  | .ref p => ∃ φ, M p = some φ ∧ ∀ mb, φ mb → ∃ fs, mb = .ins C fs ∧ fs.lookup m = none
  | _ => False
theorem isi_den {C : Addr} {x : D} {v : V} (s : Sat K F M G H) (d : Den K F x v) (h : IsI C M x) : ∃ a dx fs, v = .ref a ∧ H a = some (.ins C dx fs) := by
  cases x with
  | obj C' ks l =>
    cases (show C' = C from h)
    obtain ⟨a, dx, xs, rfl, q, _⟩ := d
    exact ⟨a, dx, _, rfl, s.sub _ _ q⟩
  | ref p =>
    obtain ⟨φ, e, h⟩ := h
    cases d
    obtain ⟨mb, ho, m1, m2, m3, _⟩ := s.tell e
    obtain ⟨fs, rfl⟩ := h mb m1
    obtain ⟨dx, xs, rfl, _⟩ := m3
    exact ⟨p, dx, xs, rfl, m2⟩
  | _ => exact h.elim
theorem isin_den {C : Addr} {m : Str} {x : D} {v : V} (s : Sat K F M G H) (d : Den K F x v) (h : IsIN C m M x) : ∃ a dx fs, v = .ref a ∧ H a = some (.ins C dx fs) ∧ fs.lookup m = none := by
  cases x with
  | obj C' ks l =>
    obtain ⟨e, h'⟩ := (show C' = C ∧ _ from h)
    subst e
    obtain ⟨a, dx, xs, rfl, q, hl, dl⟩ := d
    exact ⟨a, dx, _, rfl, s.sub _ _ q, denP_none (denP_zip hl dl) h'⟩
  | ref p =>
    obtain ⟨φ, e, h⟩ := h
    cases d
    obtain ⟨mb, ho, m1, m2, m3, _⟩ := s.tell e
    obtain ⟨fs, rfl, h⟩ := h mb m1
    obtain ⟨dx, xs, rfl, dp⟩ := m3
    exact ⟨p, dx, xs, rfl, m2, denP_none dp h⟩
  | _ => exact h.elim
/-- an instance is never changed from now on -/
theorem Sat.freezeI {p C : Addr} {fs : List (Str × D)} (s : Sat K F M G H) (h : M p = some (· = .ins C fs)) : ∃ F', Ext F F' ∧ Sat K F' (mdel M p) G H ∧ Den K F' (.obj C (fs.map (·.1)) (fs.map (·.2))) (.ref p) := by
  obtain ⟨ho, h1, mb, h2, h3⟩ := s.mem p _ h
  subst h2
  obtain ⟨dx, xs, rfl, h4⟩ := h3
  have fp := s.dis p _ h
  have ex : Ext F (upd F p (.ins C dx xs)) := Ext.new fp
  refine ⟨upd F p (.ins C dx xs), ex, ⟨fun a u e => ?_, fun a φ e => ?_, fun a φ e => ?_, fun a u e => ?_⟩, p, dx, xs.map (·.2), rfl, ?_, ?_, h4.2.ext ex⟩
  · by_cases z : a = p
    · subst z; rw [upd_same] at e; cases e; exact h1
    · rw [upd_ne z] at e; exact s.sub a u e
  · have z : a ≠ p := fun z => by subst z; unfold mdel at e; rw [if_pos rfl] at e; cases e
    rw [mdel_ne z] at e
    rw [upd_ne z]
    exact s.dis a φ e
  · have z : a ≠ p := fun z => by subst z; unfold mdel at e; rw [if_pos rfl] at e; cases e
    rw [mdel_ne z] at e
    obtain ⟨ho, g1, mb, g2, g3⟩ := s.mem a φ e
    exact ⟨ho, g1, mb, g2, g3.ext ex⟩
  · obtain ⟨g1, g2, g3⟩ := s.fr a u e
    have z : a ≠ p := fun z => by subst z; rw [h] at g3; cases g3
    rw [upd_ne z, mdel_ne z]
    exact ⟨g1, g2, g3⟩
  · rw [upd_same, denP_eq h4]
  · have := denP_len h4
    simp [this]
end
section
variable {K : Frag} {E : XS} {Ξ : DX} {F G H : Hp} {M : Mem} {te ta tv to : TE} {we wa wv wo : WE} {tl : TA} {wl : WA} {f : Str}
/-! an attribute -/
def wFld (K : Frag) (we : WE) (f : Str) (δ : DE) (M : Mem) (Q : WK) : Prop := we δ M fun x M1 => match x with
  | .obj C ks l => Fld K C f ∧ ∃ d, (ks.zip l).lookup f = some d ∧ Q d M1
  | .ref p => ∃ φ, M1 p = some φ ∧ ∀ mb, φ mb → ∃ C fs d, mb = .ins C fs ∧ Fld K C f ∧ fs.lookup f = some d ∧ Q d (mset M1 p (· = mb))
  | _ => False
instance lf_fld [a : LfE K E Ξ te we] : LfE K E Ξ (tFld K te f) (wFld K we f) := ⟨fun {δ M Q} h {σ F G H} e s o {R} k =>
  a.run h e s o fun x M1 v F1 H1 h1 x1 s1 d1 => by
    cases x with
    | obj C ks l =>
      obtain ⟨c, d, hl, hq⟩ := h1
      obtain ⟨a, dx, xs, rfl, q, hn, dl⟩ := d1
      obtain ⟨w, hw, dw⟩ := denP_lookup (denP_zip hn dl) hl
      exact ⟨a, C, dx, _, w, rfl, s1.sub _ _ q, c.c, c.n, hw, k _ M1 _ F1 H1 hq x1 s1 dw⟩
    | ref p =>
      obtain ⟨φ, e1, h1⟩ := h1
      cases d1
      obtain ⟨mb, ho, m1, m2, m3, s2⟩ := s1.tell e1
      obtain ⟨C, fs, d, rfl, c, hl, hq⟩ := h1 mb m1
      obtain ⟨dx, xs, rfl, dp⟩ := m3
      obtain ⟨w, hw, dw⟩ := denP_lookup dp hl
      exact ⟨p, C, dx, xs, w, rfl, m2, c.c, c.n, hw, k _ _ _ F1 H1 hq x1 s2 dw⟩
    | _ => exact h1.elim⟩
def wSetF (K : Frag) (wo wv : WE) (f : Str) (D : WEnds) (δ : DE) (M : Mem) : Prop := wv δ M fun y M1 => wo δ M1 fun x M2 => ∃ p φ, x = .ref p ∧ M2 p = some φ ∧ ∀ mb, φ mb → ∃ C fs, mb = .ins C fs ∧ Fld K C f ∧ fs.length < 1000 ∧
  D.nx δ (mset M2 p (· = .ins C (putFD f y fs)))
instance lf_setF [a : LfE K E Ξ to wo] [b : LfE K E Ξ tv wv] : LfS K E Ξ (sFld K to tv f) (wSetF K wo wv f) := ⟨fun {D δ M} h {σ F G H N} e s o k =>
  b.run h e s o fun y M1 v F1 H1 h1 x1 s1 d1 => a.run h1 (e.ext x1) s1 (o.ext x1) fun x M2 u F2 H2 ⟨p, φ, ex, e2, h2⟩ x2 s2 d2 => by
    subst ex
    cases d2
    obtain ⟨mb, ho, m1, m2, m3, s3⟩ := s2.tell e2
    obtain ⟨C, fs, rfl, c, hl, hn⟩ := h2 mb m1
    obtain ⟨dx, xs, rfl, dp⟩ := m3
    refine ⟨p, C, dx, xs, rfl, m2, c.c, c.n, by rw [← denP_len dp]; exact hl, ?_⟩
    have s4 := s3.write (p := p) (o := .ins C dx (putF f v xs)) (ψ := (· = .ins C (putFD f y fs))) mset_same ⟨_, rfl, dx, _, rfl, denP_putF (d1.ext x2) dp⟩
    rw [mset_mset] at s4
    exact k.nx δ _ σ F2 _ hn (x1.trans x2) (e.ext (x1.trans x2)) s4⟩
/-! a property -/
def wProp (C : Addr) (S : DSp) (we : WE) (δ : DE) (M : Mem) (Q : WK) : Prop := we δ M fun x M1 => IsI C M1 x ∧ S [x] M1 Q fun _ _ => False
instance lf_prop {C : Addr} {S : DSp} [a : LfE K E Ξ te we] : LfE K E Ξ (tProp C (toSp K 1 S) [] E0 te) (wProp C S we) := ⟨fun {δ M Q} h {σ F G H} e s o {R} k =>
  a.run h e s o fun x M1 v F1 H1 ⟨h1, h2⟩ x1 s1 d1 => by
    obtain ⟨a, dx, fs, rfl, q⟩ := isi_den s1 d1 h1
    exact ⟨a, dx, fs, rfl, q, call_run (Ξ := fun _ _ => False) (E := E0) rfl h2 s1 (DenL.one d1) EOk1.none fun d M' v F' H' q x2 s2 d2 => k d M' v F' H' q (x1.trans x2) s2 d2⟩⟩
/-! a method -/
def wMeth (C : Addr) (m : Str) (n : Nat) (S : DSp) (Ξ : DX) (we : WE) (wl : WA) (δ : DE) (M : Mem) (Q : WK) : Prop := we δ M fun x M1 => IsIN C m M1 x ∧ wl δ M1 fun xs M2 => (x :: xs).length = n ∧ S (x :: xs) M2 Q (Ξ δ)
instance lf_meth {C : Addr} {m : Str} {n : Nat} {S : DSp} [a : LfE K E Ξ te we] [b : LfA K E Ξ tl wl] : LfE K E Ξ (tMethX C m (toSp K n S) [] E te tl) (wMeth C m n S Ξ we wl) := ⟨fun {δ M Q} h {σ F G H} e s o {R} k =>
  a.run h e s o fun x M1 v F1 H1 ⟨h1, h2⟩ x1 s1 d1 => by
    obtain ⟨a, dx, fs, rfl, q, ln⟩ := isin_den s1 d1 h1
    refine ⟨a, dx, fs, rfl, q, ln, b.run h2 (e.ext x1) s1 (o.ext x1) fun xs M2 vs F2 H2 ⟨h3, h4⟩ x2 s2 d2 => ?_⟩
    rw [List.append_nil]
    exact call_run h3 h4 s2 ⟨_, _, rfl, d1.ext x2, d2⟩ (((o.at e).ext x1).ext x2) fun d M' v F' H' q x3 s3 d3 => k d M' v F' H' q ((x1.trans x2).trans x3) s3 d3⟩
instance lf_meth0 {C : Addr} {m : Str} {n : Nat} {S : DSp} [a : LfE K E Ξ te we] [b : LfA K E Ξ tl wl] : LfE K E Ξ (tMethX C m (toSp K n S) [] (kE E0) te tl) (wMeth C m n S (fun _ _ _ => False) we wl) := ⟨fun {δ M Q} h {σ F G H} e s o {R} k =>
  a.run h e s o fun x M1 v F1 H1 ⟨h1, h2⟩ x1 s1 d1 => by
    obtain ⟨a, dx, fs, rfl, q, ln⟩ := isin_den s1 d1 h1
    refine ⟨a, dx, fs, rfl, q, ln, b.run h2 (e.ext x1) s1 (o.ext x1) fun xs M2 vs F2 H2 ⟨h3, h4⟩ x2 s2 d2 => ?_⟩
    rw [List.append_nil]
    exact call_run h3 h4 s2 ⟨_, _, rfl, d1.ext x2, d2⟩ EOk1.none fun d M' v F' H' q x3 s3 d3 => k d M' v F' H' q ((x1.trans x2).trans x3) s3 d3⟩
/-! a new instance, as it stays (then data), or as a cell -/
theorem make_sat {p dx C : Addr} (s : Sat K F M G H) (hp : H p = none) (hd : H dx = none) (ne : dx ≠ p) : ∃ F', Ext F F' ∧ Sat K F' (mset M p (· = .ins C [])) G (upd (upd H dx (.own p)) p (.ins C dx [])) ∧ M p = none := by
  have s1 := s.new (o := .own p) hd
  refine ⟨_, Ext.new (s.freshF hd), s1.cell (p := p) (φ := (· = .ins C [])) (by rw [upd_ne (Ne.symm ne)]; exact hp) ⟨_, rfl, dx, [], rfl, rfl, rfl⟩, s.freshM hp⟩
def wMake (C : Addr) (n : Nat) (S : DSp) (Ξ : DX) (wl : WA) (δ : DE) (M : Mem) (Q : WK) : Prop := wl δ M fun xs M1 => xs.length + 1 = n ∧ ∀ p, M1 p = none → S (.ref p :: xs) (mset M1 p (· = .ins C [])) (fun d M' => d = .non ∧ ∃ fs, M' p = some (· = .ins C fs) ∧ Q (.obj C (fs.map (·.1)) (fs.map (·.2))) (mdel M' p)) (Ξ δ)
def wMakeC (C : Addr) (n : Nat) (S : DSp) (Ξ : DX) (wl : WA) (δ : DE) (M : Mem) (Q : WK) : Prop := wl δ M fun xs M1 => xs.length + 1 = n ∧ ∀ p, M1 p = none → S (.ref p :: xs) (mset M1 p (· = .ins C [])) (fun d M' => d = .non ∧ Q (.ref p) M') (Ξ δ)
/-- the two are told apart by the reading's name -/
def tMakeC (C : Addr) (sp : Sp) (dvs : List V) (E : XS) (t : TA) : TE := tMakeX C sp dvs E t
theorem make_run {C : Addr} {n : Nat} {S : DSp} {xs : List D} {Q : WK} {vs : List V} {R : VK} {Ξ' : WX} {E' : XK} (s : Sat K F M G H) (d : DenL K F xs vs) (o : EOk1 K F G Ξ' E') (hn : xs.length + 1 = n)
    (h : ∀ p, M p = none → S (.ref p :: xs) (mset M p (· = .ins C [])) (fun d M' => d = .non ∧ ∃ fs, M' p = some (· = .ins C fs) ∧ Q (.obj C (fs.map (·.1)) (fs.map (·.2))) (mdel M' p)) Ξ')
    (k : ∀ d M' v F' H', Q d M' → Ext F F' → Sat K F' M' G H' → Den K F' d v → R v H') : ∀ x dx, H x = none → H dx = none → dx ≠ x → toSp K n S (.ref x :: (vs ++ [])) (upd (upd H dx (.own x)) x (.ins C dx [])) (fun v H2 => v = .non ∧ R (.ref x) H2) E' := by
  intro x dx hx hd ne
  obtain ⟨F', ex, s', mn⟩ := make_sat (C := C) s hx hd ne
  rw [List.append_nil]
  refine call_run (by simpa using hn) (h x mn) s' ⟨_, _, rfl, rfl, d.ext ex⟩ (o.ext ex) fun d2 M' v F2 H2 ⟨e1, fs, e2, q⟩ x2 s2 d2' => ?_
  subst e1
  obtain ⟨F3, x3, s3, d3⟩ := s2.freezeI e2
  exact ⟨d2', k _ _ _ F3 H2 q ((ex.trans x2).trans x3) s3 d3⟩
theorem makeC_run {C : Addr} {n : Nat} {S : DSp} {xs : List D} {Q : WK} {vs : List V} {R : VK} {Ξ' : WX} {E' : XK} (s : Sat K F M G H) (d : DenL K F xs vs) (o : EOk1 K F G Ξ' E') (hn : xs.length + 1 = n)
    (h : ∀ p, M p = none → S (.ref p :: xs) (mset M p (· = .ins C [])) (fun d M' => d = .non ∧ Q (.ref p) M') Ξ')
    (k : ∀ d M' v F' H', Q d M' → Ext F F' → Sat K F' M' G H' → Den K F' d v → R v H') : ∀ x dx, H x = none → H dx = none → dx ≠ x → toSp K n S (.ref x :: (vs ++ [])) (upd (upd H dx (.own x)) x (.ins C dx [])) (fun v H2 => v = .non ∧ R (.ref x) H2) E' := by
  intro x dx hx hd ne
  obtain ⟨F', ex, s', mn⟩ := make_sat (C := C) s hx hd ne
  rw [List.append_nil]
  refine call_run (by simpa using hn) (h x mn) s' ⟨_, _, rfl, rfl, d.ext ex⟩ (o.ext ex) fun d2 M' v F2 H2 ⟨e1, q⟩ x2 s2 d2' => ?_
  subst e1
  exact ⟨d2', k _ _ _ F2 H2 q (ex.trans x2) s2 rfl⟩
instance lf_make {C : Addr} {n : Nat} {S : DSp} [a : LfA K E Ξ tl wl] : LfE K E Ξ (tMakeX C (toSp K n S) [] E tl) (wMake C n S Ξ wl) := ⟨fun {δ M Q} h {σ F G H} e s o {R} k =>
  a.run h e s o fun xs M1 vs F1 H1 ⟨h1, h2⟩ x1 s1 d1 => make_run s1 d1 ((o.at e).ext x1) h1 h2 fun d M' v F' H' q x2 s2 d2 => k d M' v F' H' q (x1.trans x2) s2 d2⟩
instance lf_make0 {C : Addr} {n : Nat} {S : DSp} [a : LfA K E Ξ tl wl] : LfE K E Ξ (tMakeX C (toSp K n S) [] (kE E0) tl) (wMake C n S (fun _ _ _ => False) wl) := ⟨fun {δ M Q} h {σ F G H} e s o {R} k =>
  a.run h e s o fun xs M1 vs F1 H1 ⟨h1, h2⟩ x1 s1 d1 => make_run s1 d1 EOk1.none h1 h2 fun d M' v F' H' q x2 s2 d2 => k d M' v F' H' q (x1.trans x2) s2 d2⟩
instance lf_makeC {C : Addr} {n : Nat} {S : DSp} [a : LfA K E Ξ tl wl] : LfE K E Ξ (tMakeC C (toSp K n S) [] E tl) (wMakeC C n S Ξ wl) := ⟨fun {δ M Q} h {σ F G H} e s o {R} k =>
  a.run h e s o fun xs M1 vs F1 H1 ⟨h1, h2⟩ x1 s1 d1 => makeC_run s1 d1 ((o.at e).ext x1) h1 h2 fun d M' v F' H' q x2 s2 d2 => k d M' v F' H' q (x1.trans x2) s2 d2⟩
instance lf_makeC0 {C : Addr} {n : Nat} {S : DSp} [a : LfA K E Ξ tl wl] : LfE K E Ξ (tMakeC C (toSp K n S) [] (kE E0) tl) (wMakeC C n S (fun _ _ _ => False) wl) := ⟨fun {δ M Q} h {σ F G H} e s o {R} k =>
  a.run h e s o fun xs M1 vs F1 H1 ⟨h1, h2⟩ x1 s1 d1 => makeC_run s1 d1 EOk1.none h1 h2 fun d M' v F' H' q x2 s2 d2 => k d M' v F' H' q (x1.trans x2) s2 d2⟩
/-! a constant of a class, a classmethod -/
class CCon (K : Frag) (C : Addr) (f : Str) (d : outParam D) : Prop where
  ex : ∃ mc v u, ClX.CRead K C mc ∧ ClX.CVal K C mc f v u ∧ ∀ F : Hp, Den K F d v
def wCVal (K : Frag) (we : WE) (f : Str) (δ : DE) (M : Mem) (Q : WK) : Prop := we δ M fun x M1 => ∃ C d, x = .ref C ∧ CCon K C f d ∧ Q d M1
instance lf_cval [a : LfE K E Ξ te we] : LfE K E Ξ (ClX.tCVal K te f) (wCVal K we f) := ⟨fun {δ M Q} h {σ F G H} e s o {R} k =>
  a.run h e s o fun x M1 v F1 H1 ⟨C, d, ex, c, q⟩ x1 s1 d1 => by
    subst ex
    cases d1
    obtain ⟨mc, v, u, c1, c2, c3⟩ := c.ex
    exact ⟨C, mc, v, u, rfl, c1, c2, k d M1 v F1 H1 q x1 s1 (c3 F1)⟩⟩
def wCMeth (C : Addr) (n : Nat) (S : DSp) (Ξ : DX) (we : WE) (wl : WA) (δ : DE) (M : Mem) (Q : WK) : Prop := we δ M fun x M1 => x = .ref C ∧ wl δ M1 fun xs M2 => xs.length + 1 = n ∧ S (.ref C :: xs) M2 Q (Ξ δ)
instance lf_cmeth {C : Addr} {n : Nat} {S : DSp} [a : LfE K E Ξ te we] [b : LfA K E Ξ tl wl] : LfE K E Ξ (tCMethX C (toSp K n S) E te tl) (wCMeth C n S Ξ we wl) := ⟨fun {δ M Q} h {σ F G H} e s o {R} k =>
  a.run h e s o fun x M1 v F1 H1 ⟨ex, h2⟩ x1 s1 d1 => by
    subst ex
    cases d1
    exact ⟨rfl, b.run h2 (e.ext x1) s1 (o.ext x1) fun xs M2 vs F2 H2 ⟨h3, h4⟩ x2 s2 d2 => call_run (by simpa using h3) h4 s2 ⟨_, _, rfl, rfl, d2⟩ (((o.at e).ext x1).ext x2) fun d M' v F' H' q x3 s3 d3 => k d M' v F' H' q ((x1.trans x2).trans x3) s3 d3⟩⟩
instance lf_cmeth0 {C : Addr} {n : Nat} {S : DSp} [a : LfE K E Ξ te we] [b : LfA K E Ξ tl wl] : LfE K E Ξ (tCMethX C (toSp K n S) (kE E0) te tl) (wCMeth C n S (fun _ _ _ => False) we wl) := ⟨fun {δ M Q} h {σ F G H} e s o {R} k =>
  a.run h e s o fun x M1 v F1 H1 ⟨ex, h2⟩ x1 s1 d1 => by
    subst ex
    cases d1
    exact ⟨rfl, b.run h2 (e.ext x1) s1 (o.ext x1) fun xs M2 vs F2 H2 ⟨h3, h4⟩ x2 s2 d2 => call_run (by simpa using h3) h4 s2 ⟨_, _, rfl, rfl, d2⟩ EOk1.none fun d M' v F' H' q x3 s3 d3 => k d M' v F' H' q ((x1.trans x2).trans x3) s3 d3⟩⟩
/-! a statement that is not reached -/
def tFar : TS := fun _ _ _ => False
def wFar (_ : WEnds) (_ : DE) (_ : Mem) : Prop := False
instance lf_far : LfS K E Ξ tFar wFar := ⟨fun {D δ M} h => h.elim⟩
end
/-! ### the own def of a sign of comparison, of str -/
def rOwnC (K : Frag) (C : Addr) (sp : Sp) (E : XK) : R2 := fun x y H Q => ∃ a dx fs t, x = .ref a ∧ H a = some (.ins C dx fs) ∧ TyX K H y t ∧ PySem.W.notFirst K C t = true ∧ sp [x, y] H Q E
end DL
set_option Elab.async false
set_option linter.all false
set_option maxRecDepth 100000
namespace DL
open PySem L2 PyProof.Rows
/-! ### methods of own classes, by name -/
structure Fm1 (P : Program) (w : World) (K : Frag) (mg : Str → Option Value) (base : Heap) (k : Nat) (f : Addr) (m q : Str) (st : Stmt) (ps : List Str) (n : Nat) (S : DSp) : Prop where
  ex : ∃ fd, (∃ dvs, FunD K m q (defArgs st) (defBody st) (defScope st) dvs [] f fd) ∧ Binds K fd ps [] ∧ FnOk P w K mg base (L2.CX P w) k f fd ps (toSp K n S)
section
variable {P : Program} {w : World} {K : Frag} {mg : Str → Option Value} {base : Heap}
theorem Fm1.raw {f : Addr} {x q : Str} {st : Stmt} {ps : List Str} {k n : Nat} {S : DSp} (F : Fm1 P w K mg base k f x q st ps n S) : FnR P w K mg base (L2.CX P w) k f (toSp K n S) := by
  obtain ⟨fd, a, b, c⟩ := F.ex
  exact (c.raw b .nil).imp fun vs H Q E h => by rw [List.append_nil]; exact h
end
section
variable {X : Cx} {K : Frag} {k j n : Nat} {C f p g : Addr} {x m q : Str} {st : Stmt} {ps : List Str} {S : DSp} {E : XS} {pn pos apos : Pos} {e o : Expr} {es : List Expr} {t : TA} {ta : TE} {mc : Value}
/-! signs of comparison, str, with an own def or without -/
def rStrO (C : Addr) (sp : Sp) : List V → Hp → VK → Prop := fun xs H Q => ∃ a dx fs, xs = [V.ref a] ∧ H a = some (.ins C dx fs) ∧ sp [.ref a] H (fun z H' => ∃ t, z = .str t ∧ Q z H') E0
end
section
variable {K : Frag} {E : XS} {Ξ : DX}
def wOwnC (K : Frag) (C : Addr) (S : DSp) (w : WR2) : WR2 := fun x y M Q => (IsI C M x ∧ (∃ t, tyW K y t ∧ PySem.W.notFirst K C t = true) ∧ S [x, y] M Q fun _ _ => False) ∨ w x y M Q
instance lf_ownC {C : Addr} {S : DSp} {r : R2} {w : WR2} [a : LfR K E Ξ r w] : LfR K E Ξ (fun x y H Q => rOwnC K C (toSp K 2 S) E0 x y H Q ∨ r x y H Q) (wOwnC K C S w) := ⟨fun {x y M Q} h {F G H v u} s o dx dy {R} k => by
  rcases h with ⟨h1, ⟨t, h2, h3⟩, h4⟩ | h
  · obtain ⟨b, dx', fs, rfl, q⟩ := isi_den s dx h1
    exact .inl ⟨b, dx', fs, t, rfl, q, tyw_of s dy h2, h3, call_run (Ξ := fun _ _ => False) (E := E0) rfl h4 s ⟨_, _, rfl, dx, DenL.one dy⟩ EOk1.none k⟩
  · exact .inr (a.run h s o dx dy k)⟩
def wStrO (C : Addr) (S : DSp) (w : WC) : WC := fun xs M Q => (∃ x, xs = [x] ∧ IsI C M x ∧ S [x] M (fun d M' => ∃ t, d = .str t ∧ Q d M') fun _ _ => False) ∨ w xs M Q
instance lf_strO {C : Addr} {S : DSp} {r : List V → Hp → VK → Prop} {w : WC} [a : LfC K E Ξ r w] : LfC K E Ξ (fun xs H Q => rStrO C (toSp K 1 S) xs H Q ∨ r xs H Q) (wStrO C S w) := ⟨fun {xs M Q} h {F G H vs} s o d {R} k => by
  rcases h with ⟨x, rfl, h1, h2⟩ | h
  · obtain ⟨v, rfl, dv⟩ := den1 d
    obtain ⟨a, dx, fs, rfl, q⟩ := isi_den s dv h1
    refine .inl ⟨a, dx, fs, rfl, q, call_run (Ξ := fun _ _ => False) (E := E0) rfl h2 s (DenL.one dv) EOk1.none fun d M' v F' H' ⟨t, et, q⟩ x2 s2 d2 => ?_⟩
    subst et
    cases d2
    exact ⟨t, rfl, k _ M' _ F' H' q x2 s2 rfl⟩
  · exact .inr (a.run h s o d k)⟩
end
end DL
set_option Elab.async false
set_option linter.all false
set_option maxRecDepth 100000
namespace DL
open PySem L2 PyProof.Rows
/-! ### != by an own == alone -/
section
open PySem.W
variable {prog : Program} {w : World} {A : Around} {E : Value → Shared → Prop} {s : Shared} {K : Frag} {x C L f : Addr} {h₀ : Heap} {mm : Str → Option Value} {ox : Obj} {od : Option Obj} {b tb : Value}
end
/-- what a class says of !=, besides its == -/
structure NeC (K : Frag) (C : Addr) : Prop where
  ne : PySem.W.findIn K (.ref C) "__ne__" = some (some (.builtin "object.__ne__"))
  ob : PySem.W.mroIn K C (.type "object") = some true
def rOwnN (K : Frag) (C : Addr) (sp : Sp) : R2 := fun x y H Q => ∃ a dx fs t, x = .ref a ∧ H a = some (.ins C dx fs) ∧ TyX K H y t ∧ PySem.W.notFirst K C t = true ∧ sp [x, y] H (fun z H' => ∃ k, z = .bl k ∧ Q (.bl (!k)) H') E0
section
variable {X : Cx} {K : Frag} {k j n : Nat} {C g : Addr} {m q : Str} {st : Stmt} {ps : List Str} {S : DSp} {E : XK}
end
section
variable {K : Frag} {E : XS} {Ξ : DX}
def wOwnN (K : Frag) (C : Addr) (S : DSp) (w : WR2) : WR2 := fun x y M Q => (IsI C M x ∧ (∃ t, tyW K y t ∧ PySem.W.notFirst K C t = true) ∧ S [x, y] M (fun d M' => ∃ k, d = .bl k ∧ Q (.bl (!k)) M') fun _ _ => False) ∨ w x y M Q
instance lf_ownN {C : Addr} {S : DSp} {r : R2} {w : WR2} [a : LfR K E Ξ r w] : LfR K E Ξ (fun x y H Q => rOwnN K C (toSp K 2 S) x y H Q ∨ r x y H Q) (wOwnN K C S w) := ⟨fun {x y M Q} h {F G H v u} s o dx dy {R} k => by
  rcases h with ⟨h1, ⟨t, h2, h3⟩, h4⟩ | h
  · obtain ⟨b, dx', fs, rfl, q⟩ := isi_den s dx h1
    refine .inl ⟨b, dx', fs, t, rfl, q, tyw_of s dy h2, h3, call_run (Ξ := fun _ _ => False) (E := E0) rfl h4 s ⟨_, _, rfl, dx, DenL.one dy⟩ EOk1.none fun d M' v F' H' ⟨c, ed, q⟩ x2 s2 d2 => ?_⟩
    subst ed
    cases d2
    exact ⟨c, rfl, k _ M' _ F' H' q x2 s2 rfl⟩
  · exact .inr (a.run h s o dx dy k)⟩
end
end DL
set_option Elab.async false
set_option linter.all false
set_option maxRecDepth 100000
namespace DL
open PySem PySem.Spec L2 PyProof.Rows
/-! ### the head's facts of own classes -/
/-- no built-in type is below the class -/
def flatTys : List String := ["NoneType", "bool", "int", "str", "tuple", "list", "dict"]
theorem tyS_flat {x : D} {n : String} (h : tyS x = some n) : n ∈ flatTys := by
  cases x <;> first | (cases h; done) | (cases h; simp [flatTys])
/-- isinstance(x, C), x an instance of the class, or data of built-in types -/
structure IsC (K : Frag) (C : Addr) : Prop where
  ins : InsT K C
  no : ∀ t ∈ flatTys, PySem.W.kitOne K (.type t) (.ref C) = some false
theorem IsC.not {K : Frag} {C : Addr} (c : IsC K C) {x : D} {n : String} (h : tyS x = some n) {M : Mem} {Q : WK} (q : Q (.bl false) M) : wIsi K [x, .ref C] M Q :=
  ⟨x, .ref C, .type n, .ref C, false, rfl, by cases x <;> first | (cases h; done) | exact ⟨_, h, rfl⟩, rfl, c.no n (tyS_flat h), q⟩
/-! a def at any place -/
structure DefY where
  adr : Frag → Addr
  name : Str
  qual : Str
  params : Arguments
  body : List Stmt
  scope : Scope
  dvs : Frag → List V := fun _ => []
  kws : Frag → List (Str × V) := fun _ => []
def DefY.told (d : DefY) : He.FnW := some (d.name, d.qual, d.params, .stmts d.body, d.scope, mainGlobals, [], builtinsNs)
def fnAt (K : Frag) (a : Addr) : He.FnW := match K.lookup a with
  | some ⟨_, _, .func g, _⟩ => some (g.name, g.qualname, g.params, g.body, g.scope, g.globals, g.closure, g.builtins)
  | _ => none
def DefY.ok (K : Frag) (d : DefY) : Bool := PySem.W.keepIn K (.ref (d.adr K)) && (match K.lookup (d.adr K) with
  | some ⟨_, _, .func g, _⟩ => PySem.W.codeIn K g.code d.qual && (He.dflB K g.defaults (d.dvs K) && He.kwdB K g.kwdefaults (d.kws K))
  | _ => false)
theorem DefY.fun_ {K : Frag} {d : DefY} (e : fnAt K (d.adr K) = d.told) (c : d.ok K = true) : ∃ fd, FunD K d.name d.qual d.params d.body d.scope (d.dvs K) (d.kws K) (d.adr K) fd := by
  obtain ⟨kp, c2⟩ := He.ba c
  unfold fnAt at e
  cases q : K.lookup (d.adr K) with
  | none => rw [q] at c2; cases c2
  | some o =>
    obtain ⟨oc, od, dt, osl⟩ := o
    rw [q] at c2 e
    cases dt with
    | func g =>
      obtain ⟨a1, a2, a3, a4, a5, a6, a7, a8, a9, a10, a11, a12, a13, a14, a15⟩ := g
      have e2 : (some (a1, a2, a3, a4, a5, a6, a7, a15) : He.FnW) = some (d.name, d.qual, d.params, .stmts d.body, d.scope, mainGlobals, [], builtinsNs) := e
      simp only [Option.some.injEq, Prod.mk.injEq] at e2
      obtain ⟨z1, z2, z3, z4, z5, z6, z7, z8⟩ := e2
      subst z1 z2 z3 z4 z5 z6 z7 z8
      obtain ⟨c4, c5⟩ := He.ba (show (PySem.W.codeIn K a13 d.qual && (He.dflB K a8 (d.dvs K) && He.kwdB K a9 (d.kws K))) = true from c2)
      obtain ⟨c6, c7⟩ := He.ba c5
      exact ⟨_, ⟨oc, od, a8, a9, a10, a11, a12, a13, a14, osl, rfl, q, c4, He.dflB_ok c6, He.kwdB_ok c7⟩, kp⟩
    | _ => cases c2
/-! the Hook -/
abbrev AlY : Type := Bool × List He.FnW
def obsY (fa : List He.Fa) (ex : List (Frag → Bool)) (fn : List DefY) (K : Frag) : AlY := (fa.all (fun f => f.ok K) && (ex.all (fun f => f K) && fn.all fun d => d.ok K), fn.map fun d => fnAt K (d.adr K))
def valY (fn : List DefY) : AlY := (true, fn.map DefY.told)
def SaysY (fa : List He.Fa) (ex : List (Frag → Bool)) (fn : List DefY) (K : Frag) : Prop := obsY fa ex fn K = valY fn
section
variable {fa : List He.Fa} {ex : List (Frag → Bool)} {fn : List DefY} {K : Frag}
theorem SaysY.all (c : SaysY fa ex fn K) : (fa.all fun f => f.ok K) = true ∧ (ex.all fun f => f K) = true ∧ (fn.all fun d => d.ok K) = true := by
  obtain ⟨h1, h⟩ := He.ba (show (fa.all (fun f => f.ok K) && (ex.all (fun f => f K) && fn.all fun d => d.ok K)) = true from congrArg (fun z : AlY => z.1) c)
  obtain ⟨h2, h3⟩ := He.ba h
  exact ⟨h1, h2, h3⟩
theorem SaysY.fact (c : SaysY fa ex fn K) (i : Nat) {f : He.Fa} (h : fa[i]? = some f := by rfl) : f.ok K = true := List.all_eq_true.mp c.all.1 f (List.mem_of_getElem? h)
theorem SaysY.own (c : SaysY fa ex fn K) (i : Nat) {f : Frag → Bool} (h : ex[i]? = some f := by rfl) : f K = true := List.all_eq_true.mp c.all.2.1 f (List.mem_of_getElem? h)
theorem SaysY.def_ (c : SaysY fa ex fn K) (i : Nat) {d : DefY} (h : fn[i]? = some d := by rfl) : ∃ fd, FunD K d.name d.qual d.params d.body d.scope (d.dvs K) (d.kws K) (d.adr K) fd := by
  have e : fn.map (fun d => fnAt K (d.adr K)) = fn.map DefY.told := congrArg (fun z : AlY => z.2) c
  have e2 : (fn.map fun d => fnAt K (d.adr K))[i]? = (fn.map DefY.told)[i]? := by rw [e]
  rw [List.getElem?_map, List.getElem?_map, h] at e2
  exact DefY.fun_ (Option.some.inj e2) (List.all_eq_true.mp c.all.2.2 d (List.mem_of_getElem? h))
end
end DL
set_option Elab.async false
set_option linter.all false
set_option maxRecDepth 100000
namespace DL
open PySem L2 PyProof.Rows
/-! ### tuples of whole numbers compared -/
def lexC (f : Int → Int → Bool) (g : Nat → Nat → Bool) (ns ms : List Int) : Bool := Ob.lexAt (fun j => decide (ns.getD j 0 = ms.getD j 0)) (fun j => f (ns.getD j 0) (ms.getD j 0)) (g ns.length ms.length) 0 (min ns.length ms.length)
def rCT (K : Frag) (f : Int → Int → Bool) (g : Nat → Nat → Bool) : R2 := fun x y H Q => ∃ (a b : Addr) (ns ms : List Int), x = .ref a ∧ y = .ref b ∧ SqT K H a (ns.map V.int) ∧ SqT K H b (ms.map V.int) ∧ Q (.bl (lexC f g ns ms)) H
section
variable {X : Cx} {K : Frag} {j : Nat}
end
section
variable {K : Frag} {E : XS} {Ξ : DX} {F G H : Hp} {M : Mem} {te to : TE} {we wo : WE} {tl : TA} {wl : WA}
def wCT (f : Int → Int → Bool) (g : Nat → Nat → Bool) (w : WR2) : WR2 := fun x y M Q => (∃ ns ms, x = .tup (ns.map .int) ∧ y = .tup (ms.map .int) ∧ Q (.bl (lexC f g ns ms)) M) ∨ w x y M Q
instance lf_cmpT {f : Int → Int → Bool} {g : Nat → Nat → Bool} {r : R2} {w : WR2} [a : LfR K E Ξ r w] : LfR K E Ξ (fun x y H Q => rCT K f g x y H Q ∨ r x y H Q) (wCT f g w) := ⟨fun {x y M Q} h {F G H v u} s o dx dy {R} k => by
  rcases h with ⟨ns, ms, rfl, rfl, h⟩ | h
  · obtain ⟨p, xs, rfl, q, d⟩ := dx
    obtain ⟨p', ys, rfl, q', d'⟩ := dy
    have e1 := DenL.toMap (f := D.int) (g := V.int) (fun _ _ h => h) ns d
    have e2 := DenL.toMap (f := D.int) (g := V.int) (fun _ _ h => h) ms d'
    subst e1 e2
    exact .inl ⟨p, p', ns, ms, rfl, rfl, sqt_ext s.sub q, sqt_ext s.sub q', k _ M _ F H h Ext.refl s rfl⟩
  · exact .inr (a.run h s o dx dy k)⟩
/-! ### lists: append, index, [::-1]; a list as data from now on -/
def wAppend (wo : WE) (wl : WA) (δ : DE) (M : Mem) (Q : WK) : Prop := wo δ M fun x M1 => ∃ p, x = .ref p ∧ (∃ φ, M1 p = some φ ∧ ∀ mb, φ mb → ∃ l, mb = .lst l) ∧ wl δ M1 fun xs M2 => ∃ y φ, xs = [y] ∧ M2 p = some φ ∧ ∀ mb, φ mb → ∃ l, mb = .lst l ∧ l.length < sizeLine ∧ Q .non (mset M2 p (· = .lst (l ++ [y])))
instance lf_append [a : LfE K E Ξ to wo] [b : LfA K E Ξ tl wl] : LfE K E Ξ (tBM K "list" rAppend to tl) (wAppend wo wl) := ⟨fun {δ M Q} h {σ F G H} e s o {R} k =>
  a.run h e s o fun x M1 v F1 H1 ⟨p, ex, ⟨φ, e1, h1⟩, h2⟩ x1 s1 d1 => by
    subst ex
    cases d1
    obtain ⟨mb, ho, m1, m2, m3, _⟩ := s1.tell e1
    obtain ⟨l, rfl⟩ := h1 mb m1
    obtain ⟨vs, rfl, _⟩ := m3
    refine ⟨.inl ⟨rfl, vs, SqL.of m2⟩, b.run h2 (e.ext x1) s1 (o.ext x1) fun xs M2 us F2 H2 ⟨y, ψ, ey, e2, h3⟩ x2 s2 d2 => ?_⟩
    subst ey
    obtain ⟨u, rfl, du⟩ := den1 d2
    obtain ⟨mb', ho', n1, n2, n3, s3⟩ := s2.tell e2
    obtain ⟨l', rfl, hl, hq⟩ := h3 mb' n1
    obtain ⟨ws, rfl, dw⟩ := n3
    have s4 := s3.write (p := p) (o := .lst (ws ++ [u])) (ψ := (· = .lst (l' ++ [y]))) mset_same ⟨_, rfl, _, rfl, dw.append (DenL.one du)⟩
    rw [mset_mset] at s4
    exact ⟨p, ws, u, rfl, rfl, n2, by rw [← dw.len]; exact hl, k _ _ _ F2 _ hq (x1.trans x2) s4 rfl⟩⟩
def wRevL (we : WE) (δ : DE) (M : Mem) (Q : WK) : Prop := we δ M fun x M1 => ∃ l, LstAt M1 x l ∧ Q (.lst l.reverse) M1
instance lf_revL [a : LfE K E Ξ te we] : LfE K E Ξ (tRevL K te) (wRevL we) := ⟨fun {δ M Q} h {σ F G H} e s o {R} k =>
  a.run h e s o fun x M1 v F1 H1 ⟨l, h1, h2⟩ x1 s1 d1 => by
    obtain ⟨p, xs, rfl, q, d⟩ := lst_at s1 d1 h1
    refine ⟨p, xs, rfl, q, fun p' hp => ?_⟩
    have ex := Ext.new (o := .lst xs.reverse) (s1.freshF hp)
    exact k _ M1 _ _ _ h2 (x1.trans ex) (s1.new hp) ⟨p', _, rfl, SqL.of upd_same, (d.reverse).ext ex⟩⟩
/-- the cell's list is data from now on -/
def tFz (t : TE) : TE := t
def wFz (we : WE) (δ : DE) (M : Mem) (Q : WK) : Prop := we δ M fun x M1 => ∃ p l, x = .ref p ∧ M1 p = some (· = .lst l) ∧ Q (.lst l) (mdel M1 p)
instance lf_fz [a : LfE K E Ξ te we] : LfE K E Ξ (tFz te) (wFz we) := ⟨fun {δ M Q} h {σ F G H} e s o {R} k =>
  a.run h e s o fun x M1 v F1 H1 ⟨p, l, ex, h1, h2⟩ x1 s1 d1 => by
    subst ex
    cases d1
    obtain ⟨F2, x2, s2, d2⟩ := s1.freeze h1
    exact k _ _ _ F2 H1 h2 (x1.trans x2) s2 d2⟩
/-! lists of texts and whole numbers: the place of the first equal one -/
def wMl (w : D → List D → Mem → WK → Prop) (wo : WE) (wl : WA) (δ : DE) (M : Mem) (Q : WK) : Prop := wo δ M fun x M1 => (∃ l, LstAt M1 x l) ∧ wl δ M1 fun xs M2 => w x xs M2 Q
/-! ### texts -/
/-! ### the place of a text in a tuple of the text -/
class KTupL (K : Frag) (a : Addr) : Prop where
  at_ : ∃ o, K.lookup a = some o ∧ o.cls = .type "tuple" ∧ o.dict = none
end
end DL
set_option Elab.async false
set_option linter.all false
set_option maxRecDepth 100000
namespace DL
open PySem L2 PyProof.Rows
/-! ### the rules with K told, methods of built-in types -/
section
variable {X : Cx} {K : Frag} {o e e2 : Expr} {es : List Expr} {to te : TE} {t : TA} {pos apos cpos p1 p2 p3 : Pos} {kk j : Nat}
theorem k_rep : OpR X (binaryOp .Mult) rRep := op_rep
end
section
variable {X : Cx} {K : Frag} {o e : Expr} {es : List Expr} {to : TE} {t : TA} {apos cpos : Pos}
end
section
variable {K : Frag} {E : XS} {Ξ : DX} {F G H : Hp} {M : Mem}
def wRep (x y : D) (M : Mem) (Q : WK) : Prop := ∃ p l k, x = .ref p ∧ y = .int k ∧ M p = some (· = .lst l) ∧ -(2 ^ 63) ≤ k ∧ k < 2 ^ 63 ∧ l.length * k.toNat ≤ sizeLine ∧ Q (.lst (List.replicate k.toNat l).flatten) M
theorem denL_rep {l : List D} {xs : List V} (d : DenL K F l xs) : ∀ n : Nat, DenL K F (List.replicate n l).flatten (List.replicate n xs).flatten
  | 0 => rfl
  | n + 1 => by
    rw [List.replicate_succ, List.replicate_succ, List.flatten_cons, List.flatten_cons]
    exact d.append (denL_rep d n)
instance lf_rep : LfR K E Ξ rRep wRep := ⟨fun {x y M Q} ⟨p, l, k, e1, e2, hM, h1, h2, h3, h⟩ {F G H v u} s o dx dy {R} kk => by
  subst e1 e2
  cases dx; cases dy
  obtain ⟨ho, g1, mb, g2, g3⟩ := s.mem p _ hM
  subst g2
  obtain ⟨xs, rfl, d⟩ := g3
  refine ⟨p, k, xs, rfl, rfl, g1, h1, h2, by rw [← d.len]; exact h3, fun q hq => ?_⟩
  have ex := Ext.new (o := .lst (List.replicate k.toNat xs).flatten) (s.freshF hq)
  exact kk _ M _ _ _ h ex (s.new hq) ⟨q, _, rfl, SqL.of upd_same, (denL_rep d _).ext ex⟩⟩
end
/-! a tuple or a list taken apart -/
def gSeq (K : Frag) (n : Nat) (g : TGs) : TG := fun v σ H Q => gTup K n g v σ H Q ∨ gLst K n g v σ H Q
theorem pg_seqK {X : Cx} {K : Frag} {es : List Expr} {kk : Nat} {g : TGs} {pos : Pos} (h : PGs X es g) (hc : X.calm = true := by rfl) (hK : X.K = K := by rfl) (hn : (assignEach es X.env).length = es.length := by rfl) (hst : (assignEach es X.env).findIdx? (·.1) = none := by rfl) : PG X (.Tuple es kk pos) (gSeq K es.length g) := by
  have a := pg_tupK (pos := pos) (kk := kk) h hc hK hn hst
  subst hK
  have b := pg_lst (pos := pos) (k := kk) hc h hn hst
  exact ⟨fun pins s σ H v u Q I r q => q.elim (a.run pins s σ H v u Q I r) (b.run pins s σ H v u Q I r)⟩
def wGSeq (n : Nat) (g : WGs) (x : D) (δ : DE) (M : Mem) (Q : DE → Mem → Prop) : Prop := ∃ xs, (x = .tup xs ∨ LstAt M x xs) ∧ xs.length = n ∧ g xs δ M Q
instance lf_gseq {K : Frag} {E : XS} {Ξ : DX} {n : Nat} {g : TGs} {w : WGs} {sl : List Nat} [a : LfGs K E Ξ g w sl] : LfG K E Ξ (gSeq K n g) (wGSeq n w) sl := ⟨fun {x δ M Q} ⟨xs, h1, h2, h⟩ {σ F G H v} e s o d {R} k => by
  rcases h1 with rfl | h1
  · obtain ⟨p, vs, rfl, q, dl⟩ := d
    exact .inl ⟨p, vs, rfl, sqt_ext s.sub q, by rw [← dl.len]; exact h2, a.run h e s o dl k⟩
  · obtain ⟨p, vs, rfl, q, dl⟩ := lst_at s d h1
    exact .inr ⟨p, vs, rfl, q, by rw [← dl.len]; exact h2, a.run h e s o dl k⟩⟩
end DL
namespace DL
open PySem L2 PyProof.Rows
end DL
namespace DL
theorem ex_pair {α β : Type} {a : α} {b : β} {P : α → β → Prop} : (∃ x y, (a = x ∧ b = y) ∧ P x y) ↔ P a b :=
  ⟨fun ⟨_, _, ⟨h1, h2⟩, h⟩ => by subst h1 h2; exact h, fun h => ⟨a, b, ⟨rfl, rfl⟩, h⟩⟩
end DL
namespace DL
open PySem L2 PyProof.Rows
def wPar3 (i j l : Nat) (wl : WA) (D : WEnds) (δ : DE) (M : Mem) : Prop := wl δ M fun xs M1 => ∃ x y z, xs = [x, y, z] ∧ D.nx (((δ.set i (some x)).set j (some y)).set l (some z)) M1
instance lf_par3 {K : Frag} {E : XS} {Ξ : DX} {tl : TA} {wl : WA} {i j l : Nat} [a : LfA K E Ξ tl wl] : LfS K E Ξ (tPar3 i j l tl) (wPar3 i j l wl) := ⟨fun {D δ M} h {σ F G H N} e s o k =>
  a.run h e s o fun ds M1 vs F1 H1 ⟨x, y, z, e1, h1⟩ x1 s1 d1 => by
    subst e1
    obtain ⟨v, r, rfl, dx, u, r2, rfl, dy, w, r3, rfl, dz, rfl⟩ := d1
    exact ⟨v, u, w, rfl, k.nx _ _ _ F1 H1 h1 x1 ((((e.ext x1).set dx).set dy).set dz) s1⟩⟩
theorem ex_three {α β γ : Type} {a : α} {b : β} {c : γ} {P : α → β → γ → Prop} : (∃ x y z, (a = x ∧ b = y ∧ c = z) ∧ P x y z) ↔ P a b c :=
  ⟨fun ⟨_, _, _, ⟨h1, h2, h3⟩, h⟩ => by subst h1 h2 h3; exact h, fun h => ⟨a, b, c, ⟨rfl, rfl, rfl⟩, h⟩⟩
end DL
namespace DL
end DL
set_option Elab.async false
set_option linter.all false
set_option maxRecDepth 100000
set_option maxHeartbeats 2000000
/-! ### zip walked by one name: the tuple that was given out may be there still or not -/
namespace PySem
section
variable {prog : Program} {w : World} {A : Around} {E : Value → Shared → Prop} {s : Shared}
variable {z TI TO i1 i2 l1 l2 : Addr} {k1 k2 : Nat} {xs ys : Array Value} {g x y a b : Value} {f : Bool}
end
end PySem
set_option Elab.async false
set_option linter.all false
set_option maxRecDepth 100000
set_option maxHeartbeats 2000000
namespace DL
open PySem PySem.Spec PyProof.Rows L2
/-! ### for p in zip(xs, ys), p one name -/
section
variable {X : Cx} {K : Frag}
end
/-! over data -/
section
variable {K : Frag} {E : XS} {Ξ : DX} {tl : TA} {wl : WA}
theorem it_zip {F : Hp} {a b : Addr} {xs ys : List V} {ds es : List D} (q : SqL K F a xs) (q2 : SqL K F b ys) (d : DenL K F ds xs) (d2 : DenL K F es ys) : ItOk K F (Itz K a b) (List.zipWith (fun x y => D.tup [x, y]) ds es) where
  go := fun i F' M G H l e s => by
    rw [List.length_zipWith, d.len, d2.len] at l
    exact ⟨xs, ys, xs[i]'(by omega), ys[i]'(by omega), sql_ext s.sub (sql_ext e q), sql_ext s.sub (sql_ext e q2), List.getElem?_eq_getElem _, List.getElem?_eq_getElem _⟩
  yld := fun i F' M G H H2 x l e s y => by
    obtain ⟨T, u, v, rfl, hT, rfl, h1, h2⟩ := y
    obtain ⟨z1, e1, g1⟩ := d.get' (h1 xs (sql_ext s.sub (sql_ext e q)))
    obtain ⟨z2, e2, g2⟩ := d2.get' (h2 ys (sql_ext s.sub (sql_ext e q2)))
    have ex := Ext.new (o := .tup [u, v]) (s.freshF hT)
    exact ⟨.tup [z1, z2], _, by rw [List.getElem?_zipWith, e1, e2], ex, s.new hT, T, [u, v], rfl, SqT.of upd_same, u, [v], rfl, (g1.ext e).ext ex, v, [], rfl, (g2.ext e).ext ex, rfl⟩
  stop := fun F' M G H e s => by
    refine ⟨xs, ys, sql_ext s.sub (sql_ext e q), sql_ext s.sub (sql_ext e q2), ?_⟩
    rw [List.length_zipWith, d.len, d2.len]
    omega
def wZip (wl : WA) (δ : DE) (M : Mem) (Q : List D → Mem → Prop) : Prop := wl δ M fun xs M1 => ∃ x y ds es, xs = [x, y] ∧ x = .lst ds ∧ y = .lst es ∧ Q (List.zipWith (fun x y => D.tup [x, y]) ds es) M1
instance lf_zip [a : LfA K E Ξ tl wl] : LfI K E Ξ (iZip K tl) (wZip wl) := ⟨fun {δ M Q} h {σ F G H} e s o {R} k =>
  a.run h e s o fun xs M1 vs F1 H1 ⟨x, y, ds, es, e1, e2, e3, h1⟩ x1 s1 d1 => by
    subst e1 e2 e3
    obtain ⟨v, u, rfl, d1, d2⟩ := den2 d1
    obtain ⟨a, xs, rfl, q, dl⟩ := d1
    obtain ⟨b, ys, rfl, q2, dl2⟩ := d2
    exact ⟨a, b, xs, ys, rfl, sql_ext s1.sub q, sql_ext s1.sub q2, k _ M1 _ F1 H1 h1 x1 s1 (it_zip q q2 dl dl2)⟩⟩
/-- i, i + c, .. -/
def stpD (i c : Int) (n : Nat) : List D := (List.range n).map fun (j : Nat) => D.int (i + (j : Int) * c)
theorem it_stp {F : Hp} {i c : Int} {n : Nat} : ItOk K F (Itc i c n) (stpD i c n) where
  go := fun j F' M G H l e s => by
    unfold stpD at l
    rw [List.length_map, List.length_range] at l
    exact l
  yld := fun j F' M G H H2 x l e s y => by
    obtain ⟨e1, y⟩ := y
    subst e1 y
    unfold stpD at l
    rw [List.length_map, List.length_range] at l
    exact ⟨.int (i + (j : Int) * c), F', by unfold stpD; rw [List.getElem?_map, List.getElem?_range l] <;> rfl, Ext.refl, s, rfl⟩
  stop := fun F' M G H e s => by
    unfold stpD
    rw [List.length_map, List.length_range]
    exact Nat.le_refl _
def wRng3 (wl : WA) (δ : DE) (M : Mem) (Q : List D → Mem → Prop) : Prop := wl δ M fun xs M1 => ∃ (i j c : Int) (n : Nat), xs = [.int i, .int j, .int c] ∧ RgC i j c n ∧ Q (stpD i c n) M1
instance lf_rng3 [a : LfA K E Ξ tl wl] : LfI K E Ξ (iRng3 tl) (wRng3 wl) := ⟨fun {δ M Q} h {σ F G H} e s o {R} k =>
  a.run h e s o fun xs M1 vs F1 H1 ⟨i, j, c, n, e1, hr, h1⟩ x1 s1 d1 => by
    subst e1
    obtain ⟨_, _, rfl, rfl, _, _, rfl, rfl, _, _, rfl, rfl, rfl⟩ := d1
    exact ⟨i, j, c, n, rfl, hr, k _ M1 _ F1 H1 h1 x1 s1 it_stp⟩⟩
end
end DL
set_option Elab.async false
set_option linter.all false
set_option maxRecDepth 100000
set_option maxHeartbeats 2000000
/-! ### xs.extend(ys), ys a list or a tuple -/
namespace PySem
end PySem
namespace DL
open PySem L2 PyProof.Rows
def rExtA (K : Frag) : V → List V → Hp → VK → Prop := fun x vs H Q => ∃ l b xs zs, x = .ref l ∧ vs = [.ref b] ∧ H l = some (.lst xs) ∧ (SqL K H b zs ∨ SqT K H b zs) ∧ xs.length + zs.length ≤ sizeLine ∧ Q .non (upd H l (.lst (xs ++ zs)))
section
variable {K : Frag} {E : XS} {Ξ : DX} {F G H : Hp} {M : Mem} {te to : TE} {we wo : WE} {tl : TA} {wl : WA}
def wExtend (wo : WE) (wl : WA) (δ : DE) (M : Mem) (Q : WK) : Prop := wo δ M fun x M1 => ∃ p, x = .ref p ∧ (∃ φ, M1 p = some φ ∧ ∀ mb, φ mb → ∃ l, mb = .lst l) ∧ wl δ M1 fun xs M2 => ∃ y zs φ, xs = [y] ∧ (y = .lst zs ∨ y = .tup zs) ∧ M2 p = some φ ∧ ∀ mb, φ mb → ∃ l, mb = .lst l ∧ l.length + zs.length ≤ sizeLine ∧ Q .non (mset M2 p (· = .lst (l ++ zs)))
instance lf_extend [a : LfE K E Ξ to wo] [b : LfA K E Ξ tl wl] : LfE K E Ξ (tBM K "list" (rExtA K) to tl) (wExtend wo wl) := ⟨fun {δ M Q} h {σ F G H} e s o {R} k =>
  a.run h e s o fun x M1 v F1 H1 ⟨p, ex, ⟨φ, e1, h1⟩, h2⟩ x1 s1 d1 => by
    subst ex
    cases d1
    obtain ⟨mb, ho, m1, m2, m3, _⟩ := s1.tell e1
    obtain ⟨l, rfl⟩ := h1 mb m1
    obtain ⟨vs, rfl, _⟩ := m3
    refine ⟨.inl ⟨rfl, vs, SqL.of m2⟩, b.run h2 (e.ext x1) s1 (o.ext x1) fun xs M2 us F2 H2 ⟨y, zs, ψ, ey, hy, e2, h3⟩ x2 s2 d2 => ?_⟩
    subst ey
    obtain ⟨u, rfl, du⟩ := den1 d2
    obtain ⟨mb', ho', n1, n2, n3, s3⟩ := s2.tell e2
    obtain ⟨l', rfl, hl, hq⟩ := h3 mb' n1
    obtain ⟨ws, rfl, dw⟩ := n3
    have two : ∃ b xs, u = .ref b ∧ (SqL K H2 b xs ∨ SqT K H2 b xs) ∧ DenL K F2 zs xs := by
      rcases hy with rfl | rfl
      · obtain ⟨b, xs, e, q, dl⟩ := du
        exact ⟨b, xs, e, .inl (sql_ext s2.sub q), dl⟩
      · obtain ⟨b, xs, e, q, dl⟩ := du
        exact ⟨b, xs, e, .inr (sqt_ext s2.sub q), dl⟩
    obtain ⟨b, xs, rfl, q, dl⟩ := two
    have s4 := s3.write (p := p) (o := .lst (ws ++ xs)) (ψ := (· = .lst (l' ++ zs))) mset_same ⟨_, rfl, _, rfl, dw.append dl⟩
    rw [mset_mset] at s4
    exact ⟨p, b, ws, xs, rfl, rfl, n2, q, by rw [← dw.len, ← dl.len]; exact hl, k _ _ _ F2 _ hq (x1.trans x2) s4 rfl⟩⟩
end
section
variable {X : Cx} {K : Frag} {o e : Expr} {es : List Expr} {to te : TE} {t : TA} {apos cpos pos : Pos}
/-! s.startswith(t), s.find(t) -/
def rStarts : V → List V → Hp → VK → Prop := fun x xs H Q => ∃ a b, x = .str a ∧ xs = [.str b] ∧ Q (.bl (Txt.startswith a b)) H
def rFind : V → List V → Hp → VK → Prop := fun x xs H Q => ∃ a b, x = .str a ∧ xs = [.str b] ∧ Q (.int (Txt.find a b)) H
end
section
variable {K : Frag} {E : XS} {Ξ : DX}
def wStarts (x : D) (xs : List D) (M : Mem) (Q : WK) : Prop := ∃ a b, x = .str a ∧ xs = [.str b] ∧ Q (.bl (Txt.startswith a b)) M
def wFind (x : D) (xs : List D) (M : Mem) (Q : WK) : Prop := ∃ a b, x = .str a ∧ xs = [.str b] ∧ Q (.int (Txt.find a b)) M
instance lf_starts : LfM K E Ξ rStarts wStarts := ⟨fun {x xs M Q} ⟨a, b, e1, e2, h⟩ {F G H v vs} s o dx d {R} k => by
  subst e1 e2
  obtain ⟨u, rfl, du⟩ := den1 d
  cases dx; cases du
  exact ⟨a, b, rfl, rfl, k _ M _ F H h Ext.refl s rfl⟩⟩
instance lf_find : LfM K E Ξ rFind wFind := ⟨fun {x xs M Q} ⟨a, b, e1, e2, h⟩ {F G H v vs} s o dx d {R} k => by
  subst e1 e2
  obtain ⟨u, rfl, du⟩ := den1 d
  cases dx; cases du
  exact ⟨a, b, rfl, rfl, k _ M _ F H h Ext.refl s rfl⟩⟩
/-! sorted(xs), whole numbers -/
end
/-! ### match x: case '..': .. -/
/-- the cases: a constant's reading, the suite's -/
def tCases (r : R2) (x : V) : List (TE × TS) → TS
  | [] => fun D σ H => D.nx σ H
  | (tv, ts) :: l => fun D σ H => tv σ H fun y H1 => r x y H1 fun z H2 => ∃ k, z = .bl k ∧ if k = true then ts D σ H2 else tCases r x l D σ H2
def tMatch (r : R2) (te : TE) (cs : List (TE × TS)) : TS := fun D σ H => te σ H fun x H1 => tCases r x cs D σ H1
inductive CasesOk (X : Cx) : List MatchCase → List (TE × TS) → Prop
  | nil : CasesOk X [] []
  | cons {v : Expr} {pos : Pos} {body : List Stmt} {rest : List MatchCase} {tv : TE} {ts : TS} {l : List (TE × TS)} (hv : PE X v tv) (hb : PSs X body ts) (hr : CasesOk X rest l) : CasesOk X (⟨.MatchValue v pos, none, body⟩ :: rest) ((tv, ts) :: l)
section
variable {K : Frag} {E : XS} {Ξ : DX}
def wCases (r : WR2) (x : D) : List (WE × WS) → WS
  | [] => fun D δ M => D.nx δ M
  | (wv, ws) :: l => fun D δ M => wv δ M fun y M1 => r x y M1 fun z M2 => ∃ k, z = .bl k ∧ if k = true then ws D δ M2 else wCases r x l D δ M2
def wMatch (r : WR2) (we : WE) (cs : List (WE × WS)) : WS := fun D δ M => we δ M fun x M1 => wCases r x cs D δ M1
class LfCs (K : Frag) (E : XS) (Ξ : DX) (l : List (TE × TS)) (w : outParam (List (WE × WS))) : Prop where
  run : ∀ {r : R2} {wr : WR2}, LfR K E Ξ r wr → ∀ {x : D} {D : WEnds} {δ : DE} {M : Mem}, wCases wr x w D δ M → ∀ {σ : L2.St} {F G H : Hp} {N : Ends} {v : V}, EnvOk K F δ σ → Sat K F M G H → EOk K F G Ξ E → Den K F x v → EndsOk K F G D N → tCases r v l N σ H
instance lfcs_nil : LfCs K E Ξ [] [] := ⟨fun {_ _} _ {_ _ _ _} h {σ F G H N v} e s o d k => k.nx _ _ σ F H h Ext.refl e s⟩
instance lfcs_cons {tv : TE} {wv : WE} {ts : TS} {ws : WS} {l : List (TE × TS)} {w : List (WE × WS)} [a : LfE K E Ξ tv wv] [b : LfS K E Ξ ts ws] [c : LfCs K E Ξ l w] : LfCs K E Ξ ((tv, ts) :: l) ((wv, ws) :: w) := ⟨fun {r wr} lr {x D δ M} h {σ F G H N v} e s o d k =>
  a.run h e s o fun y M1 u F1 H1 h1 x1 s1 d1 => lr.run h1 s1 (o.ext x1) (d.ext x1) d1 fun z M2 t F2 H2 ⟨kk, ez, h2⟩ x2 s2 d2 => by
    subst ez
    refine ⟨kk, d2, ?_⟩
    have x12 := x1.trans x2
    cases kk with
    | true =>
      rw [if_pos rfl] at h2 ⊢
      exact b.run h2 (e.ext x12) s2 (o.ext x12) (k.ext x12)
    | false =>
      rw [if_neg Bool.false_ne_true] at h2 ⊢
      exact c.run lr h2 (e.ext x12) s2 (o.ext x12) (d.ext x12) (k.ext x12)⟩
instance lf_match {te : TE} {we : WE} {r : R2} {wr : WR2} {l : List (TE × TS)} {w : List (WE × WS)} [a : LfE K E Ξ te we] [lr : LfR K E Ξ r wr] [c : LfCs K E Ξ l w] : LfS K E Ξ (tMatch r te l) (wMatch wr we w) := ⟨fun {D δ M} h {σ F G H N} e s o k =>
  a.run h e s o fun x M1 v F1 H1 h1 x1 s1 d1 => c.run lr h1 (e.ext x1) s1 (o.ext x1) d1 (k.ext x1)⟩
end
end DL
set_option Elab.async false
set_option linter.all false
set_option maxRecDepth 100000
set_option maxHeartbeats 2000000
namespace DL
open PySem L2 PyProof.Rows
/-! ### constants of any depth: tuples in tuples -/
mutual
def denB (K : Frag) : D → Value → Bool
  | .non, .none => true
  | .bl b, .bool c => b == c
  | .int i, .int j _ => decide (i = j)
  | .str x, .str y _ => decide (x = y)
  | .tup l, .ref a => (match K.lookup a with
    | some ⟨.type c, _, .seq its _, _⟩ => decide (c = "tuple") && (decide (its.size ≤ sizeLine) && denBL K l its.toList)
    | _ => false)
  | _, _ => false
def denBL (K : Frag) : List D → List Value → Bool
  | [], [] => true
  | d :: l, u :: us => denB K d u && denBL K l us
  | _, _ => false
end
mutual
theorem denB_ok {K : Frag} : ∀ (d : D) (u : Value), denB K d u = true → ∃ v, RelV v u ∧ ∀ F : Hp, Den K F d v
  | .non, u, h => by cases u <;> first | (cases h; done) | exact ⟨.non, rfl, fun _ => rfl⟩
  | .bl b, u, h => by
    cases u <;> first | (cases h; done) | skip
    rename_i c
    have e : b = c := beq_iff_eq.mp h
    subst e
    exact ⟨.bl b, rfl, fun _ => rfl⟩
  | .int i, u, h => by
    cases u <;> first | (cases h; done) | skip
    rename_i j t
    have e : i = j := of_decide_eq_true h
    subst e
    exact ⟨.int i, ⟨t, rfl⟩, fun _ => rfl⟩
  | .str x, u, h => by
    cases u <;> first | (cases h; done) | skip
    rename_i y t
    have e : x = y := of_decide_eq_true h
    subst e
    exact ⟨.str x, ⟨t, rfl⟩, fun _ => rfl⟩
  | .tup l, u, h => by
    cases u <;> first | (cases h; done) | skip
    rename_i a
    have h : (match K.lookup a with
      | some ⟨.type c, _, .seq its _, _⟩ => decide (c = "tuple") && (decide (its.size ≤ sizeLine) && denBL K l its.toList)
      | _ => false) = true := h
    split at h
    · rename_i c od its n sl e
      obtain ⟨h1, h2⟩ := He.ba h
      obtain ⟨h3, h4⟩ := He.ba h2
      obtain ⟨vs, rv, dv⟩ := denBL_ok l its.toList h4
      exact ⟨.ref a, rfl, fun F => ⟨a, vs, rfl, .inr ⟨_, its, n, e, congrArg Value.type (of_decide_eq_true h1), rfl, of_decide_eq_true h3, rv⟩, dv F⟩⟩
    · cases h
  | .ref _, u, h => by cases u <;> cases h
  | .ty _, u, h => by cases u <;> cases h
  | .lst _, u, h => by cases u <;> cases h
  | .dic _ _, u, h => by cases u <;> cases h
  | .obj _ _ _, u, h => by cases u <;> cases h
  | .exn _ _ _, u, h => by cases u <;> cases h
  | .oth _ _, u, h => by cases u <;> cases h
theorem denBL_ok {K : Frag} : ∀ (l : List D) (us : List Value), denBL K l us = true → ∃ vs, Vals vs us ∧ ∀ F : Hp, DenL K F l vs
  | [], [], _ => ⟨[], .nil, fun _ => rfl⟩
  | [], _ :: _, h => by cases h
  | _ :: _, [], h => by cases h
  | d :: l, u :: us, h => by
    obtain ⟨h1, h2⟩ := He.ba (show (denB K d u && denBL K l us) = true from h)
    obtain ⟨v, r, dv⟩ := denB_ok d u h1
    obtain ⟨vs, rs, ds⟩ := denBL_ok l us h2
    exact ⟨v :: vs, .cons r rs, fun F => ⟨v, vs, rfl, dv F, ds F⟩⟩
end
/-! ### defs with defaults -/
section
variable {P : Program} {w : World} {K : Frag} {mg : Str → Option Value} {base : Heap}
/-- a method whose last parameters may be left out -/
structure FmD (P : Program) (w : World) (K : Frag) (mg : Str → Option Value) (base : Heap) (k : Nat) (f : Addr) (ps : List Str) (n : Nat) (dvs : List V) (S : DSp) : Prop where
  ex : ∃ fd ds, Vals dvs ds ∧ Binds K fd ps ds ∧ FnOk P w K mg base (L2.CX P w) k f fd ps (toSp K n S)
end
end DL
set_option Elab.async false
set_option linter.all false
set_option maxRecDepth 100000
namespace DL
/-! ### runs of whole numbers: canonical lists of stretches -/
abbrev Rn := Int × Int
abbrev topI : Int := 3000999999999999
def inRun (x : Int) (p : Rn) : Bool := decide (p.1 ≤ x) && decide (x ≤ p.2)
def hasR (rs : List Rn) (x : Int) : Bool := rs.any (inRun x)
theorem inRun_iff {x : Int} {p : Rn} : inRun x p = true ↔ p.1 ≤ x ∧ x ≤ p.2 := by
  unfold inRun
  rw [Bool.and_eq_true, decide_eq_true_eq, decide_eq_true_eq]
theorem hasR_cons {p : Rn} {rs : List Rn} {x : Int} : hasR (p :: rs) x = (inRun x p || hasR rs x) := rfl
/-- ascending, no two of them touch -/
def Nrm : Int → List Rn → Prop
  | _, [] => True
  | lo, p :: r => lo ≤ p.1 ∧ p.1 ≤ p.2 ∧ Nrm (p.2 + 2) r
theorem Nrm.mono {a b : Int} (h : a ≤ b) : ∀ {rs : List Rn}, Nrm b rs → Nrm a rs
  | [], _ => trivial
  | p :: r, ⟨h1, h2, h3⟩ => ⟨by omega, h2, h3⟩
theorem Nrm.ge : ∀ {rs : List Rn} {lo x : Int}, Nrm lo rs → hasR rs x = true → lo ≤ x
  | [], _, _, _, h => by cases h
  | p :: r, lo, x, ⟨h1, h2, h3⟩, h => by
    rw [hasR_cons, Bool.or_eq_true] at h
    rcases h with h | h
    · have := inRun_iff.mp h
      omega
    · have := Nrm.ge h3 h
      omega
theorem Nrm.low {rs : List Rn} {lo x : Int} (h : Nrm lo rs) (l : x < lo) : hasR rs x = false := by
  cases e : hasR rs x with
  | false => rfl
  | true => have := h.ge e; omega
/-- what begins in it -/
theorem Nrm.begins : ∀ {rs : List Rn} {lo : Int} {p : Rn}, Nrm lo rs → p ∈ rs → lo ≤ p.1 ∧ p.1 ≤ p.2 ∧ hasR rs p.1 = true ∧ hasR rs (p.1 - 1) = false
  | q :: r, lo, p, ⟨h1, h2, h3⟩, h => by
    rcases List.mem_cons.mp h with rfl | h
    · refine ⟨h1, h2, by rw [hasR_cons, inRun_iff.mpr ⟨Int.le_refl _, h2⟩, Bool.true_or], ?_⟩
      rw [hasR_cons, h3.low (by omega), Bool.or_false]
      cases e : inRun (p.1 - 1) p with
      | false => rfl
      | true => have := inRun_iff.mp e; omega
    · obtain ⟨g1, g2, g3, g4⟩ := Nrm.begins h3 h
      refine ⟨by omega, g2, by rw [hasR_cons, g3, Bool.or_true], ?_⟩
      rw [hasR_cons, g4, Bool.or_false]
      cases e : inRun (p.1 - 1) q with
      | false => rfl
      | true => have := inRun_iff.mp e; omega
theorem Nrm.firsts : ∀ {rs : List Rn} {lo : Int}, Nrm lo rs → (rs.map (·.1)).Pairwise (· < ·)
  | [], _, _ => List.Pairwise.nil
  | p :: r, lo, ⟨h1, h2, h3⟩ => by
    refine List.pairwise_cons.mpr ⟨fun x hx => ?_, Nrm.firsts h3⟩
    obtain ⟨q, hq, rfl⟩ := List.mem_map.mp hx
    have := (Nrm.begins h3 hq).1
    show p.1 < q.1
    omega
theorem len_sub : ∀ {l m : List Int}, l.Pairwise (· < ·) → (∀ x ∈ l, x ∈ m) → l.length ≤ m.length
  | [], _, _, _ => Nat.zero_le _
  | a :: l, m, h, s => by
    obtain ⟨h1, h2⟩ := List.pairwise_cons.mp h
    have hm : a ∈ m := s a List.mem_cons_self
    have e := List.length_erase_of_mem hm
    have pos : 0 < m.length := List.length_pos_of_mem hm
    have := len_sub (m := m.erase a) h2 fun x hx => (List.mem_erase_of_ne (by have := h1 x hx; omega)).mpr (s x (List.mem_cons_of_mem _ hx))
    rw [List.length_cons]
    omega
/-- as many runs as beginnings at the most -/
theorem Nrm.count {rs : List Rn} {lo : Int} {m : List Int} (h : Nrm lo rs) (hm : ∀ x, hasR rs x = true → hasR rs (x - 1) = false → x ∈ m) : rs.length ≤ m.length := by
  have := len_sub (m := m) h.firsts fun x hx => by
    obtain ⟨p, hp, rfl⟩ := List.mem_map.mp hx
    obtain ⟨_, _, g3, g4⟩ := h.begins hp
    exact hm _ g3 g4
  rwa [List.length_map] at this
/-! joined -/
/-! what is not in them -/
end DL
set_option Elab.async false
set_option linter.all false
set_option maxRecDepth 100000
namespace DL
open PySem L2 PyProof.Rows
/-! ### a test, an expression, evaluated apart from what comes behind -/
end DL
set_option Elab.async false
set_option linter.all false
set_option maxRecDepth 100000
namespace DL
open PySem L2 PyProof.Rows
/-! ### readings taken step by step from their heads (tactic words "st", "sts" in wip/tac.lean) -/
section
variable {δ : DE} {M : Mem} {Z : WK} {ZL : List D → Mem → Prop} {ZB : Bool → Mem → Prop} {ZE : DE → Mem → Prop} {W : WEnds}
theorem g_var {i : Nat} {d : D} (h : δ[i]? = some (some d)) (k : Z d M) : wVar i δ M Z := ⟨d, h, k⟩
theorem g_c {d : D} (k : Z d M) : wC d δ M Z := k
theorem g_op {r : WR2} {a b : WE} (k : a δ M fun x M1 => b δ M1 fun y M2 => r x y M2 Z) : wOp r a b δ M Z := k
theorem g_un {r : D → Mem → WK → Prop} {a : WE} (k : a δ M fun x M1 => r x M1 Z) : wUn r a δ M Z := k
theorem g_nil (k : ZL [] M) : wNil δ M ZL := k
theorem g_cons {a : WE} {l : WA} (k : a δ M fun x M1 => l δ M1 fun xs M2 => ZL (x :: xs) M2) : wCons a l δ M ZL := k
/-- as many as the model's line takes -/
def szP (n : Nat) (P : Prop) : Prop := n ≤ sizeLine ∧ P
theorem g_sz {n : Nat} {P : Prop} (h : n ≤ 100000) (k : P) : szP n P := ⟨small h, k⟩
theorem g_tup {l : WA} (k : l δ M fun xs M1 => szP xs.length (Z (.tup xs) M1)) : wTup l δ M Z := k
theorem g_lst {l : WA} (k : l δ M fun xs M1 => szP xs.length (Z (.lst xs) M1)) : wLst l δ M Z := k
theorem g_lstC {l : WA} (k : l δ M fun xs M1 => szP xs.length (∀ p, M1 p = none → Z (.ref p) (mset M1 p (· = .lst xs)))) : wLstC l δ M Z := k
def isB (ZB : Bool → Mem → Prop) (x : D) (M : Mem) : Prop := ∃ k, x = .bl k ∧ ZB k M
theorem g_isb {b : Bool} (k : ZB b M) : isB ZB (.bl b) M := ⟨b, rfl, k⟩
theorem g_test {a : WE} (k : a δ M (isB ZB)) : wTest a δ M ZB := k
theorem g_and {t u : WT} (k : t δ M fun b M1 => if b = true then u δ M1 ZB else ZB false M1) : wAnd t u δ M ZB := k
theorem g_or {t u : WT} (k : t δ M fun b M1 => if b = true then ZB true M1 else u δ M1 ZB) : wOr t u δ M ZB := k
theorem g_not {t : WT} (k : t δ M fun b M1 => ZB (!b) M1) : wNot t δ M ZB := k
theorem g_if {t : WT} {a b : WE} (k : t δ M fun c M1 => if c = true then a δ M1 Z else b δ M1 Z) : wIf t a b δ M Z := k
theorem g_ifS {t : WT} {a b : WS} (k : t δ M fun c M1 => if c = true then a W δ M1 else b W δ M1) : wIfS t a b W δ M := k
theorem g_tt {A B : Prop} (k : A) : if true = true then A else B := k
theorem g_ff {A B : Prop} (k : B) : if false = true then A else B := k
theorem g_ntt {A B : Prop} (k : B) : if (!true) = true then A else B := k
theorem g_nff {A B : Prop} (k : A) : if (!false) = true then A else B := k
theorem g_andV {a b : WE} (k : a δ M (isB fun c M1 => if c = true then b δ M1 Z else Z (.bl false) M1)) : wAndV a b δ M Z := k
theorem g_orV {a b : WE} (k : a δ M (isB fun c M1 => if c = true then Z (.bl true) M1 else b δ M1 Z)) : wOrV a b δ M Z := k
theorem g_notV {a : WE} (k : a δ M (isB fun c M1 => Z (.bl (!c)) M1)) : wNotV a δ M Z := k
theorem g_cb {w : WC} {l : WA} (k : l δ M fun xs M1 => w xs M1 Z) : wCB w l δ M Z := k
def strP (w : D → WC) (l : WA) (δ : DE) (Z : WK) (x : D) (M : Mem) : Prop := isStr x = true ∧ l δ M fun xs M2 => w x xs M2 Z
theorem g_bms {w : D → WC} {a : WE} {l : WA} (k : a δ M (strP w l δ Z)) : wBMs w a l δ M Z := k
theorem g_strP {w : D → WC} {l : WA} {z : Str} (k : l δ M fun xs M2 => w (.str z) xs M2 Z) : strP w l δ Z (.str z) M := ⟨rfl, k⟩
/-- a promise is asked -/
def askS (n : Nat) (S : DSp) (Ξ : DL.WX) (Z : WK) (xs : List D) (M : Mem) : Prop := xs.length = n ∧ S xs M Z Ξ
theorem g_ask {n : Nat} {S : DSp} {Ξ : DL.WX} {xs : List D} (h : xs.length = n) (k : S xs M Z Ξ) : askS n S Ξ Z xs M := ⟨h, k⟩
theorem g_call {n : Nat} {S : DSp} {Ξ : DX} {l : WA} (k : l δ M (askS n S (Ξ δ) Z)) : wCall n S [] Ξ l δ M Z := by
  unfold wCall
  have e : (fun xs M1 => (xs ++ []).length = n ∧ S (xs ++ []) M1 Z (Ξ δ)) = askS n S (Ξ δ) Z := by
    funext xs M1
    rw [List.append_nil]
    rfl
  rw [e]
  exact k
theorem g_callN {np nk n : Nat} {S : DSp} {Ξ : DX} {l u : WA} (k : l δ M fun xs M1 => u δ M1 fun ys M2 => xs.length = np ∧ ys.length = nk ∧ askS n S (Ξ δ) Z (xs ++ ys) M2) : wCallN np nk n S Ξ l u δ M Z := k
def propP (C : Addr) (S : DSp) (Z : WK) (x : D) (M : Mem) : Prop := IsI C M x ∧ S [x] M Z fun _ _ => False
theorem g_prop {C : Addr} {S : DSp} {a : WE} (k : a δ M (propP C S Z)) : wProp C S a δ M Z := k
theorem g_propP {C : Addr} {S : DSp} {ks : List Str} {l : List D} (k : S [.obj C ks l] M Z fun _ _ => False) : propP C S Z (.obj C ks l) M := ⟨rfl, k⟩
def methP (C : Addr) (m : Str) (n : Nat) (S : DSp) (Ξ : DX) (l : WA) (δ : DE) (Z : WK) (x : D) (M : Mem) : Prop := IsIN C m M x ∧ l δ M fun xs M2 => (x :: xs).length = n ∧ S (x :: xs) M2 Z (Ξ δ)
theorem g_meth {C : Addr} {m : Str} {n : Nat} {S : DSp} {Ξ : DX} {a : WE} {l : WA} (k : a δ M (methP C m n S Ξ l δ Z)) : wMeth C m n S Ξ a l δ M Z := k
theorem g_make {C : Addr} {n : Nat} {S : DSp} {Ξ : DX} {l : WA} (k : l δ M fun xs M1 => xs.length + 1 = n ∧ ∀ p, M1 p = none → S (.ref p :: xs) (mset M1 p (· = .ins C [])) (fun d M' => d = .non ∧ ∃ fs, M' p = some (· = .ins C fs) ∧ Z (.obj C (fs.map (·.1)) (fs.map (·.2))) (mdel M' p)) (Ξ δ)) : wMake C n S Ξ l δ M Z := k
def fldP (K : Frag) (f : Str) (Z : WK) (x : D) (M : Mem) : Prop := match x with
  | .obj C ks l => Fld K C f ∧ ∃ d, (ks.zip l).lookup f = some d ∧ Z d M
  | .ref p => ∃ φ, M p = some φ ∧ ∀ mb, φ mb → ∃ C fs d, mb = .ins C fs ∧ Fld K C f ∧ fs.lookup f = some d ∧ Z d (mset M p (· = mb))
  | _ => False
theorem g_fld {K : Frag} {a : WE} {f : Str} (k : a δ M (fldP K f Z)) : wFld K a f δ M Z := k
theorem g_fldP {K : Frag} {f : Str} {C : Addr} {ks : List Str} {l : List D} {d : D} [c : Fld K C f] (h : (ks.zip l).lookup f = some d) (k : Z d M) : fldP K f Z (.obj C ks l) M := ⟨c, d, h, k⟩
/-! what is walked -/
def seqP (ZL : List D → Mem → Prop) (x : D) (M : Mem) : Prop := match x with
  | .lst l => ZL l M
  | .tup l => ZL l M
  | .str z => ZL (sgnD z) M
  | .dic ks _ => ZL (ks.map keyD) M
  | _ => False
theorem g_seqI {a : WE} (k : a δ M (seqP ZL)) : wSeqI a δ M ZL := k
theorem g_seqL {l : List D} (k : ZL l M) : seqP ZL (.lst l) M := k
theorem g_seqT {l : List D} (k : ZL l M) : seqP ZL (.tup l) M := k
theorem g_seqS {z : Str} (k : ZL (sgnD z) M) : seqP ZL (.str z) M := k
theorem g_seqD {ks : List Key} {l : List D} (k : ZL (ks.map keyD) M) : seqP ZL (.dic ks l) M := k
theorem g_rng1 {l : WA} (k : l δ M fun xs M1 => ∃ j : Int, xs = [.int j] ∧ -(2 ^ 62) ≤ j ∧ j < 2 ^ 62 ∧ ZL (rngD 0 j.toNat) M1) : wRng1 l δ M ZL := k
theorem g_rng2 {l : WA} (k : l δ M fun xs M1 => ∃ i j : Int, xs = [.int i, .int j] ∧ (-(2 ^ 62) ≤ i ∧ i < 2 ^ 62 ∧ -(2 ^ 62) ≤ j ∧ j < 2 ^ 62) ∧ ZL (rngD i (j - i).toNat) M1) : wRng2 l δ M ZL := k
theorem g_rng3 {l : WA} (k : l δ M fun xs M1 => ∃ (i j c : Int) (n : Nat), xs = [.int i, .int j, .int c] ∧ RgC i j c n ∧ ZL (stpD i c n) M1) : wRng3 l δ M ZL := k
theorem g_zip {l : WA} (k : l δ M fun xs M1 => ∃ x y ds es, xs = [x, y] ∧ x = .lst ds ∧ y = .lst es ∧ ZL (List.zipWith (fun x y => D.tup [x, y]) ds es) M1) : wZip l δ M ZL := k
/-! statements -/
theorem g_seq {a b : WS} (k : a { W with nx := wHold b W } δ M) : wSeq a b W δ M := k
theorem g_hold {a : WS} (k : a W δ M) : wHold a W δ M := k
theorem g_asg {a : WE} {g : WG} (k : a δ M fun x M1 => g x δ M1 W.nx) : wAsg a g W δ M := k
theorem set_z {α : Type} {a x : α} {l : List α} : (a :: l).set 0 x = x :: l := rfl
theorem set_s {α : Type} {a x : α} {l l' : List α} {n : Nat} (h : l.set n x = l') : (a :: l).set (n + 1) x = a :: l' := by rw [← h]; rfl
theorem wp_nil : wipeD δ [] = δ := rfl
theorem wp_cons {v : Nat} {vs : List Nat} {δ1 δ2 : DE} (h : wipeD δ vs = δ1) (h2 : δ1.set v none = δ2) : wipeD δ (v :: vs) = δ2 := by rw [← h2, ← h]; rfl
theorem set_w {i : Nat} {x : Option D} {vs : List Nat} {δ1 δ2 : DE} (h : wipeD δ vs = δ1) (h2 : δ1.set i x = δ2) : (wipeD δ vs).set i x = δ2 := by rw [← h2, ← h]
theorem set_2 {i j : Nat} {x y : Option D} {δ1 δ2 : DE} (h : δ.set i x = δ1) (h2 : δ1.set j y = δ2) : (δ.set i x).set j y = δ2 := by rw [← h2, ← h]
theorem g_nameS {i : Nat} {x : D} {δ' : DE} (h : δ.set i (some x) = δ') (k : ZE δ' M) : wName i x δ M ZE := by rw [← h] at k; exact k
theorem g_drop {a : WE} (k : a δ M fun _ M1 => W.nx δ M1) : wDrop a W δ M := k
theorem g_ret {a : WE} (k : a δ M W.rt) : wRet a W δ M := k
theorem g_retN (k : W.rt .non M) : wRetN W δ M := k
theorem g_next (k : W.nx δ M) : wNext W δ M := k
theorem g_brk (k : W.bk δ M) : wBreak W δ M := k
theorem g_cont (k : W.ct δ M) : wCont W δ M := k
def twoP (i j : Nat) (δ : DE) (ZE : DE → Mem → Prop) (xs : List D) (M : Mem) : Prop := ∃ x y, xs = [x, y] ∧ ZE ((δ.set i (some x)).set j (some y)) M
def threeP (i j l : Nat) (δ : DE) (ZE : DE → Mem → Prop) (xs : List D) (M : Mem) : Prop := ∃ x y z, xs = [x, y, z] ∧ ZE (((δ.set i (some x)).set j (some y)).set l (some z)) M
theorem g_par {i j : Nat} {l : WA} (k : l δ M (twoP i j δ W.nx)) : wPar i j l W δ M := k
theorem g_twoS {i j : Nat} {x y : D} {δ' : DE} (h : (δ.set i (some x)).set j (some y) = δ') (k : ZE δ' M) : twoP i j δ ZE [x, y] M := ⟨x, y, rfl, by rw [← h] at k; exact k⟩
theorem g_par3 {i j n : Nat} {l : WA} (k : l δ M (threeP i j n δ W.nx)) : wPar3 i j n l W δ M := k
theorem g_threeS {i j n : Nat} {x y z : D} {δ' : DE} (h : ((δ.set i (some x)).set j (some y)).set n (some z) = δ') (k : ZE δ' M) : threeP i j n δ ZE [x, y, z] M := ⟨x, y, z, rfl, by rw [← h] at k; exact k⟩
theorem g_gseqT {n : Nat} {g : WGs} {xs : List D} (h : xs.length = n) (k : g xs δ M ZE) : wGSeq n g (.tup xs) δ M ZE := ⟨xs, .inl rfl, h, k⟩
theorem g_gseqL {n : Nat} {g : WGs} {xs : List D} (h : xs.length = n) (k : g xs δ M ZE) : wGSeq n g (.lst xs) δ M ZE := ⟨xs, .inr (.inl rfl), h, k⟩
theorem g_gcons {g : WG} {gs : WGs} {x : D} {r : List D} (k : g x δ M fun δ' M' => gs r δ' M' ZE) : wGCons g gs (x :: r) δ M ZE := ⟨x, r, rfl, k⟩
theorem g_gnil (k : ZE δ M) : wGNil [] δ M ZE := ⟨rfl, k⟩
/-! lists that stand in cells -/
def appP (l : WA) (δ : DE) (Z : WK) (x : D) (M1 : Mem) : Prop := ∃ p, x = .ref p ∧ (∃ φ, M1 p = some φ ∧ ∀ mb, φ mb → ∃ l, mb = .lst l) ∧ l δ M1 fun xs M2 => ∃ y φ, xs = [y] ∧ M2 p = some φ ∧ ∀ mb, φ mb → ∃ l, mb = .lst l ∧ l.length < sizeLine ∧ Z .non (mset M2 p (· = .lst (l ++ [y])))
def appQ (p : Addr) (Z : WK) (xs : List D) (M2 : Mem) : Prop := ∃ y φ, xs = [y] ∧ M2 p = some φ ∧ ∀ mb, φ mb → ∃ l, mb = .lst l ∧ l.length < sizeLine ∧ Z .non (mset M2 p (· = .lst (l ++ [y])))
theorem g_append {a : WE} {l : WA} (k : a δ M (appP l δ Z)) : wAppend a l δ M Z := k
theorem g_appP {p : Addr} {l : WA} {ds : List D} (h : M p = some (· = .lst ds)) (k : l δ M (appQ p Z)) : appP l δ Z (.ref p) M := ⟨p, rfl, ⟨_, h, fun mb e => ⟨ds, e⟩⟩, k⟩
def extP (l : WA) (δ : DE) (Z : WK) (x : D) (M1 : Mem) : Prop := ∃ p, x = .ref p ∧ (∃ φ, M1 p = some φ ∧ ∀ mb, φ mb → ∃ l, mb = .lst l) ∧ l δ M1 fun xs M2 => ∃ y zs φ, xs = [y] ∧ (y = .lst zs ∨ y = .tup zs) ∧ M2 p = some φ ∧ ∀ mb, φ mb → ∃ l, mb = .lst l ∧ l.length + zs.length ≤ sizeLine ∧ Z .non (mset M2 p (· = .lst (l ++ zs)))
def extQ (p : Addr) (Z : WK) (xs : List D) (M2 : Mem) : Prop := ∃ y zs φ, xs = [y] ∧ (y = .lst zs ∨ y = .tup zs) ∧ M2 p = some φ ∧ ∀ mb, φ mb → ∃ l, mb = .lst l ∧ l.length + zs.length ≤ sizeLine ∧ Z .non (mset M2 p (· = .lst (l ++ zs)))
theorem g_extend {a : WE} {l : WA} (k : a δ M (extP l δ Z)) : wExtend a l δ M Z := k
theorem g_extP {p : Addr} {l : WA} {ds : List D} (h : M p = some (· = .lst ds)) (k : l δ M (extQ p Z)) : extP l δ Z (.ref p) M := ⟨p, rfl, ⟨_, h, fun mb e => ⟨ds, e⟩⟩, k⟩
def fzP (Z : WK) (x : D) (M1 : Mem) : Prop := ∃ p l, x = .ref p ∧ M1 p = some (· = .lst l) ∧ Z (.lst l) (mdel M1 p)
theorem g_fz {a : WE} (k : a δ M (fzP Z)) : wFz a δ M Z := k
/-! values -/
theorem g_addi {i j : Int} (k : Z (.int (i + j)) M) : wAdd (.int i) (.int j) M Z := k
theorem g_addl {a b : List D} (h : a.length + b.length ≤ 1000000) (k : Z (.lst (a ++ b)) M) : wAdd (.lst a) (.lst b) M Z := ⟨Nat.le_trans h (by rw [sizeLine_eq]; decide), k⟩
theorem g_ii {C : Int → Int → Prop} {g : Int → Int → D} {i j : Int} (h : C i j) (k : Z (g i j) M) : wII C g (.int i) (.int j) M Z := ⟨h, k⟩
theorem g_ii0 {g : Int → Int → D} {i j : Int} (k : Z (g i j) M) : wII0 g (.int i) (.int j) M Z := k
theorem g_neg {i : Int} (k : Z (.int (-i)) M) : wNeg (.int i) M Z := k
theorem g_cmpi {f : Int → Int → Bool} {g : Str → Str → Bool} {i j : Int} (k : Z (.bl (f i j)) M) : wCmp f g (.int i) (.int j) M Z := k
theorem g_cmps {f : Int → Int → Bool} {g : Str → Str → Bool} {i j : Str} (k : Z (.bl (g i j)) M) : wCmp f g (.str i) (.str j) M Z := k
theorem g_eqF {x y : D} {b : Bool} (h : scalD x y = some b) (k : Z (.bl b) M) : eqW false x y M Z := by
  unfold eqW
  rw [h]
  exact k
theorem g_eqT {x y : D} {b : Bool} (h : scalD x y = some b) (k : Z (.bl (!b)) M) : eqW true x y M Z := by
  unfold eqW
  rw [h]
  exact k
theorem g_isY {x y : D} (h : isNon x = true) (hy : isNon y = true) (k : Z (.bl true) M) : wIsNo false x y M Z := ⟨hy, by rw [h]; exact k⟩
theorem g_isN {x y : D} (h : isNon x = false) (hy : isNon y = true) (k : Z (.bl false) M) : wIsNo false x y M Z := ⟨hy, by rw [h]; exact k⟩
theorem g_isnY {x y : D} (h : isNon x = true) (hy : isNon y = true) (k : Z (.bl false) M) : wIsNo true x y M Z := ⟨hy, by rw [h]; exact k⟩
theorem g_isnN {x y : D} (h : isNon x = false) (hy : isNon y = true) (k : Z (.bl true) M) : wIsNo true x y M Z := ⟨hy, by rw [h]; exact k⟩
theorem g_ixl {l : List D} {i : Int} {d : D} (h : atI l i = some d) (k : Z d M) : wIx (.lst l) (.int i) M Z := ⟨d, h, k⟩
theorem g_ixt {l : List D} {i : Int} {d : D} (h : atI l i = some d) (k : Z d M) : wIx (.tup l) (.int i) M Z := ⟨d, h, k⟩
theorem g_lenl {l : List D} (k : Z (.int (l.length : Int)) M) : wLen [.lst l] M Z := k
theorem g_lent {l : List D} (k : Z (.int (l.length : Int)) M) : wLen [.tup l] M Z := k
theorem g_min {i j : Int} (k : Z (.int (if j < i then j else i)) M) : wMin2 [.int i, .int j] M Z := ⟨i, j, rfl, k⟩
theorem g_max {i j : Int} (k : Z (.int (if j > i then j else i)) M) : wMax2 [.int i, .int j] M Z := ⟨i, j, rfl, k⟩
theorem g_strs {a : Str} (k : Z (.str a) M) : wStr [.str a] M Z := k
theorem g_inti {i : Int} (k : Z (.int i) M) : wInt [.int i] M Z := k
theorem g_listl {l : List D} (k : Z (.lst l) M) : wList [.lst l] M Z := k
theorem g_listt {l : List D} (k : Z (.lst l) M) : wList [.tup l] M Z := k
theorem g_tupl {l : List D} (k : Z (.tup l) M) : wTuple [.lst l] M Z := k
theorem g_tupt {l : List D} (k : Z (.tup l) M) : wTuple [.tup l] M Z := k
theorem g_tupm {p : Addr} {l : List D} (k : Z (.tup l) (mset M p (· = .lst l))) : wTuple [.ref p] (mset M p (· = .lst l)) Z := ⟨l, mset_same, k⟩
def intO (ZO : Option Int → Mem → Prop) (x : D) (M : Mem) : Prop := ∃ i, x = .int i ∧ ZO (some i) M
theorem g_sl {a : WE} {l u : WO} (k : a δ M fun x M1 => l δ M1 fun lo M2 => u δ M2 fun hi M3 => wSlX x lo hi M3 Z) : wSl a l u δ M Z := k
theorem g_nopart {ZO : Option Int → Mem → Prop} (k : ZO none M) : wNoPart δ M ZO := k
theorem g_part {ZO : Option Int → Mem → Prop} {a : WE} (k : a δ M (intO ZO)) : wPart a δ M ZO := k
theorem g_intO {ZO : Option Int → Mem → Prop} {i : Int} (k : ZO (some i) M) : intO ZO (.int i) M := ⟨i, rfl, k⟩
theorem g_sll {l : List D} {lo hi : Option Int} (k : Z (.lst (cutD l lo hi)) M) : wSlX (.lst l) lo hi M Z := k
theorem g_slt {l : List D} {lo hi : Option Int} (k : Z (.tup (cutD l lo hi)) M) : wSlX (.tup l) lo hi M Z := k
def chP (r' : WR2) (y : D) (c : WE) (δ : DE) (Z : WK) (z : D) (M3 : Mem) : Prop := ∃ k, z = .bl k ∧ if k = true then c δ M3 fun u M4 => r' y u M4 Z else Z (.bl false) M3
theorem g_chain {r r' : WR2} {a b c : WE} (k : a δ M fun x M1 => b δ M1 fun y M2 => r x y M2 (chP r' y c δ Z)) : wChain r r' a b c δ M Z := k
theorem g_chP {r' : WR2} {y : D} {c : WE} {b : Bool} (k : if b = true then c δ M fun u M4 => r' y u M4 Z else Z (.bl false) M) : chP r' y c δ Z (.bl b) M := ⟨b, rfl, k⟩
def truP (ZB : Bool → Mem → Prop) (x : D) (M1 : Mem) : Prop := match x with
  | .non => ZB false M1
  | .bl b => ZB b M1
  | .int i => ZB (i != 0) M1
  | .str z => z.length ≤ sizeLine ∧ ZB ((z.length : Int) != 0) M1
  | .lst l => ZB (!l.isEmpty) M1
  | .tup l => ZB (!l.isEmpty) M1
  | .ref p => ∃ l, M1 p = some (· = .lst l) ∧ ZB (!l.isEmpty) M1
  | _ => False
theorem g_truth {a : WE} (k : a δ M (truP ZB)) : wTruth a δ M ZB := by
  unfold wTruth
  have e : (fun (x : D) M1 => match x with
    | .non => ZB false M1
    | .bl b => ZB b M1
    | .int i => ZB (i != 0) M1
    | .str z => z.length ≤ sizeLine ∧ ZB ((z.length : Int) != 0) M1
    | .lst l => ZB (!l.isEmpty) M1
    | .tup l => ZB (!l.isEmpty) M1
    | .ref p => ∃ l, M1 p = some (· = .lst l) ∧ ZB (!l.isEmpty) M1
    | _ => False) = truP ZB := by
    funext x M1
    rfl
  exact k
theorem g_trub {b : Bool} (k : ZB b M) : truP ZB (.bl b) M := k
theorem g_trul {l : List D} (k : ZB (!l.isEmpty) M) : truP ZB (.lst l) M := k
theorem g_trut {l : List D} (k : ZB (!l.isEmpty) M) : truP ZB (.tup l) M := k
theorem g_match {r : WR2} {a : WE} {cs : List (WE × WS)} (k : a δ M fun x M1 => wCases r x cs W δ M1) : wMatch r a cs W δ M := k
theorem g_case {r : WR2} {x : D} {v : WE} {s : WS} {cs : List (WE × WS)} (k : v δ M fun y M1 => r x y M1 (isB fun b M2 => if b = true then s W δ M2 else wCases r x cs W δ M2)) : wCases r x ((v, s) :: cs) W δ M := k
theorem g_caseN {r : WR2} {x : D} (k : W.nx δ M) : wCases r x [] W δ M := k
theorem g_for {wi : WI} {g : WG} {wb : WS} (k : wi δ M fun xs M1 => ∃ I : Nat → DE → Mem → Prop, I 0 δ M1 ∧
  (∀ i x δ M, xs[i]? = some x → I i δ M → g x δ M fun δ2 M2 => wb { W with nx := I (i + 1), ct := I (i + 1), bk := W.nx } δ2 M2) ∧ ∀ δ M, I xs.length δ M → W.nx δ M) : wFor wi g wb W δ M := k
theorem g_while {c : WT} {wb : WS} (k : ∃ I : Nat → DE → Mem → Prop, (∃ m, I m δ M) ∧ ∀ m δ M, I m δ M → c δ M fun b M1 => if b = true then wb { W with nx := fun δ M => ∃ m', m' < m ∧ I m' δ M, ct := fun δ M => ∃ m', m' < m ∧ I m' δ M, bk := W.nx } δ M1 else W.nx δ M1) : wWhile c wb W δ M := k
/-! a comprehension that changes nothing, by a function of the elements -/
def lcP (g : WG) (sl vs : List Nat) (tt : WT) (we : WE) (δ : DE) (Z : WK) (xs : List D) (M1 : Mem) : Prop := sl.all (fun i => vs.contains i) = true ∧ xs.length ≤ sizeLine ∧ ∃ I : Nat → List D → Mem → Prop, I 0 [] M1 ∧
  (∀ i x acc M, xs[i]? = some x → acc.length ≤ i → I i acc M → g x (wipeD δ vs) M fun δ2 M2 => tt δ2 M2 fun b M3 => if b = true then we δ2 M3 fun y M4 => I (i + 1) (acc ++ [y]) M4 else I (i + 1) acc M3) ∧
  ∀ acc M, acc.length ≤ xs.length → I xs.length acc M → Z (.lst acc) M
theorem g_lc {wi : WI} {g : WG} {sl vs : List Nat} {tt : WT} {we : WE} (k : wi δ M (lcP g sl vs tt we δ Z)) : wLc wi g sl tt we vs δ M Z := k
end
end DL
set_option Elab.async false
set_option linter.all false
set_option maxRecDepth 100000
namespace DL
open PySem L2 PyProof.Rows
/-! ### data that == compares by its shape -/
structure Pd (n : Nat) (d : D) (p : PyData) : Prop where
  py : toPy d = some p
  lay : p.canLay0 = true
  dep : p.depth ≤ n
theorem pd_bl {b : Bool} : Pd 0 (.bl b) (.bool b) := ⟨rfl, by simp [PyData.canLay0], by simp [PyData.depth]⟩
theorem pd_list {α : Type} {f : α → D} {g : α → PyData} {n : Nat} {l : List α} (h : ∀ a ∈ l, Pd n (f a) (g a)) : Pd (n + 1) (.lst (l.map f)) (.list (l.map g)) := by
  have e : ∀ l : List α, (∀ a ∈ l, Pd n (f a) (g a)) → toPyL (l.map f) = some (l.map g) := by
    intro l
    induction l with
    | nil => intro _; rfl
    | cons a r ih =>
      intro h
      show (match toPy (f a), toPyL (r.map f) with
        | some x, some xs => some (x :: xs)
        | _, _ => none) = _
      rw [(h a List.mem_cons_self).py, ih fun b hb => h b (List.mem_cons_of_mem _ hb)]
      rfl
  refine ⟨?_, ?_, ?_⟩
  · show (toPyL (l.map f)).map PyData.list = _
    rw [e l h]
    rfl
  · simp only [PyData.canLay0]
    exact lay_map fun a ha => (h a ha).lay
  · have := depth_map fun a ha => (h a ha).dep
    simp only [PyData.depth]
    omega
theorem Pd.shaped {n : Nat} {d : D} {p : PyData} (h : Pd n d p) (hn : n ≤ 60) : SeqAt.shaped p = true := shaped_of h.lay (Nat.le_trans h.dep (by omega))
theorem eqv_maps {α : Type} [DecidableEq α] {g : α → PyData} (h : ∀ a b, PyData.eqv (g a) (g b) = decide (a = b)) : ∀ l m : List α, PyData.eqvAll (l.map g) (m.map g) = decide (l = m)
  | [], [] => by simp [PyData.eqvAll]
  | [], _ :: _ => by simp [PyData.eqvAll]
  | _ :: _, [] => by simp [PyData.eqvAll]
  | a :: l, b :: m => by
    rw [List.map_cons, List.map_cons, PyData.eqvAll, h, eqv_maps h l m]
    simp [List.cons.injEq]
theorem eqv_lst {α : Type} [DecidableEq α] {g : α → PyData} (h : ∀ a b, PyData.eqv (g a) (g b) = decide (a = b)) (l m : List α) : PyData.eqv (.list (l.map g)) (.list (m.map g)) = decide (l = m) := by
  rw [PyData.eqv, eqv_maps h]
section
variable {neg : Bool} {M : Mem} {Q : WK}
theorem eqW_pd {n m : Nat} {x y : D} {p q : PyData} (hx : Pd n x p) (hy : Pd m y q) (hn : n ≤ 60) (hm : m ≤ 60) (hs : scalD x y = none) {b : Bool} (hb : (if neg then !PyData.eqv p q else PyData.eqv p q) = b) (k : Q (.bl b) M) : eqW neg x y M Q := by
  unfold eqW
  rw [hs]
  exact ⟨p, q, toPyE_of hx.py, toPyE_of hy.py, hx.shaped hn, hy.shaped hm, by rw [hb]; exact k⟩
theorem eqW_lsts {α : Type} [DecidableEq α] {f : α → D} {g : α → PyData} {n : Nat} {l m : List α} (hg : ∀ a b, PyData.eqv (g a) (g b) = decide (a = b)) (h : ∀ a, Pd n (f a) (g a)) (hn : n < 60) {b : Bool} (hb : (if neg then !decide (l = m) else decide (l = m)) = b) (k : Q (.bl b) M) : eqW neg (.lst (l.map f)) (.lst (m.map f)) M Q := by
  refine eqW_pd (pd_list fun a _ => h a) (pd_list fun a _ => h a) hn hn rfl (b := b) ?_ k
  rw [eqv_lst hg]
  exact hb
end
/-! a range by twos -/
end DL
set_option Elab.async false
set_option linter.all false
set_option maxRecDepth 100000
namespace DL
open PySem L2 PyProof.Rows
/-! ### lists in cells: put together anew, compared, read -/
section
variable {K : Frag} {E : XS} {Ξ : DX}
end
section
variable {M M' : Mem} {Z : WK} {p q : Addr}
/-- all of M, and a list in a new cell -/
structure Over (M M' : Mem) (p : Addr) (l : List D) : Prop where
  sub : ∀ a ψ, M a = some ψ → M' a = some ψ
  new : M p = none
  at_ : M' p = some (· = .lst l)
theorem Over.start {l : List D} (h : M p = none) : Over M (mset M p (· = .lst l)) p l := ⟨fun a ψ e => by
  have z : a ≠ p := fun z => by subst z; rw [h] at e; cases e
  rw [mset_ne z]
  exact e, h, mset_same⟩
theorem Over.put {l l' : List D} (h : Over M M' p l) : Over M (mset M' p (· = .lst l')) p l' := ⟨fun a ψ e => by
  have z : a ≠ p := fun z => by subst z; rw [h.new] at e; cases e
  rw [mset_ne z]
  exact h.sub a ψ e, h.new, mset_same⟩
theorem Over.next {l l' : List D} (h : Over M M' p l) (hq : M' q = none) : Over M (mset M' q (· = .lst l')) q l' := by
  have nn : ∀ a ψ, M a = some ψ → a ≠ q := fun a ψ e z => by
    subst z
    rw [h.sub a ψ e] at hq
    exact absurd hq (by simp)
  refine ⟨fun a ψ e => by rw [mset_ne (nn a ψ e)]; exact h.sub a ψ e, ?_, mset_same⟩
  match e : M q with
  | none => rfl
  | some φ => exact absurd rfl (nn q φ e)
theorem Over.other {l : List D} {φ : MB → Prop} (h : Over M M' p l) (hq : M' q = none) : Over M (mset M' q φ) p l := by
  have nn : ∀ a ψ, M' a = some ψ → a ≠ q := fun a ψ e z => by
    subst z
    rw [hq] at e
    exact absurd e (by simp)
  exact ⟨fun a ψ e => by rw [mset_ne (nn a ψ (h.sub a ψ e))]; exact h.sub a ψ e, h.new, by rw [mset_ne (nn p _ h.at_)]; exact h.at_⟩
theorem Over.wk {l : List D} (h : Over M M' p l) : Wk M (mdel M' p) := fun a ψ e => by
  have z : a ≠ p := fun z => by subst z; rw [h.new] at e; cases e
  exact ⟨ψ, by rw [mdel_ne z]; exact h.sub a ψ e, fun _ h => h⟩
theorem Over.done {l : List D} {d : D} (h : Over M M' p l) (k : Z d M) : weakK Z d (mdel M' p) := ⟨M, h.wk, k⟩
end
theorem lc_fil {α : Type} {e w : α → D} {l : List α} {δ : DE} {M : Mem} {Z : WK} {g : WG} {sl vs : List Nat} {tt : WT} {we : WE} (p : α → Bool) (w' : α → D) (hw : w' = w) (hs : sl.all (fun i => vs.contains i) = true) (hl : l.length ≤ 1000000)
    (h : ∀ a ∈ l, ∀ (P1 : D → Mem → Prop) (P2 : Mem → Prop), (if p a = true then P1 (w a) M else P2 M) → g (e a) (wipeD δ vs) M fun δ2 M2 => tt δ2 M2 fun b M3 => if b = true then we δ2 M3 P1 else P2 M3) (k : Z (.lst ((l.filter p).map w)) M) : lcP g sl vs tt we δ Z (l.map e) M := by
  refine ⟨hs, Nat.le_trans (by rw [List.length_map]; exact hl) (by rw [sizeLine_eq]; decide : 1000000 ≤ sizeLine), fun i acc M' => M' = M ∧ acc = ((l.take i).filter p).map w, ⟨rfl, by simp⟩, ?_, ?_⟩
  · rintro i x acc _ hx - ⟨rfl, rfl⟩
    rw [List.getElem?_map] at hx
    obtain ⟨a, h1, rfl⟩ := Option.map_eq_some_iff.mp hx
    have hm : a ∈ l := List.mem_of_getElem? h1
    refine h a hm _ _ ?_
    have et : (l.take (i + 1)).filter p = (l.take i).filter p ++ if p a = true then [a] else [] := by
      rw [List.take_add_one, h1, List.filter_append]
      refine congrArg _ ?_
      by_cases e : p a = true
      · simp [e]
      · simp [e]
    by_cases e : p a = true
    · rw [if_pos e]
      rw [if_pos e] at et
      refine ⟨rfl, ?_⟩
      rw [et, List.map_append]
      rfl
    · rw [if_neg e]
      rw [if_neg e, List.append_nil] at et
      refine ⟨rfl, ?_⟩
      rw [et]
  · rintro acc _ - ⟨rfl, rfl⟩
    rw [List.length_map, List.take_length]
    exact k
theorem lc_as {α : Type} {e w : α → D} {l : List α} {δ : DE} {M : Mem} {Z : WK} {g : WG} {sl vs : List Nat} {we : WE} (w' : α → D) (hw : w' = w) (hs : sl.all (fun i => vs.contains i) = true) (hl : l.length ≤ 1000000)
    (h : ∀ a ∈ l, ∀ P1 : D → Mem → Prop, P1 (w a) M → g (e a) (wipeD δ vs) M fun δ2 M2 => we δ2 M2 P1) (k : Z (.lst (l.map w)) M) : lcP g sl vs wYes we δ Z (l.map e) M := by
  refine lc_fil (tt := wYes) (fun _ => true) w rfl hs hl (fun a ha P1 P2 q => h a ha P1 q) ?_
  rw [List.filter_eq_self.mpr fun _ _ => rfl]
  exact k
end DL
set_option Elab.async false
set_option linter.all false
set_option maxRecDepth 100000
set_option maxHeartbeats 2000000
namespace DL
open PySem L2 PyProof.Rows
/-! ### an attribute that a class has not: an AttributeError is made, and forgotten -/
section
open PySem.W
variable {prog : Program} {w : World} {A : Around} {E : Value → Shared → Prop} {s : Shared} {K : Frag} {C : Addr} {name nm : Str} {α : Type}
def shortCls (cd : ClassData) : Bool := decide (cd.name.cps.foldl (fun k c => k + (Str.utf8Of c).length) 0 ≤ 100)
/-- the class at C has no attribute of the name -/
def missIn (K : Frag) (C : Addr) (name : Str) : Bool := readsIn K C (.type "type") && (findIn K (.type "type") name == some none) && (findIn K (.ref C) name == some none) && (findIn K (.type "type") "__getattr__" == some none) && (match clsIn K C with
  | some cd => shortCls cd && decide ((((s!"type object '{cd.name.toString}' has no attribute '" : String) : Str) ++ name ++ "'").length ≤ sizeLine)
  | none => false)
/-! a sign of an own class with an instance of another class on the right, also of one below -/
variable {x f D : Addr} {h₀ : Heap} {L : Addr} {m : Str → Option Value} {ox : Obj} {od : Option Obj} {b : Value}
theorem inst_keeps {h h' : Heap} (I : InstAt h x ox C od) (k : ∀ b ob, h.get? b = some ob → h'.get? b = some ob) : InstAt h' x ox C od where
  at_ := k _ _ I.at_
  cls := I.cls
  no := I.no
  dict := by
    have := I.dict
    split at this <;> first | exact k _ _ this | trivial | exact this.elim
/-- the class at C has a sign by the def at f, and none with the sides exchanged -/
structure SignOf (K : Frag) (C : Addr) (op : Operator) (f : Addr) : Prop where
  self : selfFirst K C = true
  at_ : findIn K (.ref C) (PySem.dunder op.info.2) = some (some (.ref f))
  fn : isFn K (.ref f) = true
  no : findIn K (.ref C) (dunderR op.info.2) = some none
/-! comparisons with an instance of a class below on the right -/
/-! bool(x) by an own __bool__ -/
end
/-! ### the name of a sign with the sides exchanged stands in type itself: two method-wrappers are made and compared -/
section
open PySem.W
variable {prog : Program} {w : World} {A : Around} {E : Value → Shared → Prop} {s : Shared} {K : Frag} {C : Addr} {name nm : Str} {α : Type}
/-- the class at C finds the name in type alone, as a wrapper -/
def wrapIn (K : Frag) (C : Addr) : Bool := readsIn K C (.type "type") && (match findCls K (.ref C) (.type "type") "__ror__" with
  | some (.get (.builtin g) (.builtin i) (.ref C') (.type t)) => decide (g = "wrapper_descriptor.__get__") && decide (i = "type.__ror__") && decide (C' = C) && decide (t = "type")
  | _ => false)
variable {x f D : Addr} {h₀ : Heap} {L : Addr} {m : Str → Option Value} {ox : Obj} {od : Option Obj} {b : Addr} {ob : Obj} {odb : Option Obj}
end
end DL
set_option Elab.async false
set_option linter.all false
set_option maxRecDepth 100000
set_option maxHeartbeats 2000000
namespace DL
open PySem L2 PyProof.Rows
/-! ### several own classes that share their defs (a class and those below it) -/
/-- an instance of one of the classes -/
def IsF (Cs : List Addr) (M : Mem) (x : D) : Prop := ∃ C ∈ Cs, IsI C M x
def IsFN (Cs : List Addr) (m : Str) (M : Mem) (x : D) : Prop := ∃ C ∈ Cs, IsIN C m M x
structure SignF (K : Frag) (Cs : List Addr) (op : Operator) (f : Addr) : Prop where
  at_ : ∀ C ∈ Cs, SignOf K C op f
/-- the right side's class is the left one's, or not below it, or below it without the name of the sign with the sides exchanged (also of type) -/
class PairOk (K : Frag) (op : Operator) (C D : Addr) : Prop where
  ok : C = D ∨ PySem.W.subIn K (.ref D) (.ref C) = some false ∨ (PySem.W.subIn K (.ref D) (.ref C) = some true ∧ missIn K D (dunderR op.info.2) = true) ∨ (op = .BitOr ∧ PySem.W.subIn K (.ref D) (.ref C) = some true ∧ wrapIn K C = true ∧ wrapIn K D = true)
theorem PairOk.same {K : Frag} {op : Operator} {C : Addr} : PairOk K op C C := ⟨.inl rfl⟩
structure MethF (K : Frag) (Cs : List Addr) (m : Str) (f : Addr) : Prop where
  at_ : ∀ C ∈ Cs, Meth K C m f
structure ClsF (K : Frag) (Cs : List Addr) : Prop where
  at_ : ∀ C ∈ Cs, Cls K C
structure PropF (K : Frag) (Cs : List Addr) (x : Str) (p g : Addr) : Prop where
  at_ : ∀ C ∈ Cs, PropOf K C x p g
/-- == asks the right side first where its class is below -/
structure EqUp (K : Frag) (Cs : List Addr) : Prop where
  up : ∀ C ∈ Cs, ∀ D ∈ Cs, C ≠ D → PySem.W.subIn K (.ref D) (.ref C) = some false ∨ PySem.W.subIn K (.ref D) (.ref C) = some true
structure LeUp (K : Frag) (Cs : List Addr) : Prop where
  up : ∀ C ∈ Cs, ∀ D ∈ Cs, C ≠ D → PySem.W.subIn K (.ref D) (.ref C) = some false ∨ (PySem.W.subIn K (.ref D) (.ref C) = some true ∧ PySem.W.findIn K (.ref D) "__ge__" = some (some (.builtin "object.__ge__")) ∧ PySem.W.mroIn K D (.type "object") = some true)
section
variable {X : Cx} {CX : CXT} {Cs : List Addr} {f : Addr} {n : Nat} {sp : Sp}
end

section
variable {X : Cx} {K : Frag} {k j n : Nat} {Cs : List Addr} {f p g : Addr} {x m q : Str} {st : Stmt} {ps : List Str} {S : DSp} {E : XS} {pn pos apos : Pos} {e o : Expr} {es : List Expr} {t : TA} {ta : TE} {C : Addr}
/-! truth by values -/
abbrev TrR := V → Hp → (Bool → Hp → Prop) → Prop
end
section
variable {K : Frag} {E : XS} {Ξ : DX} {F G H : Hp} {M : Mem} {Cs : List Addr} {S : DSp} {te ta : TE} {we wa : WE} {tl : TA} {wl : WA} {m : Str} {n : Nat}
/-! properties, methods -/
/-! truth -/
abbrev WTr := D → Mem → (Bool → Mem → Prop) → Prop
class LfTr (K : Frag) (E : XS) (Ξ : DX) (r : TrR) (w : outParam WTr) : Prop where
  run : ∀ {x : D} {M : Mem} {Q : Bool → Mem → Prop}, w x M Q → ∀ {F G H : Hp} {v : V}, Sat K F M G H → EOk K F G Ξ E → Den K F x v → ∀ {R : Bool → Hp → Prop}, (∀ b M' F' H', Q b M' → Ext F F' → Sat K F' M' G H' → R b H') → r v H R
/-! a new instance, some arguments left out -/
theorem make_runD {C : Addr} {n : Nat} {S : DSp} {xs ys : List D} {Q : WK} {vs us : List V} {R : VK} {Ξ' : WX} {E' : XK} (s : Sat K F M G H) (d : DenL K F xs vs) (dy : DenL K F ys us) (o : EOk1 K F G Ξ' E') (hn : (xs ++ ys).length + 1 = n)
    (h : ∀ p, M p = none → S (.ref p :: (xs ++ ys)) (mset M p (· = .ins C [])) (fun d M' => d = .non ∧ ∃ fs, M' p = some (· = .ins C fs) ∧ Q (.obj C (fs.map (·.1)) (fs.map (·.2))) (mdel M' p)) Ξ')
    (k : ∀ d M' v F' H', Q d M' → Ext F F' → Sat K F' M' G H' → Den K F' d v → R v H') : ∀ x dx, H x = none → H dx = none → dx ≠ x → toSp K n S (.ref x :: (vs ++ us)) (upd (upd H dx (.own x)) x (.ins C dx [])) (fun v H2 => v = .non ∧ R (.ref x) H2) E' := by
  intro x dx hx hd ne
  obtain ⟨F', ex, s', mn⟩ := make_sat (C := C) s hx hd ne
  refine call_run (by simpa using hn) (h x mn) s' ⟨_, _, rfl, rfl, (d.append dy).ext ex⟩ (o.ext ex) fun d2 M' v F2 H2 ⟨e1, fs, e2, q⟩ x2 s2 d2' => ?_
  subst e1
  obtain ⟨F3, x3, s3, d3⟩ := s2.freezeI e2
  exact ⟨d2', k _ _ _ F3 H2 q ((ex.trans x2).trans x3) s3 d3⟩
def tMakeD (C : Addr) (sp : Sp) (dvs : List V) (E : XS) (t : TA) : TE := tMakeX C sp dvs E t
end
section
variable {X : Cx} {K : Frag} {k j n : Nat} {C f : Addr} {x : Str} {ps : List Str} {S : DSp} {E : XS} {pn pos : Pos} {dvs : List V} {e : Expr} {es : List Expr} {t : TA}
end
end DL
set_option Elab.async false
set_option linter.all false
set_option maxRecDepth 100000
set_option maxHeartbeats 2000000
namespace DL
open PySem L2 PyProof.Rows
/-! ### the head's facts of several classes -/
def famA (K : Frag) (xs : List Str) : List Addr := xs.map (He.ga K)
theorem famA_mem {K : Frag} {xs : List Str} {x : Str} (h : x ∈ xs) : He.ga K x ∈ famA K xs := List.mem_map.mpr ⟨x, h, rfl⟩
class KitIs (K : Frag) (C D : Addr) (b : outParam Bool) : Prop where
  is : PySem.W.kitOne K (.ref C) (.ref D) = some b
/-! bool(..) -/
section
variable {K : Frag} {E : XS} {Ξ : DX}
end
/-! steps -/
section
variable {M : Mem} {Z : WK} {ZB : Bool → Mem → Prop} {Cs : List Addr} {S : DSp} {w : WR2} {δ : DE}
theorem isF_obj {C : Addr} {ks : List Str} {l : List D} (h : C ∈ Cs) : IsF Cs M (.obj C ks l) := ⟨C, h, rfl⟩
def propFP (Cs : List Addr) (S : DSp) (Z : WK) (x : D) (M : Mem) : Prop := IsF Cs M x ∧ S [x] M Z fun _ _ => False
theorem g_propFP {C : Addr} {ks : List Str} {l : List D} (h : C ∈ Cs) (k : S [.obj C ks l] M Z fun _ _ => False) : propFP Cs S Z (.obj C ks l) M := ⟨isF_obj h, k⟩
def methFP (Cs : List Addr) (m : Str) (n : Nat) (S : DSp) (Ξ : DX) (l : WA) (δ : DE) (Z : WK) (x : D) (M : Mem) : Prop := IsFN Cs m M x ∧ l δ M fun xs M2 => (x :: xs).length = n ∧ S (x :: xs) M2 Z (Ξ δ)
theorem g_methFP {m : Str} {n : Nat} {Ξ : DX} {l : WA} {C : Addr} {ks : List Str} {vs : List D} (hC : C ∈ Cs) (h : (ks.zip vs).lookup m = none) (k : l δ M fun xs M2 => askS n S (Ξ δ) Z (.obj C ks vs :: xs) M2) : methFP Cs m n S Ξ l δ Z (.obj C ks vs) M := ⟨⟨C, hC, rfl, h⟩, k⟩
end
end DL
set_option Elab.async false
set_option linter.all false
set_option maxRecDepth 100000
set_option maxHeartbeats 2000000
/-! ### zip of a list and a tuple, walked by one name -/
namespace PySem
section
variable {prog : Program} {w : World} {A : Around} {E : Value → Shared → Prop} {s : Shared}
variable {z TI TO i1 i2 l1 l2 : Addr} {k1 k2 : Nat} {xs ys : Array Value} {g x y a b : Value} {f : Bool}
theorem Heap.IsTupleIter.to {h h' : Heap} {a t : Addr} {i : Nat} (x : h.IsTupleIter a t i) (k : ∀ o, h.get? a = some o → h'.get? a = some o) : h'.IsTupleIter a t i := let ⟨o, ho, r⟩ := x; ⟨o, k o ho, r⟩
end
end PySem
namespace DL
open PySem PySem.Spec PyProof.Rows L2
/-! ### for p in zip(xs, ys), p one name -/
section
variable {X : Cx} {K : Frag}
end
section
variable {K : Frag} {E : XS} {Ξ : DX} {tl : TA} {wl : WA}
end
section
variable {δ : DE} {ZL : List D → Mem → Prop} {M : Mem}
def cmethP (C : Addr) (n : Nat) (S : DSp) (Ξ : DX) (l : WA) (δ : DE) (Z : WK) (x : D) (M : Mem) : Prop := x = .ref C ∧ l δ M fun xs M2 => askS n S (Ξ δ) Z (.ref C :: xs) M2
theorem g_cmeth {C : Addr} {n : Nat} {S : DSp} {Ξ : DX} {a : WE} {l : WA} {Z : WK} (k : a δ M (cmethP C n S Ξ l δ Z)) : wCMeth C n S Ξ a l δ M Z := k
theorem g_cmethP {C : Addr} {n : Nat} {S : DSp} {Ξ : DX} {l : WA} {Z : WK} (k : l δ M fun xs M2 => askS n S (Ξ δ) Z (.ref C :: xs) M2) : cmethP C n S Ξ l δ Z (.ref C) M := ⟨rfl, k⟩
end
end DL
set_option Elab.async false
set_option linter.all false
set_option maxRecDepth 100000
set_option maxHeartbeats 2000000
namespace DL
open PySem L2 PyProof.Rows NdefX
/-! ### own exception classes of any depth: super().__init__(..) as the first line of __init__ -/
/-- what the head says of the class at C with __init__ at fI; B the built-in base, i its __init__ -/
structure ExK (K : PySem.W.Frag) (C : Addr) (B i newId : String) (bmB : List Value) : Prop where
  exc : PySem.W.excInitIn K C bmB newId = true
  base : PySem.ExcBaseFacts B newId i bmB
  kxs : PySem.W.KxsFacts B i
  sub : PySem.W.subIn K (.ref C) (.type B) = some true
  sup : PySem.W.ks_superIn K C C "__init__" = some (some (.builtin i))
  opq : PySem.W.nsIn K cStatics "thirdparty.any" = some none
  mro : PySem.W.mroIn K C (.ref C) = some true
section
open PySem.W
variable {CX : CXT} {P : Program} {w : World} {K : Frag} {mg : Str → Option Value} {base : Heap} {N ps fr : List Str} {F : NF} {f : Addr} {A : Around} {outer : List Env} {s0 s : Shared} {H0 H : Hp} {E : XK}
theorem super_init {C cc a : Addr} {B i newId : String} {bmB : List Value} {p0 p1 p2 pos : Pos} {e : Expr} {ta : TA} {σ : L2.St} {R : Hp → Prop} {ar : Arg} {fd : FuncData} {oc ccl cl : Value} {od cdd cld : Option Addr} {osl ccs csl : Array (Option Value)} {vs : Array Value} {file : Str} {tf : Tok}
    (T : ExK K C B i newId bmB) (I : Inv (ncx CX P w K mg base N F f A outer s0 H0 E) [] σ H s) (S : NScope N ps fr F.scope) (hcl : F.cl.lookup ("__class__" : Str) = some cc)
    (lk : K.lookup f = some ⟨oc, od, .func fd, osl⟩) (hp : (fd.params.posonlyargs ++ fd.params.args).head? = some ar) (h0 : N[0]? = some ar.arg) (hpar : F.scope.names.lookup ar.arg = some .local) (hs0 : σ[0]? = some (some (.ref a)))
    (hcode : K.lookup F.c = some ⟨ccl, cdd, .fields vs, ccs⟩) (hvs : vs[2]? = some (.str file tf)) (hfile : ((P.main.file : Str) == file) = true)
    (hcell : K.lookup cc = some ⟨cl, cld, .cell (some (.ref C)), csl⟩) (hks : F.scope.names.lookup ("super" : Str) = some .globalImplicit) (hkc : F.scope.names.lookup ("__class__" : Str) = some .free)
    (htop : (P.main.scope.names.lookup ("super" : Str)).isSome = false) (hms : mg "super" = none)
    (ha : PA (ncx CX P w K mg base N F f A outer s0 H0 E) [e] ta) (he : H a = some (exo a C none)) (q : ta σ H fun vs H1 => vs.length ≤ 1000 ∧ H1 a = some (exo a C none) ∧ R H1)
    {pl : Sem Bool} (hc : eval (.Call (.Attribute (.Call (.Name "super" p0) [] [] p1) "__init__" p2) [e] [] pos) (envF F f s0.heap.objs.size) = (do
      let ov ← attributeBase (.Call (.Name "super" p0) [] [] p1) "__init__" (envF F f s0.heap.objs.size) (eval (.Call (.Name "super" p0) [] [] p1) (envF F f s0.heap.objs.size))
      standAt p2.atName
      let (g, first) ← holding [ov] (getMethod ov "__init__" pl)
      callWith pos g first (backTo pos (starEach [e] (envF F f s0.heap.objs.size))) []))
    (hst : starEach [e] (envF F f s0.heap.objs.size) = (false, eval e (envF F f s0.heap.objs.size)) :: starEach [] (envF F f s0.heap.objs.size) := by rfl) :
    _root_.PySem.wpAt (model P w) (A.deeper (envF F f s0.heap.objs.size)) (.func F.body (envF F f s0.heap.objs.size)) (eval (.Call (.Attribute (.Call (.Name "super" p0) [] [] p1) "__init__" p2) [e] [] pos) (envF F f s0.heap.objs.size))
      (fun _ s' => ∃ H', Inv (ncx CX P w K mg base N F f A outer s0 H0 E) [] σ H' s' ∧ R H') (ncx CX P w K mg base N F f A outer s0 H0 E).xe s := by
  have X := I.kIn
  obtain ⟨t1, hx⟩ := exo_at I.hok he
  obtain ⟨m, hns, hlook⟩ := I.loc
  obtain ⟨u, ru, hl⟩ := hlook 0 ar.arg _ h0 hs0 (.inl hpar)
  obtain rfl : u = Value.ref a := ru
  have hm : m ar.arg = some (.ref a) := by
    rcases hl with ⟨_, h⟩ | ⟨h, _⟩
    · exact h
    · have h : F.scope.names.lookup ar.arg = some .cell ∨ F.scope.names.lookup ar.arg = some .free := h
      rw [hpar] at h
      rcases h with h | h <;> cases h
  refine ks_wpAt_MethodCall ?_ hc
  refine ks_wpAt_super_base (env := envF F f s0.heap.objs.size) hks hkc (by decide) rfl (X _ _ lk) rfl hp rfl (X _ _ hcode) rfl hvs hfile htop ?_
  have hkS : F.scope.kind = .function := S.kind
  obtain ⟨mb, b1, b2⟩ := I.mod.blt
  refine ks_loadName_global (env := envF F f s0.heap.objs.size) hkS hks (Calls.loadGlobal_builtin (env := envF F f s0.heap.objs.size) (I.mod.glob.keeps I.bk) hms (b1.keeps I.bk) ((b2 "super" (by decide)).trans Boot.«super») ⟨rfl, ?_⟩)
  refine wpAny_loadName_free hkS hkc hcl ⟨_, X _ _ hcell, rfl⟩ ?_
  refine wpAny_loadName_local hkS hpar hns hm ?_
  cases hC : clsIn K C with
  | none =>
    have := T.sup
    unfold ks_superIn at this
    rw [hC] at this
    cases this
  | some cd =>
    obtain ⟨oD, hD1, hD2⟩ : ∃ oD, s.heap.get? C = some oD ∧ oD.data = .cls cd := by
      unfold clsIn at hC
      split at hC
      · rename_i c d cd' sl ho
        cases hC
        exact ⟨_, X _ _ ho, rfl⟩
      · cases hC
    have Ia : InstAt s.heap a _ C none := ⟨hx, rfl, rfl, trivial⟩
    obtain ⟨hh, g, d, t, os⟩ := s
    refine ks_wpAny_isType_cls hD1 hD2 ⟨rfl, ?_⟩
    refine ks_wpAny_call_super hD1 hD2 hx rfl (fun c e => by cases e) (looks_mroIn X T.mro) (fun h1 e1 k1 => ?_)
    have I1 := I.kept (t' := t) k1
    have X1 := I1.kIn
    have Ia1 := inst_keeps Ia k1
    refine kxs_getMethod T.kxs e1 (looks_opaque X1 T.opq) (l₀ := cd.mro) ?_ rfl X1 ?_ (Ia1.type.andThen (looks_subIn X1 T.sub)) (ks_ne X1 Ia1 hC) (by decide) ?_
    · exact fun A Q E s k q => wpAny_bind ((looks_clsIn X1 hC) A _ E s k (wpAny_pure q))
    · have := T.sup
      unfold ks_superIn at this
      rw [hC] at this
      exact this
    have kp : ∀ b o, h1.get? b = some o → (h1.push (kxs_mw i a)).get? b = some o := fun b o z => Heap.get?_push_of_some _ z
    have hu : (h1.push (kxs_mw i a)).get? h1.objs.size = some (kxs_mw i a) := Heap.get?_push_at rfl rfl
    have fresh : H h1.objs.size = none := I1.hok.fresh (Nat.le_refl _)
    have lt1 := I1.lt
    have nofs : h1.objs.size ∉ (ncx CX P w K mg base N F f A outer s0 H0 E).fs := I1.nofs (Nat.le_refl _)
    have I2 : Inv (ncx CX P w K mg base N F f A outer s0 H0 E) [(h1.objs.size, kxs_mw i a)] σ H ⟨h1.push (kxs_mw i a), g, d, t + 1, os⟩ :=
      (I1.kept (t' := t + 1) kp).pins_of fun p hp => by
        obtain rfl := List.mem_singleton.mp hp
        exact ⟨hu, fresh, fun z => absurd lt1 (by rw [← z]; exact Nat.lt_irrefl _), nofs, fun v z => by cases z⟩
    have run : wpAny (model P w) (A.deeper (envF F f s0.heap.objs.size)) (spliced (backTo pos (starEach [e] (envF F f s0.heap.objs.size)))) _ (ncx CX P w K mg base N F f A outer s0 H0 E).xe ⟨h1.push (kxs_mw i a), g, d, t + 1, os⟩ := ha.run pos _ _ σ H _ I2 q
    rw [hst] at run ⊢
    refine kxs_callWith (i := i) (x := a) rfl (Calls.evalArgs_plain ?_)
    refine thn run fun us s3 ⟨vs, H1, I3, r1, hl3, e3, rR⟩ => ?_
    have hu3 := (I3.pin (h1.objs.size, kxs_mw i a) (by simp)).1
    refine ⟨hu3, ?_⟩
    obtain ⟨t3, hx3⟩ := exo_at I3.hok e3
    have X3 := I3.kIn
    obtain ⟨nm, N', qn, bs, bm, hdct, sn, sub, ab, col, dd, k0, k1', k2, k3, k5, hCo, hT⟩ := excInit_of X3 T.exc
    have hlen : us.length ≤ sizeLine := by
      rw [← Paired.length r1, sizeLine_eq]
      omega
    obtain ⟨hh3, g3, d3, t4, os3⟩ := s3
    refine wpAny_call (codeAny_of_tree ?_)
    show wpAny _ _ (callAny (.ref h1.objs.size) ⟨us, []⟩) _ _ _
    simp only [callAny]
    refine wpAny_bind (wpAny_load hu3 ?_)
    simp only [kxs_mw, show (Value.type "method-wrapper" == Value.type "method" || Value.type "method-wrapper" == Value.type "builtin_function_or_method" || Value.type "method-wrapper" == Value.type "method-wrapper") = true by decide, if_true]
    refine KFB.if_so (by decide) ?_
    refine wpAny_bind (check_bound_init T.base.toExcCallFacts hCo hx3 rfl ?_)
    refine wpAny_bind (wpAny_pure (wpAny_pure ?_))
    refine ⟨plainId_quiet T.base.init.plain _, codeAny_builtin T.base.initEntry ?_⟩
    refine exc_init_tree (cls := .ref C) (t0 := t3) (dv := none) (c2 := .none) (c3 := .none) (b4 := .bool false) hx3 hlen fun h' k e' t' => ?_
    have J := I3.write (t' := t4) (x := a) (e := a) (o := exo a C none) (by rw [e3]; exact True.intro) (.inl rfl) k ⟨_, e'⟩ (exo_ok e')
    have eu : upd H1 a (exo a C none) = H1 := by
      funext b
      by_cases hb : b = a
      · rw [hb, upd_same, e3]
      · rw [upd_ne hb]
    rw [eu] at J
    exact ⟨H1, Inv.unpinned (pins := []) (pl := [(h1.objs.size, kxs_mw i a)]) J, rR⟩
end
/-- a field may be stored into instances of the class at C -/
structure ExS (K : PySem.W.Frag) (C : Addr) (B : String) (bmB : List Value) : Prop where
  over : PySem.W.excOver K C bmB = true
  sf : PySem.StoreFacts B bmB "object.__setattr__" "object"
  dict : PySem.W.hasDictIn K C = true
  sa : PySem.W.findIn K (.ref C) "__setattr__" = some (some (.builtin "object.__setattr__"))
section
open PySem.W Builtin Builtin.ObjectAttr
variable {prog : Program} {w : World} {A : Around} {R : Result → Shared → Prop} {hp : Heap} {g : Array GenState} {d : Drawn} {t : Nat} {os : OsState}
theorem exc_store1 {K : Frag} {name : Str} {tk : Tok} {v : Value} {x C : Addr} {fv : Array Value} {B : String} {bmB : List Value} (T : ExS K C B bmB) (X : K.In hp) (hx : hp.get? x = some { cls := .ref C, data := .fields fv }) (ht : takerIn K C name = some none)
    (hq : ∀ h' tk' dx, (∀ b o, b ≠ x → hp.get? b = some o → h'.get? b = some o) → hp.objs.size ≤ dx → dx ≠ x → h'.get? x = some { cls := .ref C, dict := some dx, data := .fields fv } →
      h'.Ns1 dx (fun y => if y = name then some v else none) → R (.ok (.ret .none)) ⟨h', g, d, tk', os⟩) :
    codeAny (model prog w) A (.call (.builtin "object.__setattr__") ⟨[.ref x, .str name tk, v], []⟩) R ⟨hp, g, d, t, os⟩ := by
  obtain ⟨cd, hcd, hd⟩ := any_some T.dict
  have hcls : Looks (model prog w) hp (classData C) cd := looks_clsIn X hcd
  have lx := Heap.lt_size hx
  refine osa_openX (s := ⟨hp, g, d, t, os⟩) (od := none) T.sf X ⟨hx, rfl, rfl, trivial⟩ T.over ht fun b => ?_
  obtain ⟨nm, bs, mro, ns, qn, hdct, sn, sb, ab, col, del⟩ := cd
  dsimp only at hd
  subst hd
  dsimp only
  unfold storeInOwnDict ownDictForStores
  repeat (first | with_reducible refine HandSPX.store_in_new ?_ ?_ | with_reducible refine wpAny_loadPart_at hx ?_ | with_reducible refine hcls.at ?_ | wp_step)
  · exact ⟨_, #[], _, (Heap.get?_update_ne _ _ _ _ (Nat.ne_of_gt lx)).trans (Heap.get?_push_at rfl rfl), rfl, fun e he => absurd he (by simp), fun _ => rfl⟩
  · intro h' tk' hn hs
    refine hq h' tk' hp.objs.size (fun b o hb ho => ?_) (Nat.le_refl _) (Nat.ne_of_gt lx) ?_ hn
    · exact (hs.2 b (Nat.ne_of_lt (Heap.lt_size ho))).trans ((Heap.get?_update_ne _ _ _ _ hb).trans (Heap.get?_push_of_some _ ho))
    · exact (hs.2 x (Nat.ne_of_lt lx)).trans (Heap.get?_update_self _ (Heap.get?_push_of_some _ hx) rfl)
end
section
variable {X : Cx} {pins : List (Addr × Obj)} {σ : L2.St} {H : Hp} {s : Shared} {a C : Addr} {f : Str} {y : V} {u : Value} {Q : Unit → Shared → Prop} {E : Value → Shared → Prop} {A : Around} {B : String} {bmB : List Value}
/-- self.f = y, the first field: the dict is made -/
theorem exc_field {X : Cx} {pins : List (Addr × Obj)} {σ : L2.St} {H : Hp} {s : Shared} (T : ExS X.K C B bmB) (I : Inv X pins σ H s) (e : H a = some (exo a C none)) (hno : PySem.W.findIn X.K (.ref C) f = some none) (ry : L2.RelV y u)
    (h : ∀ dx s', H dx = none → dx ≠ a → Inv X pins σ (upd (upd H dx (exd dx [(f, y)])) a (exo a C (some dx))) s' → Q () s') : wpAny (model X.prog X.w) A (setAttr (.ref a) f u) Q E s := by
  obtain ⟨t1, ho⟩ := exo_at I.hok e
  obtain ⟨hp, g, d, t, os⟩ := s
  refine PySem.W.set_plain I.kIn (ox := { cls := .ref C, dict := none, data := .fields #[.ref t1, .none, .none, .none, .bool false, .none] }) (od := none) ⟨ho, rfl, rfl, trivial⟩ T.sa ?_
  refine exc_store1 T I.kIn ho (by unfold PySem.W.takerIn; rw [hno]; rfl) fun h' tk' dx k dn dne hx hn => ?_
  have hnd : H dx = none := I.hok.fresh dn
  have at_a : (h'.update a fun _ => { cls := .ref C, dict := none, data := .fields #[.ref t1, .none, .none, .none, .bool false, .none] }).get? a = some { cls := .ref C, dict := none, data := .fields #[.ref t1, .none, .none, .none, .bool false, .none] } := Heap.get?_update_self _ hx rfl
  have off : ∀ b, b ≠ a → (h'.update a fun _ => { cls := .ref C, dict := none, data := .fields #[.ref t1, .none, .none, .none, .bool false, .none] }).get? b = h'.get? b := fun b hb => Heap.get?_update_other _ _ (Ne.symm hb)
  have k1 : ∀ b o, hp.get? b = some o → (h'.update a fun _ => { cls := .ref C, dict := none, data := .fields #[.ref t1, .none, .none, .none, .bool false, .none] }).get? b = some o := fun b o z => by
    by_cases hb : b = a
    · subst hb
      rw [at_a, ← z]
      exact ho.symm
    · rw [off b hb]
      exact k b o hb z
  have hn1 : (h'.update a fun _ => { cls := .ref C, dict := none, data := .fields #[.ref t1, .none, .none, .none, .bool false, .none] }).Ns1 dx (fun z => if z = f then some u else none) := by
    obtain ⟨o, es, ep, e1, r⟩ := hn
    exact ⟨o, es, ep, by rw [off dx dne]; exact e1, r⟩
  have J := I.laid (t' := t) (a := dx) (o := exd dx [(f, y)]) k1 dn (exd_ok hn1 (relO_put (fs := []) ry fun g => True.intro))
  have ea : (upd H dx (exd dx [(f, y)])) a = some (exo a C none) := by rw [upd_ne (Ne.symm dne)]; exact e
  have J2 := J.write (h' := h') (t' := tk') (x := a) (e := a) (o := exo a C (some dx)) (by rw [ea]; exact True.intro) (.inl rfl) (fun b o hb z => by rw [← off b hb]; exact z) ⟨_, hx⟩ (exo_ok hx)
  exact h dx _ hnd dne J2
end
/-- what C.__init__(self, y) does: self.f = y -/
def spExc (C : Addr) (f : Str) : Sp := fun vs H Q _ => ∃ (a : Addr) (y : V), vs = [.ref a, y] ∧ H a = some (exo a C none) ∧ ∀ dx, H dx = none → dx ≠ a → Q .non (upd (upd H dx (exd dx [(f, y)])) a (exo a C (some dx)))
/-- the two lines of such an __init__ -/
def excBody (n0 n1 fld msg : Str) (j : Nat) (p0 p1 p2 p3 p4 p5 q0 q1 q2 q3 : Pos) : List Stmt :=
  [.Expr (.Call (.Attribute (.Call (.Name "super" p0) [] [] p1) "__init__" p2) [.Constant (.str msg) j p3] [] p4) p5, .Assign [.Attribute (.Name n0 q0) fld q1] (.Name n1 q2) q3]
section
open PySem.W
variable {CX : CXT} {P : Program} {w : World} {K : Frag} {mg : Str → Option Value} {base : Heap} {F : NF} {f : Addr} {k : Nat}
theorem fn_exc {C cc : Addr} {B i newId : String} {bmB : List Value} {n0 n1 fld msg : Str} {j : Nat} {p0 p1 p2 p3 p4 p5 q0 q1 q2 q3 : Pos} {ar : Arg} {oc ccl cl dV kV doc pm ct : Value} {an od cdd cld : Option Addr} {osl ccs csl : Array (Option Value)} {vs : Array Value} {file : Str} {tf : Tok}
    (T : ExK K C B i newId bmB) (T2 : ExS K C B bmB) (hno : findIn K (.ref C) fld = some none) (hF : F.body = excBody n0 n1 fld msg j p0 p1 p2 p3 p4 p5 q0 q1 q2 q3) (S : NScope [n0, n1, "__class__"] [n0, n1] ["__class__"] F.scope) (hcl : F.cl = [(("__class__" : Str), cc)])
    (lk : K.lookup f = some ⟨oc, od, .func (fnX F.name F.qual F.params F.body F.scope F.cl dV kV doc pm an (.ref F.c) ct), osl⟩) (hcd : codeIn K (.ref F.c) F.qual = true) (hp : (F.params.posonlyargs ++ F.params.args).head? = some ar) (har : ar.arg = n0)
    (hcode : K.lookup F.c = some ⟨ccl, cdd, .fields vs, ccs⟩) (hvs : vs[2]? = some (.str file tf)) (hfile : ((P.main.file : Str) == file) = true)
    (hcell : K.lookup cc = some ⟨cl, cld, .cell (some (.ref C)), csl⟩) (hks : F.scope.names.lookup ("super" : Str) = some .globalImplicit)
    (htop : (P.main.scope.names.lookup ("super" : Str)).isSome = false) (hms : mg "super" = none) (hd0 : (n0 == ("__debug__" : Str)) = false) (hd1 : (n1 == ("__debug__" : Str)) = false)
    {pl : Addr → Sem Bool} (hc : ∀ L, eval (.Call (.Attribute (.Call (.Name "super" p0) [] [] p1) "__init__" p2) [.Constant (.str msg) j p3] [] p4) (envF F f L) = (do
      let ov ← attributeBase (.Call (.Name "super" p0) [] [] p1) "__init__" (envF F f L) (eval (.Call (.Name "super" p0) [] [] p1) (envF F f L))
      standAt p2.atName
      let (g, first) ← holding [ov] (getMethod ov "__init__" (pl L))
      callWith p4 g first (backTo p4 (starEach [.Constant (.str msg) j p3] (envF F f L))) [])) :
    FnOk P w K mg base CX (k + 1) f (fnX F.name F.qual F.params F.body F.scope F.cl dV kV doc pm an (.ref F.c) ct) [n0, n1] (spExc C fld) := by
  refine ⟨fun vs H Q E ⟨a, y, e, _⟩ => by rw [e]; rfl, fun A outer s H args us vs Q E hr e0 hb r hsp => ?_⟩
  obtain ⟨a, y, rfl, he, hq⟩ := hsp
  have KX : K.In s.heap := e0.mod.kin.keeps fun b o e => (e0.bs b o e).1
  have lim : s.heap.NoLimit := e0.mod.nolimit.keeps fun b o e => (e0.bs b o e).1
  have hpar0 : F.scope.names.lookup n0 = some .local := S.par n0 (by simp)
  have hpar1 : F.scope.names.lookup n1 = some .local := S.par n1 (by simp)
  have hcc : H cc = none := by
    exact (e0.bs cc _ (e0.mod.kin _ _ hcell)).2
  have Cs : CellsAt F.cl ["__class__"] [some (.ref C)] s.heap H := by
    rw [hcl]
    refine { len := rfl, all := fun z c hz => ?_, inj := fun x z c hx hz => ?_, has := fun i z hz => ?_ }
    · rw [List.lookup_cons] at hz
      split at hz
      · cases hz
        exact ⟨hcc, _, _, KX _ _ hcell, rfl⟩
      · cases hz
    · rw [List.lookup_cons] at hx hz
      split at hx
      · split at hz
        · rename_i e1 _ e2
          exact (beq_iff_eq.mp e1).trans (beq_iff_eq.mp e2).symm
        · cases hz
      · cases hx
    · match i, hz with
      | 0, hz =>
        obtain rfl : ("__class__" : Str) = z := Option.some.inj hz
        exact ⟨cc, rfl, fun v hv => ⟨.ref C, by cases hv; rfl, _, KX _ _ hcell, rfl⟩⟩
      | i + 1, hz => simp at hz
  refine ks_codeAny_call_defAt (body := F.body) (binds := [n0, n1].zip us) (R := CR CX outer P w H s Q E) hr.depth (KX _ _ lk) rfl lim (codeRec_of KX hcd) rfl hb S.nocell (fun x hx => S.par x.1 (List.of_mem_zip hx).1) (fun h₁ hns kp => ?_) S.co S.gen S.kind
  show _root_.PySem.wpAt (model P w) (A.deeper (envF F f s.heap.objs.size)) (.func F.body (envF F f s.heap.objs.size)) (execs F.body (envF F f s.heap.objs.size)) _ (ncx CX P w K mg base [n0, n1, "__class__"] F f A outer s H E).xe _
  have I : Inv (ncx CX P w K mg base [n0, n1, "__class__"] F f A outer s H E) [] (startF [n0, n1, "__class__"] [.ref a, y] [some (.ref C)]) H { s with heap := h₁, toks := s.toks + ([n0, n1].zip us).length } :=
    inv_startN S hr.hd e0 rfl r Cs hns kp
  rw [show execs F.body (envF F f s.heap.objs.size) = execs (excBody n0 n1 fld msg j p0 p1 p2 p3 p4 p5 q0 q1 q2 q3) (envF F f s.heap.objs.size) from by rw [hF]]
  unfold excBody
  refine ks_wpAt_execs_cons (ks_wpAt_Expr_any (ks_wpAt_mono (super_init (C := C) (R := fun H' => H' = H) T I S (by rw [hcl]; rfl) lk hp (by rw [har]; rfl) (by rw [har]; exact hpar0) rfl hcode hvs hfile hcell hks (S.frk _ (by simp)) htop hms (pa_cons pe_str pa_nil) he ⟨by simp, he, rfl⟩ (hc _) rfl) (fun _ s' ⟨H', J, hR⟩ => ?_) fun e s' z => z) (by unfold interactive; show (F.scope.kind == _ && _) = false; rw [S.kind]; rfl) rfl)
  dsimp only
  obtain rfl := hR
  refine wpAt_of_wpAny (wpAny_execs_cons ?_)
  have hkS : F.scope.kind = .function := S.kind
  obtain ⟨m, hns2, hlook⟩ := J.loc
  have get : ∀ (i : Nat) (x : Str) (v : V), [n0, n1, ("__class__" : Str)][i]? = some x → (startF [n0, n1, "__class__"] [.ref a, y] [some (.ref C)])[i]? = some (some v) → F.scope.names.lookup x = some .local → ∃ u, L2.RelV v u ∧ m x = some u := fun i x v h1 h2 h3 => by
    obtain ⟨u, ru, hl⟩ := hlook i x v h1 h2 (.inl h3)
    rcases hl with ⟨_, h⟩ | ⟨h, _⟩
    · exact ⟨u, ru, h⟩
    · have h : F.scope.names.lookup x = some .cell ∨ F.scope.names.lookup x = some .free := h
      rw [h3] at h
      rcases h with h | h <;> cases h
  obtain ⟨u1, ru1, g1⟩ := get 1 n1 y rfl rfl hpar1
  obtain ⟨u0, ru0, g0⟩ := get 0 n0 (.ref a) rfl rfl hpar0
  obtain rfl : u0 = Value.ref a := ru0
  refine plainObj_wpAny_Assign_Attribute (wpAny_Name (wpAny_loadName_local hkS hpar1 hns2 g1 ?_) hd1) rfl
  refine wpAny_Name (wpAny_loadName_local hkS hpar0 hns2 g0 ?_) hd0
  refine exc_field T2 J he hno ru1 fun dx s'' n ne J2 => ?_
  dsimp only
  refine wpAny_execs_nil ?_
  exact ⟨.non, _, J2.os, J2.bare, J2.base, J2.hok, rfl, hq dx n ne⟩
end
/-- C(e), C an own exception class with the field f -/
def tMkE (C : Addr) (f : Str) (ta : TA) : L2.St → Hp → XK → Prop := fun σ H Q => ta σ H fun vs H1 => ∃ y, vs = [y] ∧ ∀ d, H1 d = none → Q (.ref C) (some d) (upd H1 d (.xd [(f, y)]))
section
variable {X : Cx} {e : Expr} {ta : TA} {p pos : Pos} {B i newId : String} {bmB : List Value}
theorem pmk_exc2 {CX : CXT} {x fld : Str} {C fI : Addr} {k : Nat} {fd : FuncData} {ps : List Str} (T : ExK X.K C B i newId bmB) (kC : PySem.W.keepIn X.K (.ref C) = true) (exC : PySem.W.subIn X.K (.ref C) (.type "BaseException") = some true) (tyC : PySem.W.typeIn X.K (.ref C) = some (.type "type"))
    (iC : PySem.W.findIn X.K (.ref C) "__init__" = some (some (.ref fI))) (tI : PySem.W.typeIn X.K (.ref fI) = some (.type "function"))
    (F1 : FnOk X.prog X.w X.K X.mg X.base CX k fI fd ps (spExc C fld)) (hr : Room (k + 1) X.A) (hb : Binds X.K fd ps []) (hx : Passes CX X (fun _ _ _ => False)) (hg : Gl X x) (hm : X.mg x = some (.ref C)) (ha : PA X [e] ta)
    (hdb : (x == ("__debug__" : Str)) = false := by decide) (he : starEach [e] X.env = (false, eval e X.env) :: starEach [] X.env := by rfl) (hpl : (backTo pos (starEach [] X.env)).any (·.1) = false := by rfl) :
    PMk X (.Call (.Name x p) [e] [] pos) (tMkE C fld ta) := by
  intro pins s σ H Q I h
  refine wpAny_Call_Name_kw (ld_glob I hg hm ?_ hdb)
  refine PySem.W.callWith_K (h₀ := X.base) I.ok.mod.kin kC (thn (ha.run pos pins s σ H _ I h) fun us s1 ⟨vs, H1, I1, r1, y, ev, q1⟩ => ⟨I1.kIn, ?_⟩) he hpl
  subst ev
  show wpAny _ _ (call (.ref C) us) _ _ _
  obtain ⟨nm, N', qn, bs, bm, hdct, sn, sub, ab, col, dd, k0, k1', k2, k3, k5, hC, hT⟩ := PySem.W.excInit_of I1.kIn T.exc
  obtain ⟨hp, g, dr, tk, os⟩ := s1
  have hsz : hp.objs.size ≤ hp.objs.size + 1 := Nat.le_succ _
  have hn : H1 (hp.objs.size + 1) = none := I1.hok.fresh hsz
  have kk : ∀ b o, hp.get? b = some o → ((hp.push (PySem.W.kdv_tup us)).push (PySem.PX.excO C hp.objs.size)).get? b = some o := fun b o e => Heap.get?_push_of_some _ (Heap.get?_push_of_some _ e)
  have hget : ((hp.push (PySem.W.kdv_tup us)).push (PySem.PX.excO C hp.objs.size)).get? (hp.objs.size + 1) = some (PySem.PX.excO C hp.objs.size) := by heap_get
  have I2 : Inv X pins σ (upd H1 (hp.objs.size + 1) (exo (hp.objs.size + 1) C none)) ⟨(hp.push (PySem.W.kdv_tup us)).push (PySem.PX.excO C hp.objs.size), g, dr, tk, os⟩ :=
    I1.laid (t' := tk) (a := hp.objs.size + 1) (o := exo (hp.objs.size + 1) C none) kk hsz (exo_ok hget)
  have r2 : Vals [V.ref (hp.objs.size + 1), y] (Value.ref (hp.objs.size + 1) :: us) := .cons rfl r1
  have hus : us.length ≤ sizeLine := by
    rw [← Paired.length r1, sizeLine_eq]
    show 1 ≤ 16777216
    decide
  have sp : spExc C fld [V.ref (hp.objs.size + 1), y] (upd H1 (hp.objs.size + 1) (exo (hp.objs.size + 1) C none)) (fun v H2 => v = .non ∧ ∃ d, H1 d = none ∧ d ≠ hp.objs.size + 1 ∧ H2 = upd (upd (upd H1 (hp.objs.size + 1) (exo (hp.objs.size + 1) C none)) d (exd d [(fld, y)])) (hp.objs.size + 1) (exo (hp.objs.size + 1) C (some d))) (fun _ _ _ => False) :=
    ⟨_, _, rfl, upd_same, fun d hd ne => ⟨rfl, d, by rw [upd_ne ne] at hd; exact hd, ne, rfl⟩⟩
  have hl : (Value.ref (hp.objs.size + 1) :: us).length = ps.length := by
    have e := r2.length
    rw [F1.len _ _ _ _ sp] at e
    exact e.symm
  refine wpAny_call (PySem.PX.call_own T.base hT hC (PySem.W.looks_findIn I1.kIn iC) (fun self => PySem.W.bind_fn I1.kIn self tI) hus
    (codeAny_mono (F1.run _ X.stack _ _ ⟨Value.ref (hp.objs.size + 1) :: us, []⟩ (Value.ref (hp.objs.size + 1) :: us) _ _ (fun _ _ _ => False) (hr.make C us []) (I2.env0.make C us []) (by have := hb _ (Value.ref (hp.objs.size + 1) :: us) I2.kIn (by rw [List.append_nil]; exact hl); rw [List.append_nil] at this; exact this) r2 sp) fun r s' hq' => ?_))
  cases r with
  | error er => exact hx pins σ _ _ er s' I2 hq'
  | ok fl =>
    cases fl with
    | ret u =>
      obtain ⟨v, H2, os2, bare2, un2, hok2, rv, ev, d, hd1, ne, eH⟩ := hq'
      subst ev
      subst eH
      obtain ⟨h2, g2, d2, t2, os'⟩ := s'
      refine ⟨rv, mk_end (d := d) (fs := [(fld, y)]) (raises_own exC tyC) I1 hsz kk un2 hok2 os2 bare2 upd_same (by rw [upd_ne ne, upd_same]) hd1 ?_⟩
      have eq : upd (del (upd (upd (upd H1 (hp.objs.size + 1) (exo (hp.objs.size + 1) C none)) d (exd d [(fld, y)])) (hp.objs.size + 1) (exo (hp.objs.size + 1) C (some d))) (hp.objs.size + 1)) d (.xd [(fld, y)]) = upd H1 d (.xd [(fld, y)]) := by
        funext b
        by_cases hb : b = d
        · rw [hb, upd_same, upd_same]
        · rw [upd_ne hb, upd_ne hb]
          by_cases ha : b = hp.objs.size + 1
          · rw [ha, del_same, hn]
          · rw [del_ne ha, upd_ne ha, upd_ne hb, upd_ne ha]
      rw [eq]
      exact q1 d hd1
    | next => exact False.elim hq'
    | brk => exact False.elim hq'
    | cont => exact False.elim hq'
end
/-! ### raise C(e), over data -/
section
variable {K : PySem.W.Frag} {E : XS} {Ξ : DX} {tl : TA} {wl : WA} {C : Addr} {f : Str}
end
section
variable {X : Cx} {e : Expr} {ta : TA} {C : Addr} {f : Str} {E : XS} {pos : Pos}
end
end DL
set_option Elab.async false
set_option linter.all false
set_option maxRecDepth 100000
set_option maxHeartbeats 2000000
namespace DL
open PySem L2 PyProof.Rows
/-! ### a caught exception that is kept -/
theorem cau_own {a C d x : Addr} : cau a C d ≠ .own x := fun z => by
  unfold cau at z
  cases z
theorem cau_ok {P : Program} {w : World} {H : Hp} {h : Heap} {a C d : Addr} {oe : Obj} {vs : Array Value} (he : h.get? a = some oe) (hc : oe.cls = .ref C) (hd : oe.dict = some d) (hf : oe.data = .fields vs) : ObjOk P w H h a (cau a C d) :=
  ⟨⟨oe, vs, he, hc, hd, hf⟩, ⟨oe, he⟩, fun h1 h2 ⟨oe, vs, e, r⟩ k => ⟨oe, vs, k _ e, r⟩⟩
section
variable {X : Cx} {pins : List (Addr × Obj)} {σ : L2.St} {H : Hp} {s : Shared} {a C d : Addr} {o : HO}
/-- an object that stands and is not tracked is tracked from now on: it was not there at the entry -/
theorem inv_track (I : Inv X pins σ H s) (na : H a = none) (n0 : X.s_0.heap.get? a = none) (nL : a ≠ X.env.locals) (nF : a ∉ X.fs) (nC : ∀ x c, X.env.cells.lookup x = some c → c ≠ a) (nP : ∀ p ∈ X.pn ++ pins, p.1 ≠ a) (ok : ObjOk X.prog X.w (upd H a o) s.heap a o) (no : ∀ x, o ≠ .own x) :
    Inv X pins σ (upd H a o) s := by
  have ne : ∀ {b : Addr} {u : HO}, H b = some u → b ≠ a := fun {b u} e z => by rw [z, na] at e; cases e
  have ne0 : ∀ {b : Addr} {u : Obj}, X.s_0.heap.get? b = some u → b ≠ a := fun {b u} e z => by rw [z, n0] at e; cases e
  refine ⟨I.ok, I.os, I.bare, ⟨I.base.keep, I.base.slot, fun b u e n hx => ?_, I.base.there, fun b xs e => ?_, fun b u v e => ?_, fun b ps e => ?_⟩, I.loc, I.cell, ?_, fun x c e => ?_, fun p hp => ?_, fun b u e => ?_, I.len⟩
  · rw [upd_ne (ne0 e)]
    exact I.base.free b u e n hx
  · have t := I.base.tups b xs e
    rw [upd_ne (ne t)]
    exact t
  · have t := I.base.frzs b u v e
    rw [upd_ne (ne t)]
    exact t
  · obtain ⟨more, t⟩ := I.base.tbls b ps e
    exact ⟨more, by rw [upd_ne (ne t)]; exact t⟩
  · rw [upd_ne (Ne.symm nL)]
    exact I.free
  · rw [upd_ne (nC x c e)]
    exact I.freeC x c e
  · obtain ⟨p1, p2, p3⟩ := I.pin p hp
    exact ⟨p1, by rw [upd_ne (nP p hp)]; exact p2, p3⟩
  · by_cases hb : b = a
    · subst hb
      rw [upd_same] at e
      cases e
      exact ok
    · rw [upd_ne hb] at e
      exact (I.hok b u e).stay (fun _ _ _ z => z) (fun c hc => by rw [upd_ne (ne hc)]; exact hc) (fun c xs hc => by rw [upd_ne (ne hc)]; exact hc)
end
/-! ### try: .. except (A, B, ..) as n: suite, the exception tracked from the suite on -/
/-- the test of a clause: te gives the classes cs; nothing else is changed -/
def Tests (X : Cx) (te : Expr) (cs : List Value) : Prop := ∀ {a : Addr} {pn pins : List (Addr × Obj)} {σ : L2.St} {H : Hp} {s : Shared} {cls : Value} {b : Bool} {Q : Value → Shared → Prop} {E : Value → Shared → Prop}, Inv (X.suite a pn) pins σ H s →
  (∀ h', (∀ b o, s.heap.get? b = some o → h'.get? b = some o) → PySem.W.Looks (model X.prog X.w) h' (typeOf (.ref a)) cls) → PySem.W.exmAny X.K cls cs = some b →
  (∀ c h' t', (∀ b o, s.heap.get? b = some o → h'.get? b = some o) → PySem.W.Looks (model X.prog X.w) h' (excMatches (.ref a) c) b → Q c { s with heap := h', toks := t' }) → wpAny (model X.prog X.w) (X.A.mark (some (.ref a))) (eval te X.env) Q E s
/-- what the clauses wish of an exception of the body: the classes, the name's slot, the suite -/
abbrev Hds := List (List Value × Option Nat × TS)
def wMK (K : PySem.W.Frag) (Wout : L2.WX) (D : Ends) : Hds → L2.WX
  | [] => Wout
  | (cs, some i, ts) :: r => fun cls d σ H => ∃ b, PySem.W.exmAny K cls cs = some b ∧ (b = true → ∃ C dd, cls = .ref C ∧ d = some dd ∧ ∀ a, H a = none → ts { nx := fun σ' H' => D.nx (σ'.set i none) H', rt := D.rt, bk := fun σ' H' => D.bk (σ'.set i none) H', ct := fun σ' H' => D.ct (σ'.set i none) H' } (σ.set i (some (.ref a))) (upd H a (cau a C dd))) ∧
    (b = false → wMK K Wout D r cls d σ H)
  | (cs, none, ts) :: r => fun cls d σ H => ∃ b, PySem.W.exmAny K cls cs = some b ∧ (b = true → ts D σ H) ∧ (b = false → wMK K Wout D r cls d σ H)
inductive HKs (X : Cx) : List ExceptHandler → Hds → Prop
  | nil : HKs X [] []
  | named {n : Str} {i : Nat} {cs : List Value} {te : Expr} {ts : TS} {b₀ : Stmt} {suite : List Stmt} {pos' : Pos} {hds : List ExceptHandler} {l : Hds} (hi : X.N[i]? = some n) (hln : X.env.kindOf n = some .local) (ht : Tests X te cs)
      (hsu : ∀ (a : Addr) (pn : List (Addr × Obj)), PSs (X.suite a pn) (b₀ :: suite) ts) (r : HKs X hds l) : HKs X (.ExceptHandler (some te) (some n) (b₀ :: suite) pos' :: hds) ((cs, some i, ts) :: l)
  | plain {cs : List Value} {te : Expr} {ts : TS} {b₀ : Stmt} {suite : List Stmt} {pos' : Pos} {hds : List ExceptHandler} {l : Hds} (ht : Tests X te cs)
      (hsu : ∀ (a : Addr) (pn : List (Addr × Obj)), PSs (X.suite a pn) (b₀ :: suite) ts) (r : HKs X hds l) : HKs X (.ExceptHandler (some te) none (b₀ :: suite) pos' :: hds) ((cs, none, ts) :: l)
section
variable {X : Cx} {body : List Stmt} {h₀ : ExceptHandler} {hds : List ExceptHandler} {l : Hds} {pos : Pos} {tb : L2.WX → TS} {Wout : L2.WX}
end
/-! the tests of clauses -/
section
variable {X : Cx} {x1 x2 x3 : Str} {c1 c2 c3 : Value} {p1 p2 p3 tpos : Pos} {kk : Nat}
end
/-! a caught exception is data -/
section
variable {K : Frag} {F G H : Hp} {M : Mem}
theorem sat_caught (s : Sat K F M G H) {dx a C : Addr} {ks : List Str} {xs : List V} {l : List D} (hx : H dx = some (.xd (ks.zip xs))) (hG : G dx = none) (hl : ks.length = xs.length) (d : DenL K F l xs) (na : H a = none) :
    ∃ F', Ext F F' ∧ Sat K F' M G (upd H a (cau a C dx)) ∧ Den K F' (.exn C ks l) (.ref a) := by
  have nM : ∀ φ, M dx ≠ some φ := fun φ e => by
    obtain ⟨ho, h1, mb, _, h2⟩ := s.mem dx φ e
    rw [hx] at h1
    cases h1
    cases mb with
    | lst l => obtain ⟨_, z, _⟩ := h2; cases z
    | dic l => obtain ⟨_, z, _⟩ := h2; cases z
    | ins C fs => obtain ⟨_, _, z, _⟩ := h2; cases z
    | lk _ _ _ => obtain ⟨z, _⟩ := h2; cases z
    | oth R m nx => exact nx _ _ h2 _ rfl
  have ex1 : Ext F (upd F dx (.xd (ks.zip xs))) := fun b o e => by
    by_cases hb : b = dx
    · subst hb
      rw [s.sub _ _ e] at hx
      cases hx
      exact upd_same
    · rw [upd_ne hb]
      exact e
  have s1 : Sat K (upd F dx (.xd (ks.zip xs))) M G H := by
    refine ⟨fun b o e => ?_, fun b φ e => ?_, fun b φ e => ?_, fun b o e => ?_⟩
    · by_cases hb : b = dx
      · subst hb
        rw [upd_same] at e
        cases e
        exact hx
      · rw [upd_ne hb] at e
        exact s.sub b o e
    · have hb : b ≠ dx := fun z => nM φ (z ▸ e)
      rw [upd_ne hb]
      exact s.dis b φ e
    · obtain ⟨ho, h1, mb, h2, h3⟩ := s.mem b φ e
      exact ⟨ho, h1, mb, h2, h3.ext ex1⟩
    · obtain ⟨h1, h2, h3⟩ := s.fr b o e
      have hb : b ≠ dx := fun z => by rw [z, hG] at e; cases e
      exact ⟨h1, by rw [upd_ne hb]; exact h2, h3⟩
  have na1 : (upd F dx (.xd (ks.zip xs))) a = none := s1.freshF na
  have ne : dx ≠ a := fun z => by rw [← z, hx] at na; cases na
  have ex2 : Ext (upd F dx (.xd (ks.zip xs))) (upd (upd F dx (.xd (ks.zip xs))) a (cau a C dx)) := Ext.new na1
  refine ⟨_, ex1.trans ex2, s1.new na, a, dx, xs, rfl, upd_same, ?_, hl, (d.ext ex1).ext ex2⟩
  rw [upd_ne ne, upd_same]
end
/-! a field of a caught exception -/
/-- instances of the exception class at C have the field f -/
class ExF (K : Frag) (C : Addr) (f : Str) : Prop where
  c : XfC K C
  n : PySem.W.findIn K (.ref C) f = some none
def tExF (K : Frag) (f : Str) (te : TE) : TE := fun σ H Q => te σ H fun x H1 => ∃ (a C dd : Addr) (fs : List (Str × V)) (v : V), x = .ref a ∧ ExF K C f ∧ H1 a = some (cau a C dd) ∧ H1 dd = some (.xd fs) ∧ fs.lookup f = some v ∧ Q v H1
def wExF (K : Frag) (we : WE) (f : Str) : WE := fun δ M Q => we δ M fun x M1 => ∃ C ks l d, x = .exn C ks l ∧ ExF K C f ∧ (ks.zip l).lookup f = some d ∧ Q d M1
section
variable {K : Frag} {E : XS} {Ξ : DX} {te : TE} {we : WE} {f : Str}
instance lf_exf [a : LfE K E Ξ te we] : LfE K E Ξ (tExF K f te) (wExF K we f) := ⟨fun {δ M Q} h {σ F G H} e s o {R} k =>
  a.run h e s o fun x M1 v F1 H1 ⟨C, ks, l, d, ex, c, hl, hq⟩ x1 s1 d1 => by
    subst ex
    obtain ⟨p, dx, xs, rfl, q1, q2, hn, dl⟩ := d1
    obtain ⟨w, hw, dw⟩ := denP_lookup (denP_zip hn dl) hl
    exact ⟨p, C, dx, _, w, rfl, c, s1.sub _ _ q1, s1.sub _ _ q2, hw, k _ M1 _ F1 H1 hq x1 s1 dw⟩⟩
theorem pe_exf {X : Cx} {e : Expr} {te : TE} {pos : Pos} {n : Str} (he : PE X e te) (hb : attributeBase e n X.env (eval e X.env) = eval e X.env := by rfl) : PE X (.Attribute e n pos) (tExF X.K n te) := by
  refine ⟨fun pins s σ H Q I h => ?_⟩
  refine attr_of hb (thn (he.run pins s σ H _ I h) fun u s1 hh => ?_)
  obtain ⟨x, H1, I1, rx, a, C, dd, fs, v, ex, T, ha, hd, l, q⟩ := hh
  subst ex
  obtain rfl : u = Value.ref a := rx
  obtain ⟨⟨oe, vs, ho, hc, hdd, hdf⟩, _, _⟩ := I1.hok a _ ha
  obtain ⟨mA, hns, hr⟩ := (I1.hok dd _ hd : ObjOk X.prog X.w H1 s1.heap dd (.xd fs))
  obtain ⟨od, hod, hl⟩ := lookIn_ns hns
  obtain ⟨u, hu, ru⟩ := RelO.some_of (v := v) (o := mA n) (by rw [← l]; exact hr n)
  have J : PySem.W.InstAt s1.heap a oe C (some od) := ⟨ho, hc, by unfold PySem.W.notCls; rw [hdf] <;> rfl, by rw [hdd]; exact hod⟩
  exact PySem.HandSPX.exc_get I1.kIn J T.c.ga T.c.gg T.c.exC (PySem.W.findObj_own T.c.hdC T.n rfl (by rw [hl, hu])) (handed_of ru) ⟨v, H1, I1.tok _, ru, q⟩
end
/-! isinstance of a caught exception -/
section
open PySem.W Builtin Builtin.ObjectAttr Builtin.Getset_descriptor
variable {prog : Program} {w : World} {A : Around} {E : Value → Shared → Prop} {s : Shared} {K : Frag} {x D : Addr} {ox od : Obj}
theorem exn_class {Q : Option Value → Shared → Prop} (T : ExcC K D) (X : K.In s.heap) (I : InstAt s.heap x ox D (some od)) (h : Q (some (.ref D)) { s with toks := s.toks + 1 }) : wpAny (model prog w) A (getAttr? (.ref x) "__class__") Q E s := by
  have hf : findObj K D (some od) "__class__" = some (.bind (.builtin "getset_descriptor.__get__") (.builtin "object.__class__")) := findObj_data (by obtain ⟨cd, hc, _⟩ := any_some T.hd; rw [hc]; rfl) T.ha T.hn T.ht
  obtain ⟨hp, g, d, t, os⟩ := s
  have L0 := I.type (M := model prog w)
  have L1 := looks_findIn (M := model prog w) X T.hg
  have L2 := looks_findIn (M := model prog w) X T.hk
  have L3 := looks_find (M := model prog w) X I hf
  have sub : Looks (model prog w) hp (isInstance (.ref x) (.type "BaseException")) true := L0.andThen (looks_subIn X T.hs)
  unfold getAttr? getAttrBy? getAttrBy
  refine wpAny_bind (wpAny_mkText (wpAny_bind (wpAny_attempt (wpAny_holding (wpAny_bind (L0.at (wpAny_bind (L1.at ?_))))))))
  dsimp only
  rw [show (onTheHeap (Value.ref D) && Value.builtin "BaseException.__getattribute__" == Value.builtin "object.__getattribute__") = false from by rw [show (Value.builtin "BaseException.__getattribute__" == Value.builtin "object.__getattribute__") = false from by decide +kernel]; rfl, if_neg Bool.false_ne_true]
  unfold getAttrByItsOwn hookBefore
  refine wpAny_bind ?_
  rw [if_pos (show onTheHeap (Value.ref D) = true from rfl)]
  refine L2.at (wpAny_bind (wpAny_attempt (wpAny_holding ?_)))
  unfold callGetattribute
  rw [show (false && onTheHeap (Value.builtin "BaseException.__getattribute__")) = false from rfl, if_neg Bool.false_ne_true]
  unfold boundAndCalled
  rw [PySem.F.excAttr_ValueError.ga.bind (.ref x)]
  refine wpAny_bind (wpAny_pure ?_)
  show wpAny _ _ (call (.builtin "BaseException.__getattribute__") [.ref x, .str "__class__" t]) _ _ _
  refine wpAny_call (codeAny_call_builtin PySem.F.excAttr_ValueError.ga.plain PySem.F.entry_bexc_ga ?_)
  refine @check_slot (model prog w) _ _ ⟨hp, g, d, t + 1, os⟩ "BaseException.__getattribute__" "BaseException" "__getattribute__" (.ref x) [.str "__class__" t] [] _ (by decide +kernel) (by decide +kernel) sub (PySem.F.args_bexc_ga (.ref x) (.str "__class__" t)) ?_
  unfold Builtin.«object.__getattribute__»
  refine wpAny_bind (wpAny_of_eq (a := ((Value.ref x : Value), [Value.str "__class__" t])) (by first | rfl | (simp only [slotArgs]; rfl)) ?_)
  refine wpAny_bind (wpAny_pure (wpAny_bind (L0.at (wpAny_bind (L3.at ?_)))))
  show wpAny _ _ (holding [Value.builtin "object.__class__"] (call (.builtin "getset_descriptor.__get__") [.builtin "object.__class__", .ref x, .ref D]) >>= ret) _ _ _
  refine wpAny_bind (wpAny_holding (wpAny_call (class_get (s := ⟨hp, g, d, t + 1, os⟩) (ox := ox) (od := some od) X I T.hm ?_)))
  refine wpAny_pure ?_
  show wpAny _ _ (handedOut (.ref D)) _ _ _
  rw [handedOut_of (v := .ref D) rfl]
  first
    | exact wpAny_pure (wpAny_pure h)
    | exact wpAny_pure h
    | exact wpAny_pure (wpAny_bind (wpAny_pure (wpAny_pure h)))
theorem kit_exn (T : ExcC K D) : KitX K (.ref x) (.ref D) (fun h => InstAt h x ox D (some od)) where
  ty := fun _ _ _ I => I.type
  it := fun _ _ X _ => by
    obtain ⟨cdD, hcD, _⟩ := any_some T.hd
    unfold clsIn at hcD
    split at hcD
    · rename_i c' d' cd' sl' ho
      intro A' Q' E' s' k q
      unfold isType loadHead
      exact wpAny_bind (wpAny_loadPart (k _ _ (X _ _ ho)) (wpAny_pure q))
    · cases hcD
  ne := fun h tp dd its n sl X htp => by
    obtain ⟨cdD, hcD, _⟩ := any_some T.hd
    refine Bool.eq_false_iff.mpr fun q => ?_
    have e : D = tp := Value.ref.inj (beq_iff_eq.mp q)
    subst e
    unfold clsIn at hcD
    split at hcD
    · rename_i c' d' cd' sl' ho
      have z := (X _ _ ho).symm.trans htp
      cases z
    · cases hcD
  ca := fun X I k => exn_class T X I k
end
/-- isinstance(e, c), e a caught exception -/
def rIsX (K : Frag) : List V → Hp → VK → Prop := fun xs H Q => ∃ (a C dd : Addr) (fs : List (Str × V)) (c : V) (u : Value) (b : Bool), xs = [.ref a, c] ∧ H a = some (cau a C dd) ∧ H dd = some (.xd fs) ∧ ExcC K C ∧ ClsV c u ∧ PySem.W.kitOne K (.ref C) u = some b ∧ Q (.bl b) H
theorem call_isX {X : Cx} : CallR X (.builtin "isinstance") (rIsX X.K) := by
  intro pins s σ H xs us Q I r h
  obtain ⟨a, C, dd, fs, c, cv, b, rfl, ha, hd, T, hcv, e, q⟩ := h
  obtain ⟨u1, u2, rfl, r1, r2⟩ := vals2 r
  have e2 := hcv.eq r2
  subst e2
  obtain rfl : u1 = Value.ref a := r1
  obtain ⟨⟨oe, vs, ho, hc, hdd, hdf⟩, _, _⟩ := I.hok a _ ha
  obtain ⟨mA, hns, hr⟩ := (I.hok dd _ hd : ObjOk X.prog X.w H s.heap dd (.xd fs))
  obtain ⟨od, hod, _⟩ := lookIn_ns hns
  have J : PySem.W.InstAt s.heap a oe C (some od) := ⟨ho, hc, by unfold PySem.W.notCls; rw [hdf] <;> rfl, by rw [hdd]; exact hod⟩
  exact PySem.W.kia_one (kit_exn T) I.kIn J e (fun z => nomatch z) fun tk => ⟨.bl b, H, I.tok tk, rfl, q⟩
section
variable {K : Frag} {E : XS} {Ξ : DX}
/-- isinstance(x, c): x a caught exception, or as wIsi says -/
def rIsXO (K : Frag) (w : List V → Hp → VK → Prop) : List V → Hp → VK → Prop := fun xs H Q => rIsX K xs H Q ∨ w xs H Q
def wIsX (K : Frag) (w : WC) : WC := fun xs M Q => (∃ C ks l c u b, xs = [.exn C ks l, c] ∧ ExcC K C ∧ clsW c = some u ∧ PySem.W.kitOne K (.ref C) u = some b ∧ Q (.bl b) M) ∨ w xs M Q
instance lf_isx {r : List V → Hp → VK → Prop} {w : WC} [l : LfC K E Ξ r w] : LfC K E Ξ (rIsXO K r) (wIsX K w) := ⟨fun {xs M Q} h {F G H vs} s o d {R} k => by
  rcases h with ⟨C, ks, ls, c, u, b, e, T, h1, h3, h⟩ | h
  · subst e
    obtain ⟨v, z, rfl, d1, d2⟩ := den2 d
    obtain ⟨p, dx, xs, rfl, q1, q2, hn, dl⟩ := d1
    exact .inl ⟨p, C, dx, _, z, u, b, rfl, s.sub _ _ q1, s.sub _ _ q2, T, clsv_of d2 h1, h3, k _ M _ F H h Ext.refl s rfl⟩
  · exact .inr (l.run h s o d k)⟩
theorem call_isXO {X : Cx} {r : List V → Hp → VK → Prop} (h : CallR X (.builtin "isinstance") r) : CallR X (.builtin "isinstance") (rIsXO X.K r) := fun pins s σ H xs us Q I rr q => by
  rcases q with q | q
  · exact call_isX pins s σ H xs us Q I rr q
  · exact h pins s σ H xs us Q I rr q
end
end DL
set_option Elab.async false
set_option linter.all false
set_option maxRecDepth 100000
set_option maxHeartbeats 2000000
namespace DL
open PySem L2 PyProof.Rows NdefX
/-! ### try over data -/
abbrev unW (E : XS) : L2.WX := fun cls d σ H => E σ cls d H
abbrev WHds := List (List Value × Option Nat × WS)
/-- the suite's name is gone behind it -/
def cutN (i : Nat) (D : WEnds) : WEnds := { nx := fun δ M => D.nx (δ.set i none) M, rt := D.rt, bk := fun δ M => D.bk (δ.set i none) M, ct := fun δ M => D.ct (δ.set i none) M }
def wHds (K : Frag) (D : WEnds) (Ξ : DX) : WHds → DX
  | [] => Ξ
  | (cs, some i, ws) :: r => fun δ x M => ∃ b, PySem.W.exmAny K (.ref x.cls) cs = some b ∧ if b = true then ws (cutN i D) (δ.set i (some (.exn x.cls x.ks x.fs))) M else wHds K D Ξ r δ x M
  | (cs, none, ws) :: r => fun δ x M => ∃ b, PySem.W.exmAny K (.ref x.cls) cs = some b ∧ if b = true then ws D δ M else wHds K D Ξ r δ x M
class LfHs (K : Frag) (l : Hds) (w : outParam WHds) : Prop where
  run : ∀ {D : WEnds} {N : Ends} {F G : Hp} {Ξ : DX} {E : XS}, EndsOk K F G D N → EOk K F G Ξ E → EOk K F G (wHds K D Ξ w) (fun σ cls d H => wMK K (unW E) N l cls d σ H)
section
variable {K : Frag} {E : XS} {Ξ : DX}
instance lf_hnil : LfHs K [] [] := ⟨fun _ o => o⟩
instance lf_hnamed {cs : List Value} {i : Nat} {ts : TS} {ws : WS} {l : Hds} {w : WHds} [s : LfS K (kE E0) (fun _ _ _ => False) ts ws] [r : LfHs K l w] : LfHs K ((cs, some i, ts) :: l) ((cs, some i, ws) :: w) := ⟨fun {D N F G Ξ E} k o δ σ F' ex e x M F2 H dx xs hx ex2 sat hd hG hl dl => by
  obtain ⟨b, hb, h⟩ := hx
  refine ⟨b, hb, fun ht => ⟨x.cls, dx, rfl, rfl, fun a na => ?_⟩, fun hf => ?_⟩
  · rw [if_pos ht] at h
    obtain ⟨F3, ex3, sat3, d3⟩ := sat_caught sat hd hG hl dl na
    refine s.run h ((e.ext (ex2.trans ex3)).set d3) sat3 EOk.none ⟨fun δ' M' σ' F' H' q y e' s' => ?_, fun d M' v F' H' q y s' dd => ?_, fun δ' M' σ' F' H' q y e' s' => ?_, fun δ' M' σ' F' H' q y e' s' => ?_⟩
    · exact k.nx _ _ _ _ _ q (((ex.trans ex2).trans ex3).trans y) (e'.none _) s'
    · exact k.rt _ _ _ _ _ q (((ex.trans ex2).trans ex3).trans y) s' dd
    · exact k.bk _ _ _ _ _ q (((ex.trans ex2).trans ex3).trans y) (e'.none _) s'
    · exact k.ct _ _ _ _ _ q (((ex.trans ex2).trans ex3).trans y) (e'.none _) s'
  · subst hf
    exact r.run k o δ σ F' ex e x M F2 H dx xs h ex2 sat hd hG hl dl⟩
instance lf_hplain {cs : List Value} {ts : TS} {ws : WS} {l : Hds} {w : WHds} [s : LfS K (kE E0) (fun _ _ _ => False) ts ws] [r : LfHs K l w] : LfHs K ((cs, none, ts) :: l) ((cs, none, ws) :: w) := ⟨fun {D N F G Ξ E} k o δ σ F' ex e x M F2 H dx xs hx ex2 sat hd hG hl dl => by
  obtain ⟨b, hb, h⟩ := hx
  refine ⟨b, hb, fun ht => ?_, fun hf => ?_⟩
  · rw [if_pos ht] at h
    exact s.run h (e.ext ex2) sat EOk.none (k.ext (ex.trans ex2))
  · subst hf
    exact r.run k o δ σ F' ex e x M F2 H dx xs h ex2 sat hd hG hl dl⟩
theorem lf_seqT {ts us : TS} {ws wr : WS} (a : LfS K E Ξ ts ws) (b : LfS K E Ξ us wr) : LfS K E Ξ (tSeq ts us) (wSeq ws wr) := lf_seq
end
section
variable {X : Cx} {K : Frag} {body : List Stmt} {h₀ : ExceptHandler} {hds : List ExceptHandler} {l : Hds} {pos : Pos} {tb : L2.WX → TS} {E : XS}
end
/-! ### the head's facts of own exceptions -/
def eqBo (a b : Option Bool) : Bool := decide (a = b)
def eqV (a b : Option Value) : Bool := decide (a = b)
/-- its __init__ -/
def iA (K : Frag) (x : Str) : Addr := He.ma K (He.ga K x) "__init__"
def excB1 (B i newId : String) (bmB : List Value) (x fld : Str) (K : Frag) : Bool :=
  PySem.W.excInitIn K (He.ga K x) bmB newId && (eqBo (PySem.W.subIn K (.ref (He.ga K x)) (.type B)) (some true) && (He.eqO (PySem.W.ks_superIn K (He.ga K x) (He.ga K x) "__init__") (some (some (.builtin i))) && (He.eqO (PySem.W.nsIn K cStatics "thirdparty.any") (some none) &&
  (eqBo (PySem.W.mroIn K (He.ga K x) (.ref (He.ga K x))) (some true) && (PySem.W.excOver K (He.ga K x) bmB && (PySem.W.hasDictIn K (He.ga K x) && (He.eqO (PySem.W.findIn K (.ref (He.ga K x)) "__setattr__") (some (some (.builtin "object.__setattr__"))) &&
  (He.eqO (PySem.W.findIn K (.ref (He.ga K x)) fld) (some none) && (PySem.W.keepIn K (.ref (He.ga K x)) && (eqBo (PySem.W.subIn K (.ref (He.ga K x)) (.type "BaseException")) (some true) && (eqV (PySem.W.typeIn K (.ref (He.ga K x))) (some (.type "type")) &&
  (He.eqO (PySem.W.findIn K (.ref (He.ga K x)) "__init__") (some (some (.ref (iA K x)))) && eqV (PySem.W.typeIn K (.ref (iA K x))) (some (.type "function"))))))))))))))
structure ExcF1 (K : Frag) (B i newId : String) (bmB : List Value) (x fld : Str) : Prop where
  k : PySem.ExcBaseFacts B newId i bmB → PySem.W.KxsFacts B i → ExK K (He.ga K x) B i newId bmB
  s : PySem.StoreFacts B bmB "object.__setattr__" "object" → ExS K (He.ga K x) B bmB
  no : PySem.W.findIn K (.ref (He.ga K x)) fld = some none
  kp : PySem.W.keepIn K (.ref (He.ga K x)) = true
  ex : PySem.W.subIn K (.ref (He.ga K x)) (.type "BaseException") = some true
  ty : PySem.W.typeIn K (.ref (He.ga K x)) = some (.type "type")
  ini : PySem.W.findIn K (.ref (He.ga K x)) "__init__" = some (some (.ref (iA K x)))
  fn : PySem.W.typeIn K (.ref (iA K x)) = some (.type "function")
theorem excB1_ok {B i newId : String} {bmB : List Value} {x fld : Str} {K : Frag} (h : excB1 B i newId bmB x fld K = true) : ExcF1 K B i newId bmB x fld := by
  obtain ⟨h1, h⟩ := He.ba h
  obtain ⟨h2, h⟩ := He.ba h
  obtain ⟨h3, h⟩ := He.ba h
  obtain ⟨h4, h⟩ := He.ba h
  obtain ⟨h5, h⟩ := He.ba h
  obtain ⟨h6, h⟩ := He.ba h
  obtain ⟨h7, h⟩ := He.ba h
  obtain ⟨h8, h⟩ := He.ba h
  obtain ⟨h9, h⟩ := He.ba h
  obtain ⟨h10, h⟩ := He.ba h
  obtain ⟨h11, h⟩ := He.ba h
  obtain ⟨h12, h⟩ := He.ba h
  obtain ⟨h13, h14⟩ := He.ba h
  exact ⟨fun b k => ⟨h1, b, k, of_decide_eq_true h2, He.eqO_ok h3, He.eqO_ok h4, of_decide_eq_true h5⟩, fun s => ⟨h6, s, h7, He.eqO_ok h8⟩, He.eqO_ok h9, h10, of_decide_eq_true h11, of_decide_eq_true h12, He.eqO_ok h13, of_decide_eq_true h14⟩
/-- its code and cell -/
def excB2 (file : Str) (q x : Str) (K : Frag) : Bool := match K.lookup (iA K x) with
  | some ⟨_, _, .func g, _⟩ => decide (g.defaults = .none) && ((match g.code with
    | .ref c => PySem.W.codeIn K (.ref c) q && (match K.lookup c with
      | some ⟨_, _, .fields vs, _⟩ => (match (vs[2]? : Option Value) with
        | some (.str f _) => f == file
        | _ => false)
      | _ => false)
    | _ => false) && (match g.closure with
    | [(_, cc)] => (match K.lookup cc with
      | some ⟨_, _, .cell (some (.ref C)), _⟩ => decide (C = He.ga K x)
      | _ => false)
    | _ => false))
  | _ => false
structure DefX where
  cls : Str
  qual : Str
  params : Arguments
  body : List Stmt
  scope : Scope
abbrev FnXW := Option (Str × Str × Arguments × FuncBody × Scope × Addr × List Str × Addr)
def DefX.told (d : DefX) : FnXW := some ("__init__", d.qual, d.params, .stmts d.body, d.scope, mainGlobals, ["__class__"], builtinsNs)
def fnAtX (K : Frag) (a : Addr) : FnXW := match K.lookup a with
  | some ⟨_, _, .func g, _⟩ => some (g.name, g.qualname, g.params, g.body, g.scope, g.globals, g.closure.map (·.1), g.builtins)
  | _ => none
/-- what is raised and made by C(e) -/
structure ExcM (P : Program) (w : World) (K : Frag) (mg : Str → Option Value) (base : Heap) (C : Addr) (fld : Str) : Prop where
  ex : ∃ (B i newId : String) (bmB : List Value) (fI : Addr) (fd : FuncData) (ps : List Str), ExK K C B i newId bmB ∧ PySem.W.keepIn K (.ref C) = true ∧ PySem.W.subIn K (.ref C) (.type "BaseException") = some true ∧ PySem.W.typeIn K (.ref C) = some (.type "type") ∧
    PySem.W.findIn K (.ref C) "__init__" = some (some (.ref fI)) ∧ PySem.W.typeIn K (.ref fI) = some (.type "function") ∧ FnOk P w K mg base (L2.CX P w) 1 fI fd ps (spExc C fld) ∧ Binds K fd ps []
section
variable {X : Cx} {K : Frag} {e : Expr} {ta : TA} {p pos : Pos} {C : Addr} {x fld : Str} {j : Nat} {E : XS}
end
/-! the Hook, with exceptions -/
abbrev AlZ : Type := Bool × List He.FnW × List FnXW
def obsZ (fa : List He.Fa) (ex : List (Frag → Bool)) (fn : List DefY) (xs : List DefX) (K : Frag) : AlZ := (fa.all (fun f => f.ok K) && (ex.all (fun f => f K) && fn.all fun d => d.ok K), fn.map (fun d => fnAt K (d.adr K)), xs.map fun d => fnAtX K (iA K d.cls))
def valZ (fn : List DefY) (xs : List DefX) : AlZ := (true, fn.map DefY.told, xs.map DefX.told)
def SaysZ (fa : List He.Fa) (ex : List (Frag → Bool)) (fn : List DefY) (xs : List DefX) (K : Frag) : Prop := obsZ fa ex fn xs K = valZ fn xs
section
variable {fa : List He.Fa} {ex : List (Frag → Bool)} {fn : List DefY} {xs : List DefX} {K : Frag}
theorem SaysZ.y (c : SaysZ fa ex fn xs K) : SaysY fa ex fn K := Prod.ext (congrArg (fun z : AlZ => z.1) c) (congrArg (fun z : AlZ => z.2.1) c)
theorem SaysZ.fact (c : SaysZ fa ex fn xs K) (i : Nat) {f : He.Fa} (h : fa[i]? = some f := by rfl) : f.ok K = true := c.y.fact i h
theorem SaysZ.own (c : SaysZ fa ex fn xs K) (i : Nat) {f : Frag → Bool} (h : ex[i]? = some f := by rfl) : f K = true := c.y.own i h
theorem SaysZ.def_ (c : SaysZ fa ex fn xs K) (i : Nat) {d : DefY} (h : fn[i]? = some d := by rfl) : ∃ fd, FunD K d.name d.qual d.params d.body d.scope (d.dvs K) (d.kws K) (d.adr K) fd := c.y.def_ i h
theorem SaysZ.exc (c : SaysZ fa ex fn xs K) (i : Nat) {d : DefX} (h : xs[i]? = some d := by rfl) : fnAtX K (iA K d.cls) = d.told := by
  have e : xs.map (fun d => fnAtX K (iA K d.cls)) = xs.map DefX.told := congrArg (fun z : AlZ => z.2.2) c
  have e2 : (xs.map fun d => fnAtX K (iA K d.cls))[i]? = (xs.map DefX.told)[i]? := by rw [e]
  rw [List.getElem?_map, List.getElem?_map, h] at e2
  have e3 : some (fnAtX K (iA K d.cls)) = some d.told := e2
  exact Option.some.inj e3
end
end DL
set_option Elab.async false
set_option linter.all false
set_option maxRecDepth 100000
set_option maxHeartbeats 2000000
namespace DL
open PySem L2 PyProof.Rows
/-! ### keywords in any order, defaults left out -/
/-- the items at these places -/
def gI {α : Type} (ix : List Nat) (l : List α) : List α := ix.filterMap fun i => l[i]?
theorem denl_get {K : Frag} {F : Hp} : ∀ {l : List D} {m : List V} (i : Nat), DenL K F l m → (l[i]? = none ∧ m[i]? = none) ∨ ∃ d v, l[i]? = some d ∧ m[i]? = some v ∧ Den K F d v
  | [], m, i, h => by
    rw [show m = [] from h]
    left; simp
  | d :: l, m, 0, h => by
    obtain ⟨v, r, rfl, h1, h2⟩ := h
    right; exact ⟨d, v, rfl, rfl, h1⟩
  | d :: l, m, i + 1, h => by
    obtain ⟨v, r, rfl, h1, h2⟩ := h
    simpa using denl_get i h2
theorem denl_gI {K : Frag} {F : Hp} {l : List D} {m : List V} (h : DenL K F l m) : ∀ ix : List Nat, DenL K F (gI ix l) (gI ix m)
  | [] => rfl
  | i :: r => by
    have ih := denl_gI h r
    unfold gI at ih ⊢
    rcases denl_get i h with ⟨e1, e2⟩ | ⟨v, u, e1, e2, q⟩
    · rw [List.filterMap_cons_none e1, List.filterMap_cons_none e2]
      exact ih
    · rw [List.filterMap_cons_some e1, List.filterMap_cons_some e2]
      exact ⟨_, _, rfl, q, ih⟩
/-- a def asked by np values and the keywords ks, dvs the defaults -/
structure FmK (P : Program) (w : World) (K : Frag) (mg : Str → Option Value) (base : Heap) (k : Nat) (f : Addr) (ps : List Str) (n np : Nat) (ks : List Str) (ix : List Nat) (dvs : List V) (S : DSp) : Prop where
  ex : ∃ (fd : FuncData) (its : List Value), Vals dvs its ∧ KBn K fd ps np ks (fun us ws => gI ix (us ++ ws ++ its)) (fun vs zs => gI ix (vs ++ zs ++ dvs)) ∧ FnOk P w K mg base (L2.CX P w) k f fd ps (toSp K n S)
  kp : PySem.W.keepIn K (.ref f) = true
section
variable {P : Program} {w : World} {K : Frag} {mg : Str → Option Value} {base : Heap}
end
/-! the rules -/
def tMakeNX (C : Addr) (n m : Nat) (sp : Sp) (gV : List V → List V → List V) (E : XS) (t tk : TA) : TE := fun σ H Q => t σ H fun vs H1 => tk σ H1 fun zs H2 => vs.length = n ∧ zs.length = m ∧
  ∀ x dx, H2 x = none → H2 dx = none → dx ≠ x → sp (gV (.ref x :: vs) zs) (upd (upd H2 dx (.own x)) x (.ins C dx [])) (fun v H3 => v = .non ∧ Q (.ref x) H3) (E σ)
def tCMethNX (C : Addr) (n m : Nat) (sp : Sp) (gV : List V → List V → List V) (E : XS) (ta : TE) (t tk : TA) : TE := fun σ H Q => ta σ H fun x H0 => x = .ref C ∧ t σ H0 fun vs H1 => tk σ H1 fun zs H2 => vs.length = n ∧ zs.length = m ∧ sp (gV (.ref C :: vs) zs) H2 Q (E σ)
abbrev gV' (ix : List Nat) (dvs : List V) : List V → List V → List V := fun vs zs => gI ix (vs ++ zs ++ dvs)
section
variable {X : Cx} {K : Frag} {k j n np : Nat} {C f : Addr} {x m : Str} {ps ks : List Str} {ix : List Nat} {dvs : List V} {S : DSp} {E : XS} {pn pos apos : Pos} {e o : Expr} {es : List Expr} {kws : List Keyword} {t tk : TA} {ta : TE} {pins : List (Addr × Obj)} {σ : L2.St} {H : Hp} {s : Shared} {Q : VK} {us : List Value} {vs : List V}
/-! classmethods -/
/-! methods, of several classes -/
end
/-! over data -/
/-- a promise is asked: np values xs, the keywords' values ys, defaults -/
def askK (n : Nat) (ix : List Nat) (dvs : List V) (S : DSp) (Ξ : DL.WX) (Z : WK) (xs ys : List D) (M : Mem) : Prop := (dvs.all okV) = true ∧ (gI ix (xs ++ ys ++ dvs.map dV)).length = n ∧ S (gI ix (xs ++ ys ++ dvs.map dV)) M Z Ξ
section
variable {K : Frag} {E : XS} {Ξ : DX} {F G H : Hp} {M : Mem} {S : DSp} {n np nk : Nat} {ix : List Nat} {dvs : List V} {t tk : TA} {ta : TE} {wl wk : WA} {we : WE} {C : Addr}
end
/-! steps -/
section
variable {δ : DE} {M : Mem} {Z : WK} {S : DSp} {n np nk : Nat} {ix : List Nat} {dvs : List V} {Ξ : DX} {l u : WA} {a : WE} {C : Addr}
def kwA (np nk n : Nat) (ix : List Nat) (dvs : List V) (S : DSp) (Ξ : DL.WX) (Z : WK) (xs ts ys : List D) (M : Mem) : Prop := xs.length = np ∧ ys.length = nk ∧ askK n ix dvs S Ξ Z ts ys M
theorem g_kwA {xs ts ys : List D} {Ξ1 : DL.WX} (h1 : xs.length = np) (h2 : ys.length = nk) (h0 : (dvs.all okV) = true) (h : (gI ix (ts ++ ys ++ dvs.map dV)).length = n) (k : S (gI ix (ts ++ ys ++ dvs.map dV)) M Z Ξ1) : kwA np nk n ix dvs S Ξ1 Z xs ts ys M := ⟨h1, h2, h0, h, k⟩
def kwCmP (C : Addr) (np nk n : Nat) (ix : List Nat) (dvs : List V) (S : DSp) (Ξ : DX) (l u : WA) (δ : DE) (Z : WK) (x : D) (M : Mem) : Prop := x = .ref C ∧ l δ M fun xs M1 => u δ M1 fun ys M2 => kwA np nk n ix dvs S (Ξ δ) Z xs (.ref C :: xs) ys M2
theorem g_kwCmP (k : l δ M fun xs M1 => u δ M1 fun ys M2 => kwA np nk n ix dvs S (Ξ δ) Z xs (.ref C :: xs) ys M2) : kwCmP C np nk n ix dvs S Ξ l u δ Z (.ref C) M := ⟨rfl, k⟩
/-! try -/
def exFP (K : Frag) (f : Str) (Z : WK) (x : D) (M : Mem) : Prop := ∃ C ks l d, x = .exn C ks l ∧ ExF K C f ∧ (ks.zip l).lookup f = some d ∧ Z d M
theorem g_exf {K : Frag} {f : Str} (k : a δ M (exFP K f Z)) : wExF K a f δ M Z := k
theorem g_exfP {K : Frag} {C : Addr} {ks : List Str} {vs : List D} {f : Str} {d : D} [T : ExF K C f] (hl : (ks.zip vs).lookup f = some d) (k : Z d M) : exFP K f Z (.exn C ks vs) M := ⟨C, ks, vs, d, rfl, T, hl, k⟩
end
end DL
namespace DL
open PySem L2 PyProof.Rows
/-! facts of caught exceptions -/
def exfB (x f : Str) (K : Frag) : Bool := xfB K (He.ga K x) && He.eqO (PySem.W.findIn K (.ref (He.ga K x)) f) (some none)
theorem exfB_ok {x f : Str} {K : Frag} (h : exfB x f K = true) : ExF K (He.ga K x) f := by
  obtain ⟨h1, h2⟩ := He.ba h
  exact ⟨xfB_ok h1, He.eqO_ok h2⟩
def exiB (x : Str) (K : Frag) : Bool := He.eqO (PySem.W.findIn K (.ref (He.ga K x)) "__getattribute__") (some (some (.builtin "BaseException.__getattribute__"))) && (He.eqO (PySem.W.findIn K (.ref (He.ga K x)) "__getattr__") (some none) && (eqBo (PySem.W.subIn K (.ref (He.ga K x)) (.type "BaseException")) (some true) &&
  (PySem.W.hasDictIn K (He.ga K x) && (He.eqO (PySem.W.findIn K (.ref (He.ga K x)) "__class__") (some (some (.builtin "object.__class__"))) && (He.eqO (PySem.W.specialIn K (.builtin "object.__class__") "__get__") (some (some (.builtin "getset_descriptor.__get__"))) &&
  (eqBo (PySem.W.takesIn K (.builtin "object.__class__")) (some true) && eqBo (PySem.W.mroIn K (He.ga K x) (.type "object")) (some true)))))))
theorem exiB_ok {x : Str} {K : Frag} (h : exiB x K = true) : ExcC K (He.ga K x) := by
  obtain ⟨h1, h⟩ := He.ba h
  obtain ⟨h2, h⟩ := He.ba h
  obtain ⟨h3, h⟩ := He.ba h
  obtain ⟨h4, h⟩ := He.ba h
  obtain ⟨h5, h⟩ := He.ba h
  obtain ⟨h6, h⟩ := He.ba h
  obtain ⟨h7, h8⟩ := He.ba h
  exact ⟨He.eqO_ok h1, He.eqO_ok h2, of_decide_eq_true h3, h4, He.eqO_ok h5, He.eqO_ok h6, of_decide_eq_true h7, of_decide_eq_true h8⟩
/-! promises in E's form -/
end DL
namespace DL
open PySem L2 PyProof.Rows
theorem pe_exfK {X : Cx} {K : Frag} {e : Expr} {te : TE} {pos : Pos} {n : Str} (he : PE X e te) (hK : X.K = K := by rfl) (hb : attributeBase e n X.env (eval e X.env) = eval e X.env := by rfl) : PE X (.Attribute e n pos) (tExF K n te) := by
  subst hK
  exact pe_exf he hb
theorem call_isXK {X : Cx} {K : Frag} {r : List V → Hp → VK → Prop} (h : CallR X (.builtin "isinstance") r) (hK : X.K = K := by rfl) : CallR X (.builtin "isinstance") (rIsXO K r) := by
  subst hK
  exact call_isXO h
end DL
namespace DL
theorem g_cutN {i : Nat} {D : WEnds} {δ δ' : DE} {M : Mem} (h : δ.set i none = δ') (k : D.nx δ' M) : (cutN i D).nx δ M := by
  rw [← h] at k
  exact k
theorem g_cutR {i : Nat} {D : WEnds} {d : DL.D} {M : Mem} (k : D.rt d M) : (cutN i D).rt d M := k
end DL
namespace DL
theorem g_eqrfl {α : Type} {x : α} [h : Decidable (x = x)] {A B : Prop} (k : A) : if decide (x = x) = true then A else B := by
  rw [if_pos (decide_eq_true rfl)]
  exact k
theorem g_nerfl {α : Type} {x : α} [h : Decidable (x = x)] {A B : Prop} (k : B) : if (!decide (x = x)) = true then A else B := by
  rw [if_neg (by rw [decide_eq_true rfl]; exact Bool.false_ne_true)]
  exact k
end DL
set_option Elab.async false
set_option linter.all false
set_option maxRecDepth 100000
set_option maxHeartbeats 2000000
namespace DL
open PySem L2 PyProof.Rows
/-! ### == of the same data, empty dicts within: true -/
section
variable {X : Cx} {pins : List (Addr × Obj)} {σ : L2.St} {H : Hp} {s : Shared}
end
end DL
set_option Elab.async false
set_option linter.all false
set_option maxRecDepth 100000
set_option maxHeartbeats 2000000
namespace DL
open PySem L2 PyProof.Rows
/-! ### [] in a list of lists -/
section
variable {X : Cx} {pins : List (Addr × Obj)} {σ : L2.St} {H : Hp} {s : Shared}
end
/-! ### repr of a bool, a whole number, None, a text -/
end DL
set_option Elab.async false
set_option linter.all false
set_option maxRecDepth 100000
set_option maxHeartbeats 2000000
namespace DL
open PySem L2 PyProof.Rows
/-! ### repr of data with empty dicts -/
/-- data without parts, or the empty dict -/
def leafP : PyData → Bool
  | .none => true
  | .bool _ => true
  | .int _ => true
  | .str _ => true
  | .dict [] => true
  | _ => false
section
variable {X : Cx} {pins : List (Addr × Obj)} {σ : L2.St} {H : Hp} {s : Shared}
theorem leaf_reads (I : L2.Inv X pins σ H s) : ∀ (d : PyData) (v : V) (u : Value), leafP d = true → DpE X.K H v d → L2.RelV v u → ∃ as, Reads s.heap u d as ∧ sysModules ∉ as
  | .none, _, _, _, h, r => by
    cases h
    cases r
    exact ⟨_, Reads.none, by simp⟩
  | .bool b, _, _, _, h, r => by
    cases h
    cases r
    exact ⟨_, Reads.bool b, by simp⟩
  | .int i, _, _, _, h, r => by
    cases h
    obtain ⟨t, rfl⟩ := r
    exact ⟨_, Reads.int i t, by simp⟩
  | .str x, _, _, _, h, r => by
    cases h
    obtain ⟨t, rfl⟩ := r
    exact ⟨_, Reads.str x t, by simp⟩
  | .dict [], _, _, _, h, r => by
    cases h with
    | dic hd =>
      cases r
      obtain ⟨_, _, hs, vs, kv, o, es, ep, ho, hx, hdt, _, pr, _⟩ := (I.hok _ _ hd : ObjOk X.prog X.w H s.heap _ (.frz _ (.dK [])))
      cases kv
      have e0 : es.toList = [] := by
        match h0 : es.toList, pr with
        | [], _ => rfl
        | _ :: _, pr => cases pr
      refine ⟨_, Reads.dict (as := []) (bs := []) ho hx.1 hdt ?_ ?_, fun hm => ?_⟩
      · rw [e0]
        exact .nil
      · rw [e0]
        exact .nil
      · have e := List.mem_singleton.mp hm
        rw [← e] at hs
        simp at hs
  | .dict (_ :: _), _, _, h, _, _ => by cases h
  | .list _, _, _, h, _, _ => by cases h
  | .tuple _, _, _, h, _, _ => by cases h
theorem leaf_readsAll (I : L2.Inv X pins σ H s) : ∀ (ds : List PyData) (vs : List V) (us : List Value), ds.all leafP = true → DpEAll X.K H vs ds → Vals vs us → ∃ as, ReadsAll s.heap us ds as ∧ sysModules ∉ as
  | [], _, _, _, h, r => by
    cases h
    cases r
    exact ⟨_, ReadsAll.nil, by simp⟩
  | d :: ds, _, _, hc, h, r => by
    rw [List.all_cons, Bool.and_eq_true] at hc
    cases h with
    | cons h1 h2 =>
      cases r with
      | cons r1 r2 =>
        obtain ⟨as, q1, n1⟩ := leaf_reads I d _ _ hc.1 h1 r1
        obtain ⟨bs, q2, n2⟩ := leaf_readsAll I ds _ _ hc.2 h2 r2
        exact ⟨_, ReadsAll.cons q1 q2, fun hm => (List.mem_append.mp hm).elim n1 n2⟩
end
/-- a list whose items are read, with no table of modules among them: its text -/
theorem list_repr {prog : Program} {w : World} {A : Around} {E : Value → Shared → Prop} {s : Shared} {Q : Value → Shared → Prop} {a : Addr} {o : Obj} {vs : Array Value} {n : Nat} {xs : List PyData} {as : List Addr} (h1 : s.heap.get? a = some o) (h2 : o.cls = .type "list") (h3 : o.data = .seq vs n)
    (h4 : ReadsAll s.heap vs.toList xs as) (hn : sysModules ∉ as) (hs : (PyData.list xs).showable = true) (hg : A.guards = some []) (hu : A.units + ((PyData.list xs).depth + 1) < cLine) (hz : (PyData.list xs).shown.length ≤ sizeLine)
    (hQ : ∀ h' u tk, (∀ b o, s.heap.get? b = some o → h'.get? b = some o) → Q (.str (PyData.list xs).shown u) { s with heap := h', toks := tk }) : wpAny (model prog w) A (call (.builtin "repr") [.ref a]) Q E s := by
  have hz' : (listText (PyData.shownAll xs)).length ≤ sizeLine := by simpa only [PyData.shown] using hz
  obtain ⟨bs, hb, hk⟩ := ReprAllK.of_readsAll (prog := prog) (w := w) h4 (by simpa [PyData.showable] using hs) (fun _ => hn) (fun t ht => Nat.le_trans (listText_mem_le ht) hz')
  have hna : a ∉ bs := not_mem_of_deeper (.list h1 h2 h3 h4) (by simp only [PyData.depth]; omega) hb
  simp only [PyData.depth] at hu
  simp only [PyData.shown] at hQ
  refine call_repr_slot (T := "list") (by omega) ⟨o, h1, h2⟩ F.slot_list_repr.toG ?_
  obtain ⟨l⟩ := vs
  cases l with
  | nil =>
    have h4' : ReadsAll s.heap [] xs _ := h4
    cases h4'
    simp only [PyData.shownAll, listText_nil] at hQ
    exact call_list_repr_empty ⟨o, h1, h2⟩ h1 h3 ⟨_, _, rfl, hQ s.heap _ _ fun _ _ e => e⟩
  | cons x l =>
    exact call_list_reprK h1 h2 h3 hna (by simpa using hk.length_eq) (fun i y e => hk.item i y (by simpa using e)) hg (fun b _ => Clear.nil b) (by show A.units + 1 + _ < cLine; omega) (fun _ _ e => e) (fun h' u tk hk => ⟨_, _, rfl, hQ h' u tk hk⟩) hz'
def rReprE (K : Frag) (r : List V → Hp → VK → Prop) : List V → Hp → VK → Prop := fun xs H Q => (∃ a vs ds, xs = [.ref a] ∧ SqL K H a vs ∧ DpEAll K H vs ds ∧ ds.all leafP = true ∧ (PyData.list ds).showable = true ∧ (PyData.list ds).depth ≤ 60 ∧ (PyData.list ds).shown.length ≤ sizeLine ∧ Q (.str (PyData.list ds).shown) H) ∨ r xs H Q
theorem call_reprE {X : Cx} (hg : X.A.guards = some []) (hu : X.A.units + 64 < cLine) : CallR X (.builtin "repr") (fun xs H Q => ∃ a vs ds, xs = [.ref a] ∧ SqL X.K H a vs ∧ DpEAll X.K H vs ds ∧ ds.all leafP = true ∧ (PyData.list ds).showable = true ∧ (PyData.list ds).depth ≤ 60 ∧ (PyData.list ds).shown.length ≤ sizeLine ∧ Q (.str (PyData.list ds).shown) H) := by
  intro pins s σ H xs us Q I r h
  obtain ⟨a, vs, ds, rfl, hs, d, hc, h1, h2, h3, q⟩ := h
  obtain ⟨u, rfl, rv⟩ := vals1 r
  cases rv
  obtain ⟨its, rl, ⟨o, n, ho, hcl, _, hd⟩, _⟩ := I.list hs
  obtain ⟨as, rd, hn⟩ := leaf_readsAll I ds _ its hc d rl
  exact list_repr ho hcl hd rd hn h1 hg (by omega) h3 fun h' u tk hk => ⟨.str _, H, I.kept hk, ⟨u, rfl⟩, q⟩
theorem b_reprE {X : Cx} {K : Frag} {j : Nat} {r : List V → Hp → VK → Prop} (hg : X.A.guards = some []) (hr : Room j X.A) (h : CallR X (.builtin "repr") r) (hK : X.K = K := by rfl) : CallR X (.builtin "repr") (rReprE K r) := by
  subst hK
  exact CallR.or (call_reprE hg hr.units) h
/-- repr of a list of data without parts, empty dicts among them; or as w says -/
def wReprE (w : WC) : WC := fun xs M Q => (∃ l ds, xs = [.lst l] ∧ toPyEL l = some ds ∧ ds.all leafP = true ∧ (PyData.list ds).showable = true ∧ (PyData.list ds).depth ≤ 60 ∧ (PyData.list ds).shown.length ≤ sizeLine ∧ Q (.str (PyData.list ds).shown) M) ∨ w xs M Q
instance lf_reprE {K : Frag} {E : XS} {Ξ : DX} {r : List V → Hp → VK → Prop} {w : WC} [l : LfC K E Ξ r w] : LfC K E Ξ (rReprE K r) (wReprE w) := ⟨fun {xs M Q} h {F G H vs} s o d {R} k => by
  rcases h with ⟨l, ds, e, h1, h0, h2, h3, h4, h⟩ | h
  · subst e
    obtain ⟨v, rfl, dv⟩ := den1 d
    obtain ⟨a, ys, e, f1, g1⟩ := dv
    subst e
    exact .inl ⟨a, ys, ds, rfl, sql_ext s.sub f1, dpEL_of s.sub g1 h1, h0, h2, h3, h4, k _ M _ F H h Ext.refl s rfl⟩
  · exact .inr (l.run h s o d k)⟩
end DL
set_option Elab.async false
set_option linter.all false
set_option maxRecDepth 100000
set_option maxHeartbeats 2000000
namespace DL
open PySem L2 PyProof.Rows
/-! ### def f(a, .., *v): what is left over is a new tuple -/
def starD (np : Nat) (S : DSp) : DSp := fun xs M Q Ξ => ∃ ds0 ds, xs = ds0 ++ ds ∧ ds0.length = np ∧ ds.length ≤ sizeLine ∧ S (ds0 ++ [.tup ds]) M Q Ξ
structure FmS (P : Program) (w : World) (K : Frag) (mg : Str → Option Value) (base : Heap) (k : Nat) (f : Addr) (np : Nat) (S : DSp) : Prop where
  raw : ∀ n, FnR P w K mg base (L2.CX P w) k f (toSp K n (starD np S))
section
variable {P : Program} {w : World} {K : Frag} {mg : Str → Option Value} {base : Heap}
end
section
variable {X : Cx} {K : Frag} {k j n np : Nat} {C f p g : Addr} {x m q : Str} {S : DSp} {E : XS} {pn pos apos : Pos} {e o : Expr} {es : List Expr} {t : TA} {ta : TE} {mc : Value}
end
end DL
set_option Elab.async false
set_option linter.all false
set_option maxRecDepth 100000
set_option maxHeartbeats 2000000
namespace DL
open PySem L2 PyProof.Rows
/-! ### data that repr takes: depth, length of the text -/
structure Sh (n w : Nat) (d : D) (p : PyData) : Prop where
  py : toPy d = some p
  show_ : p.showable = true
  dep : p.depth ≤ n
  len : p.shown.length ≤ w
structure ShL (n w : Nat) (l : List D) (ps : List PyData) : Prop where
  py : toPyL l = some ps
  show_ : PyData.showableAll ps = true
  dep : PyData.depthAll ps ≤ n
  len : ((PyData.shownAll ps).map (·.length)).sum + 2 * ps.length ≤ w
theorem Sh.le {n m w v : Nat} {d : D} {p : PyData} (h : Sh n w d p) (h1 : n ≤ m) (h2 : w ≤ v) : Sh m v d p := ⟨h.py, h.show_, Nat.le_trans h.dep h1, Nat.le_trans h.len h2⟩
theorem sh_non : Sh 0 4 .non .none := ⟨rfl, rfl, by simp [PyData.depth], by decide +kernel⟩
theorem sh_bl {b : Bool} : Sh 0 5 (.bl b) (.bool b) := ⟨rfl, rfl, by simp [PyData.depth], by cases b <;> decide +kernel⟩
theorem sh_int {i : Int} {w : Nat} (h : i.natAbs.log2 < 1920) (hl : (PyData.shown (.int i)).length ≤ w) : Sh 0 w (.int i) (.int i) := ⟨rfl, by simpa only [PyData.showable, decide_eq_true_eq] using h, by simp [PyData.depth], hl⟩
theorem sh_nat {i : Int} (h0 : 0 ≤ i) (h : i < 10 ^ 60) : Sh 0 60 (.int i) (.int i) := by
  refine sh_int ?_ ?_
  · by_cases z : i.natAbs = 0
    · rw [z]
      decide
    · have e : (10 : Int) ^ 60 ≤ 2 ^ 200 := by decide
      have := (Nat.log2_lt z).mpr (by omega : i.natAbs < 2 ^ 200)
      omega
  · have := PyProof.Rows.toString_length_le (v := i) h0 (k := 60) (by decide) h
    have e : PyData.shown (.int i) = Str.ofString (toString i) := by simp [PyData.shown]
    rw [e]
    exact this
theorem sh_str {z : Str} (h : PyData.strOk z = true) : Sh 0 (10 * z.length + 2) (.str z) (.str z) := by
  refine ⟨rfl, rfl, by simp [PyData.depth], ?_⟩
  have e : PyData.shown (.str z) = reprText z := by simp only [PyData.shown]
  rw [e]
  refine StrLaws.reprText_len z fun c hc => ?_
  have := strOk_mem h hc
  omega
theorem shl_nil {n : Nat} : ShL n 0 [] [] := ⟨rfl, rfl, by simp [PyData.depthAll], by simp [PyData.shownAll]⟩
theorem shl_cons {n w v : Nat} {d : D} {p : PyData} {l : List D} {ps : List PyData} (h : Sh n w d p) (hl : ShL n v l ps) : ShL n (w + v + 2) (d :: l) (p :: ps) := by
  refine ⟨?_, ?_, ?_, ?_⟩
  · show (match toPy d, toPyL l with
      | some x, some xs => some (x :: xs)
      | _, _ => none) = _
    rw [h.py, hl.py]
  · simp only [PyData.showableAll, h.show_, hl.show_, Bool.and_self]
  · have := h.dep
    have := hl.dep
    simp only [PyData.depthAll]
    omega
  · have := h.len
    have := hl.len
    simp only [PyData.shownAll, List.map_cons, List.sum_cons, List.length_cons]
    omega
theorem sh_lst {n w : Nat} {l : List D} {ps : List PyData} (h : ShL n w l ps) : Sh (n + 1) (w + 3) (.lst l) (.list ps) := by
  refine ⟨?_, ?_, ?_, ?_⟩
  · show (toPyL l).map PyData.list = _
    rw [h.py]
    rfl
  · simpa only [PyData.showable] using h.show_
  · have := h.dep
    simp only [PyData.depth]
    omega
  · have h1 := listText_len_le (PyData.shownAll ps)
    have h2 := h.len
    have h3 := PyData.shownAll_length ps
    simp only [PyData.shown]
    omega
theorem sh_tup {n w : Nat} {l : List D} {ps : List PyData} (h : ShL n w l ps) : Sh (n + 1) (w + 3) (.tup l) (.tuple ps) := by
  refine ⟨?_, ?_, ?_, ?_⟩
  · show (toPyL l).map PyData.tuple = _
    rw [h.py]
    rfl
  · simpa only [PyData.showable] using h.show_
  · have := h.dep
    simp only [PyData.depth]
    omega
  · have h1 := tupleText_len_le (PyData.shownAll ps)
    have h2 := h.len
    have h3 := PyData.shownAll_length ps
    simp only [PyData.shown]
    omega
section
variable {M : Mem} {Z : WK}
theorem g_reprS {n w : Nat} {x : D} {p : PyData} (h : Sh n w x p) (hs : isSeq x = true) (hn : n ≤ 60) (hw : w ≤ 1000000) (k : Z (.str p.shown) M) : wRepr [x] M Z :=
  ⟨x, p, rfl, hs, h.py, h.show_, Nat.le_trans h.dep hn, Nat.le_trans h.len (Nat.le_trans hw (by rw [sizeLine_eq]; decide)), k⟩
/-- repr of a list that is the same on both sides -/
theorem g_reprES {n w : Nat} {x : D} {p : PyData} (h : Sh n w x p) (hs : isSeq x = true) (hn : n ≤ 60) (hw : w ≤ 1000000) (k : Z (.str p.shown) M) : wReprE wRepr [x] M Z := .inr (g_reprS h hs hn hw k)
/-- a list of data without parts, {} among them -/
structure LfL (w : Nat) (l : List D) (ps : List PyData) : Prop where
  py : toPyEL l = some ps
  leaf : ps.all leafP = true
  show_ : PyData.showableAll ps = true
  dep : PyData.depthAll ps ≤ 1
  len : ((PyData.shownAll ps).map (·.length)).sum + 2 * ps.length ≤ w
theorem lfl_nil : LfL 0 [] [] := ⟨rfl, rfl, rfl, by simp [PyData.depthAll], by simp [PyData.shownAll]⟩
theorem lfl_cons {w v : Nat} {d : D} {p : PyData} {l : List D} {ps : List PyData} (h : Sh 0 w d p) (hf : leafP p = true) (hl : LfL v l ps) : LfL (w + v + 2) (d :: l) (p :: ps) := by
  refine ⟨?_, ?_, ?_, ?_, ?_⟩
  · show (match toPyE d, toPyEL l with
      | some x, some xs => some (x :: xs)
      | _, _ => none) = _
    rw [toPyE_of h.py, hl.py]
  · rw [List.all_cons, hf, hl.leaf]
    rfl
  · simp only [PyData.showableAll, h.show_, hl.show_, Bool.and_self]
  · have := h.dep
    have := hl.dep
    simp only [PyData.depthAll]
    omega
  · have := h.len
    have := hl.len
    simp only [PyData.shownAll, List.map_cons, List.sum_cons, List.length_cons]
    omega
theorem lfl_dic {v : Nat} {l : List D} {ps : List PyData} (hl : LfL v l ps) : LfL (2 + v + 2) (.dic [] [] :: l) (.dict [] :: ps) := by
  refine ⟨?_, ?_, ?_, ?_, ?_⟩
  · show (match toPyE (.dic [] []), toPyEL l with
      | some x, some xs => some (x :: xs)
      | _, _ => none) = _
    rw [hl.py]
    rfl
  · rw [List.all_cons, hl.leaf]
    rfl
  · simp only [PyData.showableAll, PyData.showable, PyData.showableKv, hl.show_, Bool.and_self]
  · have := hl.dep
    simp only [PyData.depthAll, PyData.depth, PyData.depthKv]
    omega
  · have := hl.len
    have e : (PyData.shown (.dict [])).length ≤ 2 := by decide +kernel
    simp only [PyData.shownAll, List.map_cons, List.sum_cons, List.length_cons]
    omega
theorem g_reprEL {w : Nat} {l : List D} {ps : List PyData} (h : LfL w l ps) (hw : w ≤ 1000000) (k : Z (.str (PyData.shown (.list ps))) M) : wReprE wRepr [.lst l] M Z := by
  refine .inl ⟨l, ps, rfl, h.py, h.leaf, ?_, ?_, ?_, k⟩
  · simpa only [PyData.showable] using h.show_
  · have := h.dep
    simp only [PyData.depth]
    omega
  · have h1 := listText_len_le (PyData.shownAll ps)
    have h2 := h.len
    have h3 := PyData.shownAll_length ps
    rw [sizeLine_eq]
    simp only [PyData.shown]
    omega
end
end DL
namespace DL
open PySem L2
end DL
set_option Elab.async false
set_option linter.all false
set_option maxRecDepth 100000
set_option maxHeartbeats 2000000
/-! sets of keys (ints, texts) that are made of a list, counted, sorted -/
namespace L2
open PySem PySem.Spec PyProof.Rows
def keyV (v : Value) : Key := match v with | .int i _ => .inl i | .str x _ => .inr x | _ => .inl 0
def kyE (e : Int × Value) : Key := keyV e.2
def GoodK (w : World) (e : Int × Value) : Prop := ∃ k, RelV (kV k) e.2 ∧ e.1 = keyH w k
def SetRK (w : World) (h : Heap) (a : Addr) (S : Key → Bool) (n : Nat) : Prop :=
  ∃ o es ep t, h.get? a = some o ∧ o.ExactSet ∧ o.data = .set es ep t ∧ (∀ e ∈ es.toList, GoodK w e) ∧ (es.toList.map kyE).Nodup ∧ (∀ k, S k = true ↔ k ∈ es.toList.map kyE) ∧
    es.size < scanBound ∧ t.fits es.size = true ∧ es.size = n ∧ Ris t.place.toList ∧ (w.params.followText "set-order" = true ∨ t.led = true)
section
variable {P : Program} {w : World} {h h' : Heap} {a : Addr} {S : Key → Bool} {n : Nat}
theorem SetRK.at (R : SetRK w h a S n) (k : ∀ o, h.get? a = some o → h'.get? a = some o) : SetRK w h' a S n := by
  obtain ⟨o, es, ep, t, ho, r⟩ := R
  exact ⟨o, es, ep, t, k o ho, r⟩
end
section
variable {P : Program} {w : World} {A : Around} {E : Value → Shared → Prop} {s : Shared} {a : Addr} {S : Key → Bool} {n : Nat}
end
section
variable {P : Program} {w : World} {A : Around} {E : Value → Shared → Prop} {s : Shared}
set_option maxRecDepth 100000 in
set_option maxHeartbeats 3200000 in
set_option maxRecDepth 100000 in
set_option maxHeartbeats 3200000 in
end
/-! what stands at an address: a set of keys -/
section
variable {X : Cx}
end
/-! sorted(s), len(s) -/
section
variable {P : Program} {w : World} {A : Around} {E : Value → Shared → Prop} {s : Shared} {a : Addr}
end
section
variable {X : Cx}
end
end L2
set_option Elab.async false
set_option linter.all false
set_option maxRecDepth 100000
set_option maxHeartbeats 2000000
namespace DL
open PySem L2 PyProof.Rows
/-! ### sorted(set(l)), len(set(l)); sorted of any length -/
section
variable {X : Cx} {K : Frag} {w : World}
end
section
variable {K : Frag} {E : XS} {Ξ : DX} {F G H : Hp} {M : Mem} {x : D} {v : V} {ds : List D}
end
/-! sorted of texts or ints, any length -/
section
variable {X : Cx} {K : Frag}
end
section
variable {K : Frag} {E : XS} {Ξ : DX}
end
/-! ### dict comprehensions -/
section
variable {K : Frag} {E : XS} {Ξ : DX} {t : TT} {tk tv : TE} {wt : WT} {wk wv : WE}
end
section
variable {K : Frag} {E : XS} {Ξ : DX} {t : TT} {tk tv : TE} {wt : WT} {wk wv : WE}
end
/-! ### list(d), dict(d), d.get, d.pop -/
section
variable {X : Cx} {K : Frag} {E : XS} {Ξ : DX}
end
section
variable {X : Cx} {o e f : Expr} {td ty tx : TE} {apos cpos : Pos} {j : Nat}
end
end DL
set_option Elab.async false
set_option linter.all false
set_option maxRecDepth 100000
set_option maxHeartbeats 2000000
namespace DL
open PySem L2 PyProof.Rows
section
variable {δ : DE} {M : Mem} {Z : WK} {ZL : List D → Mem → Prop} {ZB : Bool → Mem → Prop}
end
end DL
set_option Elab.async false
set_option linter.all false
set_option maxRecDepth 100000
set_option maxHeartbeats 2000000
namespace DL
open PySem L2 PyProof.Rows
/-! ### a promise that is never asked: the start of a recursion -/
section
variable {P : Program} {w : World} {K : Frag} {mg : Str → Option Value} {base : Heap}
end
/-! ### -x by an own __neg__ -/
section
variable {X : Cx} {CX : CXT} {Cs : List Addr} {f : Addr} {n k j : Nat} {sp : Sp}
theorem UnR.or {f : Value → Sem Value} {r r' : V → Hp → VK → Prop} (h : UnR X f r) (h' : UnR X f r') : UnR X f (fun x H Q => r x H Q ∨ r' x H Q) := fun pins s σ H x v Q I rx g => g.elim (h pins s σ H x v Q I rx) (h' pins s σ H x v Q I rx)
end
section
variable {K : Frag} {E : XS} {Ξ : DX} {Cs : List Addr} {S : DSp}
end
/-! ### f-strings of texts and ints -/
def wJs : List WE → Str → DE → Mem → (Str → Mem → Prop) → Prop
  | [], acc, _, M, Q => Q acc M
  | w :: ws, acc, δ, M, Q => w δ M fun x M1 => ∃ y : Str, x = .str y ∧ (acc ++ y).length ≤ sizeLine ∧ wJs ws (acc ++ y) δ M1 Q
section
variable {K : Frag} {E : XS} {Ξ : DX} {te : TE} {we : WE}
class LfJs (K : Frag) (E : XS) (Ξ : DX) (ts : List TE) (ws : outParam (List WE)) : Prop where
  run : ∀ {acc : Str} {δ : DE} {M : Mem} {Q : Str → Mem → Prop}, wJs ws acc δ M Q → ∀ {σ : L2.St} {F G H : Hp}, EnvOk K F δ σ → Sat K F M G H → EOk K F G Ξ E → ∀ {R : Str → Hp → Prop}, (∀ out M' F' H', Q out M' → Ext F F' → Sat K F' M' G H' → R out H') → tJs ts acc σ H R
instance lf_jsNil : LfJs K E Ξ [] [] := ⟨fun {_ _ _ _} h {_ F _ H} _ s _ {_} k => k _ _ F H h Ext.refl s⟩
instance lf_jsCons {t : TE} {ts : List TE} {w : WE} {ws : List WE} [a : LfE K E Ξ t w] [b : LfJs K E Ξ ts ws] : LfJs K E Ξ (t :: ts) (w :: ws) := ⟨fun {acc δ M Q} h {σ F G H} e s o {R} k =>
  a.run h e s o fun x M1 v F1 H1 ⟨y, ex, hy, h1⟩ x1 s1 d1 => by
    subst ex
    cases d1
    exact ⟨y, rfl, hy, b.run h1 (e.ext x1) s1 (o.ext x1) fun out M2 F2 H2 h2 x2 s2 => k out M2 F2 H2 h2 (x1.trans x2) s2⟩⟩
end
section
variable {δ : DE} {M : Mem} {Z : WK}
def jsP (acc : Str) (ws : List WE) (δ : DE) (ZS : Str → Mem → Prop) (x : D) (M1 : Mem) : Prop := ∃ y : Str, x = .str y ∧ (acc ++ y).length ≤ sizeLine ∧ wJs ws (acc ++ y) δ M1 ZS
theorem g_jsNil {acc : Str} {ZS : Str → Mem → Prop} (k : ZS acc M) : wJs [] acc δ M ZS := k
theorem g_jsCons {acc : Str} {w : WE} {ws : List WE} {ZS : Str → Mem → Prop} (k : w δ M (jsP acc ws δ ZS)) : wJs (w :: ws) acc δ M ZS := k
end
end DL
set_option Elab.async false
set_option linter.all false
set_option maxRecDepth 100000
set_option maxHeartbeats 2000000
/-! ### zip of a tuple and a list, walked by two names -/
namespace PySem
section
variable {prog : Program} {w : World} {A : Around} {E : Value → Shared → Prop} {s : Shared}
variable {z TI TO i1 i2 l1 l2 : Addr} {k1 k2 : Nat} {xs ys : Array Value} {g x y a b : Value} {f : Bool}
end
end PySem
namespace DL
open PySem PySem.Spec PyProof.Rows L2
section
variable {X : Cx} {K : Frag}
end
section
variable {K : Frag} {E : XS} {Ξ : DX} {tl : TA} {wl : WA}
end
section
variable {δ : DE} {ZL : List D → Mem → Prop} {M : Mem}
end
end DL
set_option Elab.async false
set_option linter.all false
set_option maxRecDepth 100000
set_option maxHeartbeats 2000000
/-! ### a text times an int -/
namespace DL
open PySem PySem.Spec PyProof.Rows L2
end DL
set_option Elab.async false
set_option linter.all false
set_option maxRecDepth 100000
set_option maxHeartbeats 2000000
namespace DL
open PySem L2 PyProof.Rows
/-! ### keyword-only parameters -/
/-- a def with keyword-only parameters; ps: all parameters -/
structure FmW (P : Program) (w : World) (K : Frag) (mg : Str → Option Value) (base : Heap) (k : Nat) (f : Addr) (m q : Str) (st : Stmt) (ps : List Str) (n : Nat) (dvs : List V) (kws : List (Str × V)) (S : DSp) : Prop where
  ex : ∃ fd, FunD K m q (defArgs st) (defBody st) (defScope st) dvs kws f fd ∧ FnOk P w K mg base (L2.CX P w) k f fd ps (toSp K n S)
section
variable {P : Program} {w : World} {K : Frag} {mg : Str → Option Value} {base : Heap}
end
/-! ### instances called -/
/-- the class and its subclasses have this __call__ -/
structure CallF (K : Frag) (Cs : List Addr) (f : Addr) : Prop where
  at_ : ∀ C ∈ Cs, StX.CallO K C f
section
variable {X : Cx} {K : Frag} {k j n np : Nat} {C f : Addr} {x m : Str} {ps ks : List Str} {ix : List Nat} {dvs : List V} {S : DSp} {E : XS} {E1 : XK} {pn pos : Pos} {e : Expr} {es : List Expr} {kws : List Keyword} {t tk : TA} {tf : TE} {pins : List (Addr × Obj)} {σ : L2.St} {H : Hp} {s : Shared} {Q : VK} {us ws : List Value} {vs zs : List V} {Cs : List Addr}
end
section
variable {K : Frag} {E : XS} {Ξ : DX} {F G H : Hp} {M : Mem} {S : DSp} {n np nk : Nat} {ix : List Nat} {dvs : List V} {t tk : TA} {ta : TE} {wl wk : WA} {we : WE} {Cs : List Addr}
end
section
variable {δ : DE} {M : Mem} {Z : WK} {S : DSp} {n np nk : Nat} {ix : List Nat} {dvs : List V} {Ξ : DX} {l u : WA} {a : WE} {Cs : List Addr}
end
/-! ### is of truth values -/
/-! ### fields stored, step by step -/
section
variable {K : Frag} {δ : DE} {M : Mem} {W : WEnds} {wo wv : WE} {f : Str}
def setQ (K : Frag) (f : Str) (y : D) (W : WEnds) (δ : DE) (x : D) (M2 : Mem) : Prop := ∃ p φ, x = .ref p ∧ M2 p = some φ ∧ ∀ mb, φ mb → ∃ C fs, mb = .ins C fs ∧ Fld K C f ∧ fs.length < 1000 ∧ W.nx δ (mset M2 p (· = .ins C (putFD f y fs)))
theorem g_setF (k : wv δ M fun y M1 => wo δ M1 (setQ K f y W δ)) : wSetF K wo wv f W δ M := k
end
/-! ### displays of dicts, step by step -/
section
variable {δ : DE} {M : Mem} {Z : WK}
def dspP (Z : WK) (ps : List (D × D)) (M1 : Mem) : Prop := ∃ kvs, keysOf ps = some kvs ∧ ps.length ≤ 15 ∧ Z (.dic ((mergeD [] kvs).map Prod.fst) ((mergeD [] kvs).map Prod.snd)) M1
def dspC (Z : WK) (ps : List (D × D)) (M1 : Mem) : Prop := ∃ kvs, keysOf ps = some kvs ∧ ps.length ≤ 15 ∧ ∀ p, M1 p = none → Z (.ref p) (mset M1 p (· = .dic (mergeD [] kvs)))
theorem g_disp {ws : List (WE × WE)} (k : wPairs ws δ M (dspP Z)) : wDisp ws δ M Z := k
theorem g_dispC {ws : List (WE × WE)} (k : wPairs ws δ M (dspC Z)) : wDispC ws δ M Z := k
theorem g_prN {Q : List (D × D) → Mem → Prop} (k : Q [] M) : wPairs [] δ M Q := k
theorem g_prC {wk wv : WE} {r : List (WE × WE)} {Q : List (D × D) → Mem → Prop} (k : wk δ M fun x M1 => wv δ M1 fun y M2 => wPairs r δ M2 fun ps M3 => Q ((x, y) :: ps) M3) : wPairs ((wk, wv) :: r) δ M Q := k
end
/-! ### index of a list of texts, step by step -/
section
variable {δ : DE} {M : Mem} {Z : WK} {w : D → List D → Mem → WK → Prop} {wo : WE} {wl : WA}
def mlP (w : D → List D → Mem → WK → Prop) (wl : WA) (δ : DE) (Z : WK) (x : D) (M1 : Mem) : Prop := (∃ l, LstAt M1 x l) ∧ wl δ M1 fun xs M2 => w x xs M2 Z
theorem g_ml (k : wo δ M (mlP w wl δ Z)) : wMl w wo wl δ M Z := k
theorem g_mlL {l : List D} (k : wl δ M fun xs M2 => w (.lst l) xs M2 Z) : mlP w wl δ Z (.lst l) M := ⟨⟨l, by first | exact .inl rfl | rfl⟩, k⟩
end
end DL
set_option Elab.async false
set_option linter.all false
set_option maxRecDepth 100000
set_option maxHeartbeats 2000000
namespace DL
open PySem L2 PyProof.Rows
/-! ### a slot's cell is data from now on -/
theorem EnvOk.same {K : Frag} {F : Hp} {δ : DE} {σ : L2.St} (h : EnvOk K F δ σ) {i : Nat} {d : D} {v : V} (e : σ[i]? = some (some v)) (q : Den K F d v) : EnvOk K F (δ.set i (some d)) σ := by
  have l := (List.getElem?_eq_some_iff.mp e).1
  refine ⟨by rw [List.length_set, h.len], fun j d' e' => ?_⟩
  by_cases z : i = j
  · subst z
    rw [List.getElem?_set_self (by rw [h.len]; exact l)] at e'
    cases e'
    exact ⟨v, e, q⟩
  · rw [List.getElem?_set_ne z] at e'
    exact h.at_ j d' e'
section
variable {K : Frag} {E : XS} {Ξ : DX} {ts : TS} {ws : WS} {j : Nat}
end
section
variable {K : Frag} {E : XS} {Ξ : DX} {ts : TS} {ws : WS} {j : Nat}
end
section
variable {D : WEnds} {δ : DE} {M : Mem} {W : WS} {j : Nat} {p : Addr}
end
/-! ### what stands at a place is set, step by step -/
section
variable {δ : DE} {M : Mem} {wo wi : WE} {t : WSet} {x : D} {Q : DE → Mem → Prop} {R : Mem → Prop} {p : Addr}
theorem g_gsub (k : wo δ M fun o M1 => wi δ M1 fun i M2 => t o i x M2 fun M3 => Q δ M3) : wGSub wo wi t x δ M Q := k
end
/-! ### tuples of whole numbers and texts compared -/
section
variable {K : Frag} {E : XS} {Ξ : DX}
end
end DL
set_option Elab.async false
set_option linter.all false
set_option maxRecDepth 100000
set_option maxHeartbeats 2000000
/-! ### lists compared by what their items' own == says: the loop -/
namespace GQN
open PySem PySem.SeqAt GQ
open AutoSeq1 (wpAny_loadPart')
open MeetsSeq MeetsSeq2 MeetsSeq3 SeqRoads2
section
variable {prog : Program} {w : World} {A : Around} {R : Result → Shared → Prop}
end
section
variable {prog : Program} {w : World} {A : Around} {E : Value → Shared → Prop} {s : Shared}
end
end GQN
namespace DL
open PySem L2 PyProof.Rows
/-! ### != of own classes of a family, by their == alone -/
section
open PySem.W
variable {prog : Program} {w : World} {A : Around} {E : Value → Shared → Prop} {s : Shared} {K : Frag} {x y C D L f : Addr} {h₀ : Heap} {mm : Str → Option Value} {ox oy : Obj} {od odY : Option Obj}
end
structure NeF (K : Frag) (Cs : List Addr) : Prop where
  at_ : ∀ C ∈ Cs, NeC K C
section
variable {X : Cx} {K : Frag} {k j n : Nat} {f : Addr} {m q : Str} {st : Stmt} {ps : List Str} {S : DSp} {E : XK} {Cs : List Addr} {CX : CXT} {sp : Sp}
/-! in the head's words -/
end
/-! over data -/
section
variable {K : Frag} {E : XS} {Ξ : DX} {S : DSp} {Cs : List Addr}
end
section
variable {K : Frag} {M : Mem} {Z : WK} {S : DSp} {Cs : List Addr} {w : WR2} {C D : Addr} {ks ls : List Str} {l r : List DL.D}
end
section
variable {K : Frag} {M : Mem} {Z : WK} {S : DSp} {Cs : List Addr} {w : WR2} {C : Addr} {ks : List Str} {l : List DL.D} {y : DL.D}
end
end DL
set_option Elab.async false
set_option linter.all false
set_option maxRecDepth 100000
set_option maxHeartbeats 2000000
namespace DL
open PySem L2 PyProof.Rows
/-! ### a field as a target among several -/
section
variable {K : Frag} {E : XS} {Ξ : DX}
end
/-! ### x.partition(y) -/
section
variable {X : Cx} {o e : Expr} {apos cpos : Pos} {to : TE} {t : TA} {K : Frag}
end
section
variable {K : Frag} {E : XS} {Ξ : DX}
end
end DL
set_option Elab.async false
set_option linter.all false
set_option maxRecDepth 100000
namespace DL
open PySem L2 PyProof.Rows
/-! the Hook over a given list of addresses (no search, no duplicates to be left out: much less memory) -/
def asR (n : Nat) : List Addr := mainGlobals :: cStatics :: (List.range n).reverse
def hookL (n : Nat) (fa : List He.Fa) (ex : List (Frag → Bool)) (fn : List DefY) (xs : List DefX) : PySem.W.Hook where
  α := AlZ
  obs := fun s => obsZ fa ex fn xs (He.frG s.heap.get? (asR n))
  val := fun _ => valZ fn xs
  says := fun _ h => ∃ K : Frag, K.In h ∧ SaysZ fa ex fn xs K
  of := fun _ _ e => ⟨_, He.frG_in, e⟩
  keeps := fun _ _ _ ⟨K, hK, c⟩ k => ⟨K, PySem.W.Frag.In.keeps hK k, c⟩
theorem obsL_eq {n : Nat} {fa : List He.Fa} {ex : List (Frag → Bool)} {fn : List DefY} {xs : List DefX} {g : Addr → Option Obj} {s : Shared} (h : ∀ a, g a = s.heap.get? a) : obsZ fa ex fn xs (He.frG g (asR n)) = (hookL n fa ex fn xs).obs s := by
  have e : g = s.heap.get? := funext h
  rw [e] <;> rfl
/-- looks at one end, each by itself -/
theorem map_three {α β γ δ : Type} {o : Option α} {a : α → β} {b : α → γ} {c : α → δ} {x : β} {y : γ} {z : δ} (h1 : o.map a = some x) (h2 : o.map b = some y) (h3 : o.map c = some z) : o.map (fun s => (a s, b s, c s)) = some (x, y, z) := by
  cases o with
  | none => cases h1
  | some s =>
    cases h1
    cases h2
    cases h3
    rfl
end DL
set_option Elab.async false
set_option linter.all false
set_option maxRecDepth 100000
set_option maxHeartbeats 2000000
namespace DL
open PySem L2 PyProof.Rows
/-! ### len(set(l)) -/
section
variable {α : Type} [DecidableEq α]
end
section
variable {X : Cx} {K : Frag} {w : World}
end
section
variable {K : Frag} {E : XS} {Ξ : DX}
end
end DL
set_option Elab.async false
set_option linter.all false
set_option maxRecDepth 100000
set_option maxHeartbeats 2000000
namespace DL
open PySem L2 PyProof.Rows
/-! ### cls(..) in a classmethod: a class in a slot is called -/
section
variable {X : Cx} {K : Frag} {E : XS} {k j i n : Nat} {f C : Addr} {m q x : Str} {st : Stmt} {ps : List Str} {S : DSp} {pn pos : Pos} {e : Expr} {es : List Expr} {t : TA}
end
section
variable {K : Frag} {E : XS} {Ξ : DX} {tl : TA} {wl : WA}
end
end DL
set_option Elab.async false
set_option linter.all false
set_option maxRecDepth 100000
set_option maxHeartbeats 2000000
namespace DL
open PySem PySem.Spec L2 PyProof.Rows LamX
/-! ### lambdas without parameters that are handed to a def -/
/-- a table of code objects that bear one name; each that it tells is known -/
def TabR (q : Str) (F : Hp) (ho : HO) : Prop := ∃ ps : Array Value, ho = .tbl ps ∧ TriplesOk ps.toList ∧ ∀ (pos : Pos) (cv : Value), codeAmong pos ps.toList = some cv → ∃ c, cv = .ref c ∧ F c = some (CodeO c q)
theorem TabR.mono {q : Str} (F F' : Hp) (ho : HO) (e : Ext F F') (h : TabR q F ho) : TabR q F' ho := by
  obtain ⟨ps, h1, h2, h3⟩ := h
  refine ⟨ps, h1, h2, fun pos cv hc => ?_⟩
  obtain ⟨c, e1, e2⟩ := h3 pos cv hc
  exact ⟨c, e1, e _ _ e2⟩
section
variable {X : Cx} {pins : List (Addr × Obj)} {σ : L2.St} {H : Hp} {s : Shared}
/-! x(), in the def that got the lambda -/
def tAct (f c' : Addr) (q : Str) (tl : XK → Hp → VK → Prop) (Es : XS) : TE := fun σZ HZ Q => σZ[0]? = some (some (.ref f)) ∧ HZ c' = some (CodeO c' q) ∧ tl (Es σZ) HZ Q
end
/-! over data -/
abbrev DTh := Mem → WK → DL.WX → Prop
/-- the lambda's reading, lifted, from F0 on -/
def ThunkOk (K : Frag) (F0 : Hp) (T : DTh) (tl : XK → Hp → VK → Prop) : Prop := ∀ (F G H : Hp) (M : Mem) (Q : WK) (Ξ : DL.WX) (E : XK), Ext F0 F → T M Q Ξ → Sat K F M G H → EOk1 K F G Ξ E → ∀ (R : VK), (∀ d M' v F' H', Q d M' → Ext F F' → Sat K F' M' G H' → Den K F' d v → R v H') → tl E H R
def thkR (K : Frag) (f c' : Addr) (q : Str) (T : DTh) (tl : XK → Hp → VK → Prop) : Hp → V → Prop := fun F v => v = .ref f ∧ F c' = some (CodeO c' q) ∧ ThunkOk K F T tl
def thkD (K : Frag) (f c' : Addr) (q : Str) (T : DTh) (tl : XK → Hp → VK → Prop) : D := .oth (thkR K f c' q T tl) fun F F' v e ⟨h1, h2, h3⟩ => ⟨h1, e _ _ h2, fun F2 G H M Q Ξ E x => h3 F2 G H M Q Ξ E (Ext.trans e x)⟩
/-- T: for the instance alone -/
def tActP (_ : DTh) (f c' : Addr) (q : Str) (tl : XK → Hp → VK → Prop) (Es : XS) : TE := tAct f c' q tl Es
/-- a def with one parameter, a lambda that it calls -/
structure FnT (P : Program) (w : World) (K : Frag) (mg : Str → Option Value) (base : Heap) (k : Nat) (x : Str) (a : Str) (S : DTh → Mem → WK → Prop) : Prop where
  ex : ∃ (st : Stmt) (N : List Str) (g : Addr) (fd : FuncData) (W : D → DTh → DL.WX → WS), mg x = some (.ref g) ∧ FunD K x x (defArgs st) (defBody st) (defScope st) [] [] g fd ∧ FnScope N [a] (defScope st) ∧ N[0]? = some a ∧ Vis (defScope st) a ∧
    (∀ (s : Shared) (u : Value), BindsTo s fd ⟨[u], []⟩ [(a, u)]) ∧
    (∀ (cdv : Value) (A : Around) (outer : List Env) (s : Shared) (H : Hp) (q : Str) (f c' : Addr) (T : DTh) (tl : XK → Hp → VK → Prop), Room k (A.deeper (envOfC x (defScope st) s.heap.objs.size g cdv)) →
      (∀ (pn : List (Addr × Obj)) (xe : Value → Shared → Prop) (Es : XS) (p1 p2 : Pos), PassesS (L2.CX P w) ((cxOf (L2.CX P w) P w K mg base N x (defScope st) g cdv A outer s H E0).tr pn xe) Es → PE ((cxOf (L2.CX P w) P w K mg base N x (defScope st) g cdv A outer s H E0).tr pn xe) (.Call (.Name a p1) [] [] p2) (tActP T f c' q tl Es)) →
      ∃ t, PSs (cxOf (L2.CX P w) P w K mg base N x (defScope st) g cdv A outer s H E0) (defBody st) t ∧ ∀ Ξ, LfS K (kE E0) (kX Ξ) t (W (thkD K f c' q T tl) T Ξ)) ∧
    ∀ (th : D) (T : DTh) (M : Mem) (Qd : WK), S T M Qd → W th T (weakX fun _ _ => False) { nx := fun _ M => weakK Qd .non M, rt := weakK Qd } (startD N [th]) M
section
variable {X : Cx} {K : Frag}
end
end DL
set_option Elab.async false
set_option linter.all false
set_option maxRecDepth 100000
set_option maxHeartbeats 2000000
namespace DL
open PySem PySem.Spec L2 PyProof.Rows LamX
/-! ### the head: what is written, without the tables of code objects -/
/-! ### the law's def is called on the script; the tables stand empty -/
end DL
set_option Elab.async false
set_option linter.all false
set_option maxRecDepth 100000
set_option maxHeartbeats 2000000
namespace DL
open PySem PySem.Spec L2 PyProof.Rows LamX
section
variable {P : Program} {w : World} {K : Frag} {mg : Str → Option Value} {base : Heap}
end
section
end
section
end
end DL
set_option Elab.async false
set_option linter.all false
set_option maxRecDepth 100000
set_option maxHeartbeats 2000000
namespace DL
open PySem PySem.Spec L2 PyProof.Rows
/-! ### staticmethods, read off their class -/
/-- C.m is a staticmethod: its record at p, its def at g -/
structure SMet (K : Frag) (C : Addr) (mc : Value) (m : Str) (p g : Addr) : Prop where
  at_ : PySem.W.findCls K (.ref C) mc m = some (.get (.builtin "staticmethod.__get__") (.ref p) .none (.ref C))
  rc : ∃ rest, PySem.W.recIn K p "staticmethod" = some (.ref g :: rest)
section
variable {X : Cx} {K : Frag} {k j n np : Nat} {C f g p : Addr} {mc : Value} {q m : Str} {st : Stmt} {ps ks : List Str} {ix : List Nat} {dvs : List V} {S : DSp} {E : XS} {pos apos : Pos} {e o : Expr} {es : List Expr} {kws : List Keyword} {t tk : TA} {ta : TE} {pins : List (Addr × Obj)} {σ : L2.St} {H : Hp} {s : Shared}
end
section
variable {K : Frag} {E : XS} {Ξ : DX} {S : DSp} {n np nk : Nat} {ix : List Nat} {dvs : List V} {t tk : TA} {ta : TE} {wl wk : WA} {we : WE} {C : Addr}
end
/-! steps -/
section
variable {δ : DE} {M : Mem} {Z : WK} {C : Addr} {np nk n : Nat} {ix : List Nat} {dvs : List V} {S : DSp} {Ξ : DX} {a : WE} {l u : WA}
def smP (C : Addr) (n : Nat) (S : DSp) (Ξ : DX) (l : WA) (δ : DE) (Z : WK) (x : D) (M : Mem) : Prop := x = .ref C ∧ l δ M (smA n S (Ξ δ) Z)
where
  smA (n : Nat) (S : DSp) (Ξ : DL.WX) (Z : WK) (xs : List D) (M : Mem) : Prop := xs.length = n ∧ S xs M Z Ξ
theorem g_smethP (k : l δ M (smP.smA n S (Ξ δ) Z)) : smP C n S Ξ l δ Z (.ref C) M := ⟨rfl, k⟩
theorem g_smethA {xs : List D} {Ξ1 : DL.WX} (h : xs.length = n) (k : S xs M Z Ξ1) : smP.smA n S Ξ1 Z xs M := ⟨h, k⟩
def kwSmP (C : Addr) (np nk n : Nat) (ix : List Nat) (dvs : List V) (S : DSp) (Ξ : DX) (l u : WA) (δ : DE) (Z : WK) (x : D) (M : Mem) : Prop := x = .ref C ∧ l δ M fun xs M1 => u δ M1 fun ys M2 => kwA np nk n ix dvs S (Ξ δ) Z xs xs ys M2
theorem g_kwSmP (k : l δ M fun xs M1 => u δ M1 fun ys M2 => kwA np nk n ix dvs S (Ξ δ) Z xs xs ys M2) : kwSmP C np nk n ix dvs S Ξ l u δ Z (.ref C) M := ⟨rfl, k⟩
end
end DL
namespace DL
open PySem L2 PyProof.Rows
/-! the head's look at the tables -/
end DL
namespace DL
open PySem PySem.Spec L2 PyProof.Rows
/-! ### < of tuples within tuples, of whole numbers and texts -/
section
variable {X : Cx} {pins : List (Addr × Obj)} {σ : L2.St} {H : Hp} {s : Shared}
end
end DL
set_option Elab.async false
set_option linter.all false
set_option maxRecDepth 100000
set_option maxHeartbeats 2000000
/-! ### zip of two lists or tuples, walked by two names -/
namespace PySem
/-- a list (false) or a tuple (true); its iterator -/
def SeqK : Bool → Heap → Addr → Array Value → Prop
  | false, h, l, xs => h.IsList l xs
  | true, h, l, xs => h.IsTuple l xs
def IterK : Bool → Heap → Addr → Addr → Nat → Prop
  | false, h, i, l, k => h.IsListIter i l k
  | true, h, i, l, k => h.IsTupleIter i l k
theorem SeqK.at {b : Bool} {h h' : Heap} {l : Addr} {xs : Array Value} (m : SeqK b h l xs) (e : ∀ o, h.get? l = some o → h'.get? l = some o) : SeqK b h' l xs := by
  cases b
  · exact Heap.IsList.at m e
  · exact Heap.IsTuple.at m e
theorem IterK.at {b : Bool} {h h' : Heap} {i l : Addr} {k : Nat} (m : IterK b h i l k) (e : ∀ o, h.get? i = some o → h'.get? i = some o) : IterK b h' i l k := by
  cases b
  · exact Heap.IsListIter.at m e
  · exact Heap.IsTupleIter.at m e
theorem IterK.obj {b : Bool} {h : Heap} {i l : Addr} {k : Nat} (m : IterK b h i l k) : ∃ o, h.get? i = some o ∧ ∀ v, o.data ≠ .cell v := by
  cases b
  · obtain ⟨o, e, _, d⟩ := m
    exact ⟨o, e, fun v q => by rw [d] at q; cases q⟩
  · obtain ⟨o, e, _, d⟩ := m
    exact ⟨o, e, fun v q => by rw [d] at q; cases q⟩
section
variable {prog : Program} {w : World} {A : Around} {E : Value → Shared → Prop} {s : Shared}
variable {z TI TO i1 i2 l1 l2 : Addr} {k1 k2 : Nat} {xs ys : Array Value} {g x y a b : Value} {f b1' b2' : Bool}
end
end PySem
namespace DL
open PySem PySem.Spec PyProof.Rows L2
section
variable {X : Cx} {pins : List (Addr × Obj)} {σ : L2.St} {H : Hp} {s : Shared}
end
section
variable {X : Cx} {K : Frag}
end
section
variable {K : Frag} {E : XS} {Ξ : DX} {tl : TA} {wl : WA}
end
section
variable {δ : DE} {ZL : List D → Mem → Prop} {M : Mem}
end
end DL
namespace DL
open PySem L2 PyProof.Rows LamX
end DL
namespace DL
open PySem PySem.Spec L2 PyProof.Rows LamX
section
variable {X : Cx} {K : Frag}
end
end DL
set_option Elab.async false
set_option linter.all false
set_option maxRecDepth 100000
set_option maxHeartbeats 2000000
namespace DL
open PySem PySem.Spec L2 PyProof.Rows
/-! ### xs.pop(i) of a list in a cell -/
section
variable {K : Frag} {E : XS} {Ξ : DX} {to : TE} {wo : WE} {tl : TA} {wl : WA}
end
section
variable {δ : DE} {M : Mem} {Z : WK} {a : WE} {l : WA}
end
/-! ### keyword defaults that are tuples -/
class DflOk (K : Frag) (dvs : List V) (dds : outParam (List D)) : Prop where
  ok : ∀ F : Hp, DenL K F dds dvs
section
variable {K : Frag} {dvs : List V} {dds : List D}
instance dfl_nil : DflOk K [] [] := ⟨fun _ => rfl⟩
instance dfl_non [d : DflOk K dvs dds] : DflOk K (.non :: dvs) (.non :: dds) := ⟨fun F => ⟨_, _, rfl, rfl, d.ok F⟩⟩
instance dfl_bl {b : Bool} [d : DflOk K dvs dds] : DflOk K (.bl b :: dvs) (.bl b :: dds) := ⟨fun F => ⟨_, _, rfl, rfl, d.ok F⟩⟩
instance dfl_int {i : Int} [d : DflOk K dvs dds] : DflOk K (.int i :: dvs) (.int i :: dds) := ⟨fun F => ⟨_, _, rfl, rfl, d.ok F⟩⟩
instance dfl_str {x : Str} [d : DflOk K dvs dds] : DflOk K (.str x :: dvs) (.str x :: dds) := ⟨fun F => ⟨_, _, rfl, rfl, d.ok F⟩⟩
instance dfl_tup {a : Addr} {l : List D} [c : KTup K a l] [d : DflOk K dvs dds] : DflOk K (.ref a :: dvs) (.tup l :: dds) := ⟨fun F => ⟨_, _, rfl, c.den F, d.ok F⟩⟩
end
def tKwCmT (C : Addr) (n m : Nat) (sp : Sp) (gV : List V → List V → List V) (E : XS) (ta : TE) (t tk : TA) : TE := tCMethNX C n m sp gV E ta t tk
def askT (n : Nat) (ix : List Nat) (dds : List D) (S : DSp) (Ξ : DL.WX) (Z : WK) (xs ys : List D) (M : Mem) : Prop := (gI ix (xs ++ ys ++ dds)).length = n ∧ S (gI ix (xs ++ ys ++ dds)) M Z Ξ
def wKwCmT (C : Addr) (np nk n : Nat) (ix : List Nat) (dds : List D) (S : DSp) (Ξ : DX) (we : WE) (wl wk : WA) (δ : DE) (M : Mem) (Q : WK) : Prop := we δ M fun x M0 => x = .ref C ∧ wl δ M0 fun xs M1 => wk δ M1 fun ys M2 => xs.length = np ∧ ys.length = nk ∧ askT n ix dds S (Ξ δ) Q (.ref C :: xs) ys M2
section
variable {K : Frag} {E : XS} {Ξ : DX} {F G H : Hp} {M : Mem} {S : DSp} {n np nk : Nat} {ix : List Nat} {dvs : List V} {dds : List D} {t tk : TA} {ta : TE} {wl wk : WA} {we : WE} {C : Addr}
theorem askT_run {E1 : XK} {Ξ1 : DL.WX} {Z : WK} {R : VK} {xs ys : List D} {vs zs : List V} [dk : DflOk K dvs dds] (h : askT n ix dds S Ξ1 Z xs ys M) (s : Sat K F M G H) (d1 : DenL K F xs vs) (d2 : DenL K F ys zs) (o : EOk1 K F G Ξ1 E1)
    (k : ∀ d M' v F' H', Z d M' → Ext F F' → Sat K F' M' G H' → Den K F' d v → R v H') : toSp K n S (gV' ix dvs vs zs) H R E1 :=
  call_run h.1 h.2 s (denl_gI ((d1.append d2).append (dk.ok F)) ix) o k
instance lf_kwCmT [dk : DflOk K dvs dds] [c : LfE K E Ξ ta we] [a : LfA K E Ξ t wl] [b : LfA K E Ξ tk wk] : LfE K E Ξ (tKwCmT C np nk (toSp K n S) (gV' ix dvs) E ta t tk) (wKwCmT C np nk n ix dds S Ξ we wl wk) := ⟨fun {δ M Q} h {σ F G H} e s o {R} k =>
  c.run h e s o fun x M0 v F0 H0 ⟨ex, h0⟩ x0 s0 d0 => by
    subst ex
    cases d0
    exact ⟨rfl, a.run h0 (e.ext x0) s0 (o.ext x0) fun xs M1 vs F1 H1 h1 x1 s1 d1 => b.run h1 ((e.ext x0).ext x1) s1 ((o.ext x0).ext x1) fun ys M2 zs F2 H2 ⟨h2, h3, h4⟩ x2 s2 d2 =>
      ⟨by rw [← d1.len, h2], by rw [← d2.len, h3], askT_run (dvs := dvs) (vs := .ref C :: vs) h4 s2 ⟨_, _, rfl, rfl, d1.ext x2⟩ d2 ((((o.at e).ext x0).ext x1).ext x2) fun d M' v F' H' q x3 s3 d3 => k d M' v F' H' q (((x0.trans x1).trans x2).trans x3) s3 d3⟩⟩⟩
instance lf_kwCmT0 {E0 : XK} [dk : DflOk K dvs dds] [c : LfE K E Ξ ta we] [a : LfA K E Ξ t wl] [b : LfA K E Ξ tk wk] : LfE K E Ξ (tKwCmT C np nk (toSp K n S) (gV' ix dvs) (kE E0) ta t tk) (wKwCmT C np nk n ix dds S (fun _ _ _ => False) we wl wk) := ⟨fun {δ M Q} h {σ F G H} e s o {R} k =>
  c.run h e s o fun x M0 v F0 H0 ⟨ex, h0⟩ x0 s0 d0 => by
    subst ex
    cases d0
    exact ⟨rfl, a.run h0 (e.ext x0) s0 (o.ext x0) fun xs M1 vs F1 H1 h1 x1 s1 d1 => b.run h1 ((e.ext x0).ext x1) s1 ((o.ext x0).ext x1) fun ys M2 zs F2 H2 ⟨h2, h3, h4⟩ x2 s2 d2 =>
      ⟨by rw [← d1.len, h2], by rw [← d2.len, h3], askT_run (dvs := dvs) (vs := .ref C :: vs) h4 s2 ⟨_, _, rfl, rfl, d1.ext x2⟩ d2 EOk1.none fun d M' v F' H' q x3 s3 d3 => k d M' v F' H' q (((x0.trans x1).trans x2).trans x3) s3 d3⟩⟩⟩
end
section
variable {X : Cx} {E : XS} {sp : Sp} {C : Addr} {n m : Nat} {gV : List V → List V → List V} {ta : TE} {t tk : TA} {e : Expr}
end
section
variable {δ : DE} {M : Mem} {Z : WK} {S : DSp} {n np nk : Nat} {ix : List Nat} {dds : List D} {Ξ : DX} {l u : WA} {a : WE} {C : Addr}
def kwT (np nk n : Nat) (ix : List Nat) (dds : List D) (S : DSp) (Ξ : DL.WX) (Z : WK) (xs ts ys : List D) (M : Mem) : Prop := xs.length = np ∧ ys.length = nk ∧ askT n ix dds S Ξ Z ts ys M
theorem g_kwT {xs ts ys : List D} {Ξ1 : DL.WX} (h1 : xs.length = np) (h2 : ys.length = nk) (h : (gI ix (ts ++ ys ++ dds)).length = n) (k : S (gI ix (ts ++ ys ++ dds)) M Z Ξ1) : kwT np nk n ix dds S Ξ1 Z xs ts ys M := ⟨h1, h2, h, k⟩
def kwCmTP (C : Addr) (np nk n : Nat) (ix : List Nat) (dds : List D) (S : DSp) (Ξ : DX) (l u : WA) (δ : DE) (Z : WK) (x : D) (M : Mem) : Prop := x = .ref C ∧ l δ M fun xs M1 => u δ M1 fun ys M2 => kwT np nk n ix dds S (Ξ δ) Z xs (.ref C :: xs) ys M2
theorem g_kwCmT (k : a δ M (kwCmTP C np nk n ix dds S Ξ l u δ Z)) : wKwCmT C np nk n ix dds S Ξ a l u δ M Z := k
theorem g_kwCmTP (k : l δ M fun xs M1 => u δ M1 fun ys M2 => kwT np nk n ix dds S (Ξ δ) Z xs (.ref C :: xs) ys M2) : kwCmTP C np nk n ix dds S Ξ l u δ Z (.ref C) M := ⟨rfl, k⟩
end
end DL
set_option Elab.async false
set_option linter.all false
set_option maxRecDepth 100000
set_option maxHeartbeats 2000000
namespace DL
open PySem PySem.Spec L2 PyProof.Rows
/-! ### list(x) as a new cell -/
section
variable {K : Frag} {E : XS} {Ξ : DX}
end
section
variable {M : Mem} {Z : WK}
end
end DL
set_option Elab.async false
set_option linter.all false
set_option maxRecDepth 100000
set_option maxHeartbeats 2000000
namespace DL
open PySem PySem.Spec L2 PyProof.Rows
/-! ### f-strings with values of own classes -/
structure FmtC (K : Frag) (C : Addr) : Prop where
  at_ : PySem.W.findIn K (.ref C) "__format__" = some (some (.builtin "object.__format__"))
  mro : PySem.W.mroIn K C (.type "object") = some true
section
variable {X : Cx} {CX : CXT} {Cs : List Addr} {f : Addr} {n k j : Nat} {sp : Sp}
end
section
variable {K : Frag} {E : XS} {Ξ : DX} {Cs : List Addr} {S : DSp}
end
section
variable {M : Mem} {Z : WK} {Cs : List Addr} {S : DSp} {w : D → Mem → WK → Prop}
end
/-! ### ord -/
/-! ### make by keywords with defaults that are tuples -/
instance (priority := high) lf_kwCmTh {K : Frag} {E0 : XK} {Ξ0 : DL.WX} {C : Addr} {np nk n : Nat} {S : DSp} {ix : List Nat} {dvs : List V} {dds : List D} {ta : TE} {t tk : TA} {we : WE} {wl wk : WA} [dk : DflOk K dvs dds] [c : LfE K (kE E0) (kX Ξ0) ta we] [a : LfA K (kE E0) (kX Ξ0) t wl] [b : LfA K (kE E0) (kX Ξ0) tk wk] : LfE K (kE E0) (kX Ξ0) (tKwCmT C np nk (toSp K n S) (gV' ix dvs) (kE E0) ta t tk) (wKwCmT C np nk n ix dds S (kX Ξ0) we wl wk) := lf_kwCmT
def tKwMakeT (C : Addr) (n m : Nat) (sp : Sp) (gV : List V → List V → List V) (E : XS) (t tk : TA) : TE := tMakeNX C n m sp gV E t tk
def wKwMakeT (C : Addr) (np nk n : Nat) (ix : List Nat) (dds : List D) (S : DSp) (Ξ : DX) (wl wk : WA) (δ : DE) (M : Mem) (Q : WK) : Prop := wl δ M fun xs M1 => wk δ M1 fun ys M2 => xs.length = np ∧ ys.length = nk ∧
  ∀ p, M2 p = none → askT n ix dds S (Ξ δ) (fun d M' => d = .non ∧ ∃ fs, M' p = some (· = .ins C fs) ∧ Q (.obj C (fs.map (·.1)) (fs.map (·.2))) (mdel M' p)) (.ref p :: xs) ys (mset M2 p (· = .ins C []))
section
variable {K : Frag} {E : XS} {Ξ : DX} {F G H : Hp} {M : Mem} {S : DSp} {n np nk : Nat} {ix : List Nat} {dvs : List V} {dds : List D} {t tk : TA} {wl wk : WA} {C : Addr}
theorem makeT_run {E1 : XK} {Ξ1 : DL.WX} {Q : WK} {R : VK} {xs ys : List D} {vs zs : List V} [dk : DflOk K dvs dds] (s : Sat K F M G H) (d1 : DenL K F xs vs) (d2 : DenL K F ys zs) (o : EOk1 K F G Ξ1 E1)
    (h : ∀ p, M p = none → askT n ix dds S Ξ1 (fun d M' => d = .non ∧ ∃ fs, M' p = some (· = .ins C fs) ∧ Q (.obj C (fs.map (·.1)) (fs.map (·.2))) (mdel M' p)) (.ref p :: xs) ys (mset M p (· = .ins C [])))
    (k : ∀ d M' v F' H', Q d M' → Ext F F' → Sat K F' M' G H' → Den K F' d v → R v H') : ∀ x dx, H x = none → H dx = none → dx ≠ x → toSp K n S (gV' ix dvs (.ref x :: vs) zs) (upd (upd H dx (.own x)) x (.ins C dx [])) (fun v H2 => v = .non ∧ R (.ref x) H2) E1 := by
  intro x dx hx hd ne
  obtain ⟨F', ex, s', mn⟩ := make_sat (C := C) s hx hd ne
  refine askT_run (dvs := dvs) (h x mn) s' ⟨_, _, rfl, rfl, d1.ext ex⟩ (d2.ext ex) (o.ext ex) fun d2 M' v F2 H2 ⟨e1, fs, e2, q⟩ x2 s2 d2' => ?_
  subst e1
  obtain ⟨F3, x3, s3, d3⟩ := s2.freezeI e2
  exact ⟨d2', k _ _ _ F3 H2 q ((ex.trans x2).trans x3) s3 d3⟩
instance lf_kwMakeT [dk : DflOk K dvs dds] [a : LfA K E Ξ t wl] [b : LfA K E Ξ tk wk] : LfE K E Ξ (tKwMakeT C np nk (toSp K n S) (gV' ix dvs) E t tk) (wKwMakeT C np nk n ix dds S Ξ wl wk) := ⟨fun {δ M Q} h {σ F G H} e s o {R} k =>
  a.run h e s o fun xs M1 vs F1 H1 h1 x1 s1 d1 => b.run h1 (e.ext x1) s1 (o.ext x1) fun ys M2 zs F2 H2 ⟨h2, h3, h4⟩ x2 s2 d2 =>
    ⟨by rw [← d1.len, h2], by rw [← d2.len, h3], makeT_run s2 (d1.ext x2) d2 (((o.at e).ext x1).ext x2) h4 fun d M' v F' H' q x3 s3 d3 => k d M' v F' H' q ((x1.trans x2).trans x3) s3 d3⟩⟩
instance (priority := low) lf_kwMakeT0 [dk : DflOk K dvs dds] [a : LfA K E Ξ t wl] [b : LfA K E Ξ tk wk] : LfE K E Ξ (tKwMakeT C np nk (toSp K n S) (gV' ix dvs) (kE E0) t tk) (wKwMakeT C np nk n ix dds S (fun _ _ _ => False) wl wk) := ⟨fun {δ M Q} h {σ F G H} e s o {R} k =>
  a.run h e s o fun xs M1 vs F1 H1 h1 x1 s1 d1 => b.run h1 (e.ext x1) s1 (o.ext x1) fun ys M2 zs F2 H2 ⟨h2, h3, h4⟩ x2 s2 d2 =>
    ⟨by rw [← d1.len, h2], by rw [← d2.len, h3], makeT_run s2 (d1.ext x2) d2 EOk1.none h4 fun d M' v F' H' q x3 s3 d3 => k d M' v F' H' q ((x1.trans x2).trans x3) s3 d3⟩⟩
instance (priority := high) lf_kwMakeTh {E0 : XK} {Ξ0 : DL.WX} [dk : DflOk K dvs dds] [a : LfA K (kE E0) (kX Ξ0) t wl] [b : LfA K (kE E0) (kX Ξ0) tk wk] : LfE K (kE E0) (kX Ξ0) (tKwMakeT C np nk (toSp K n S) (gV' ix dvs) (kE E0) t tk) (wKwMakeT C np nk n ix dds S (kX Ξ0) wl wk) := lf_kwMakeT
end
section
variable {δ : DE} {M : Mem} {Z : WK} {S : DSp} {n np nk : Nat} {ix : List Nat} {dds : List D} {Ξ : DX} {l u : WA} {C : Addr}
theorem g_kwMakeT (k : l δ M fun xs M1 => u δ M1 fun ys M2 => xs.length = np ∧ ys.length = nk ∧ ∀ p, M2 p = none → askT n ix dds S (Ξ δ) (fun d M' => d = .non ∧ ∃ fs, M' p = some (· = .ins C fs) ∧ Z (.obj C (fs.map (·.1)) (fs.map (·.2))) (mdel M' p)) (.ref p :: xs) ys (mset M2 p (· = .ins C []))) : wKwMakeT C np nk n ix dds S Ξ l u δ M Z := k
end
end DL
set_option Elab.async false
set_option linter.all false
set_option maxRecDepth 100000
set_option maxHeartbeats 2000000
namespace DL
open PySem PySem.Spec L2 PyProof.Rows
/-! ### C() of a class without an own __init__ -/
structure Mk0 (K : Frag) (C : Addr) : Prop where
  makes : PySem.W.makesIn K C = true
  init : PySem.W.findIn K (.ref C) "__init__" = some (some (.builtin "object.__init__"))
  top : PySem.W.mroIn K C (.type "object") = some true
  kp : PySem.W.keepIn K (.ref C) = true
section
variable {X : Cx} {C : Addr} {pins : List (Addr × Obj)} {σ : L2.St} {H : Hp} {s : Shared} {Q : VK}
end
section
variable {K : Frag} {E : XS} {Ξ : DX} {C : Addr}
end
/-! ### make with defaults that are tuples -/
def tMakeDT (C : Addr) (sp : Sp) (dvs : List V) (E : XS) (t : TA) : TE := tMakeD C sp dvs E t
def wMakeDT (C : Addr) (n : Nat) (S : DSp) (dds : List D) (Ξ : DX) (wl : WA) (δ : DE) (M : Mem) (Q : WK) : Prop := wl δ M fun xs M1 => (xs ++ dds).length + 1 = n ∧ ∀ p, M1 p = none → S (.ref p :: (xs ++ dds)) (mset M1 p (· = .ins C [])) (fun d M' => d = .non ∧ ∃ fs, M' p = some (· = .ins C fs) ∧ Q (.obj C (fs.map (·.1)) (fs.map (·.2))) (mdel M' p)) (Ξ δ)
section
variable {K : Frag} {E : XS} {Ξ : DX} {C : Addr} {n : Nat} {S : DSp} {dvs : List V} {dds : List D} {tl : TA} {wl : WA}
instance lf_makeDT [dk : DflOk K dvs dds] [a : LfA K E Ξ tl wl] : LfE K E Ξ (tMakeDT C (toSp K n S) dvs E tl) (wMakeDT C n S dds Ξ wl) := ⟨fun {δ M Q} h {σ F G H} e s o {R} k =>
  a.run h e s o fun xs M1 vs F1 H1 ⟨h1, h2⟩ x1 s1 d1 => make_runD s1 d1 (dk.ok F1) ((o.at e).ext x1) h1 h2 fun d M' v F' H' q x2 s2 d2 => k d M' v F' H' q (x1.trans x2) s2 d2⟩
instance (priority := low) lf_makeDT0 [dk : DflOk K dvs dds] [a : LfA K E Ξ tl wl] : LfE K E Ξ (tMakeDT C (toSp K n S) dvs (kE E0) tl) (wMakeDT C n S dds (fun _ _ _ => False) wl) := ⟨fun {δ M Q} h {σ F G H} e s o {R} k =>
  a.run h e s o fun xs M1 vs F1 H1 ⟨h1, h2⟩ x1 s1 d1 => make_runD s1 d1 (dk.ok F1) EOk1.none h1 h2 fun d M' v F' H' q x2 s2 d2 => k d M' v F' H' q (x1.trans x2) s2 d2⟩
instance (priority := high) lf_makeDTh {E0 : XK} {Ξ0 : DL.WX} [dk : DflOk K dvs dds] [a : LfA K (kE E0) (kX Ξ0) tl wl] : LfE K (kE E0) (kX Ξ0) (tMakeDT C (toSp K n S) dvs (kE E0) tl) (wMakeDT C n S dds (kX Ξ0) wl) := lf_makeDT
theorem g_makeDT {δ : DE} {M : Mem} {Z : WK} {Ξ : DX} (k : wl δ M fun xs M1 => (xs ++ dds).length + 1 = n ∧ ∀ p, M1 p = none → S (.ref p :: (xs ++ dds)) (mset M1 p (· = .ins C [])) (fun d M' => d = .non ∧ ∃ fs, M' p = some (· = .ins C fs) ∧ Z (.obj C (fs.map (·.1)) (fs.map (·.2))) (mdel M' p)) (Ξ δ)) : wMakeDT C n S dds Ξ wl δ M Z := k
end
/-! ### a list != [] -/
end DL
set_option Elab.async false
set_option linter.all false
set_option maxRecDepth 100000
set_option maxHeartbeats 2000000
namespace DL
open PySem PySem.Spec L2 PyProof.Rows
/-! ### data that stand at a known address -/
def pinD (K : Frag) (a : Addr) (d : D) : D := .oth (fun F v => v = .ref a ∧ Den K F d v) fun _ _ _ e ⟨h1, h2⟩ => ⟨h1, Den.ext e h2⟩
section
variable {K : Frag} {E : XS} {Ξ : DX} {ts : TS} {ws : WS} {j : Nat}
end
/-! arguments that are known data, whatever else is known of them -/
def UnL (K : Frag) (xs ys : List D) : Prop := ∀ (F : Hp) (vs : List V), DenL K F xs vs → DenL K F ys vs
theorem UnL.refl {K : Frag} {xs : List D} : UnL K xs xs := fun _ _ h => h
theorem UnL.pin {K : Frag} {a : Addr} {d : D} {xs ys : List D} (h : UnL K xs ys) : UnL K (pinD K a d :: xs) (d :: ys) := fun F vs ⟨v, r, e, h1, h2⟩ => ⟨v, r, e, h1.2.2, h F r h2⟩
theorem UnL.cons {K : Frag} {d : D} {xs ys : List D} (h : UnL K xs ys) : UnL K (d :: xs) (d :: ys) := fun F vs ⟨v, r, e, h1, h2⟩ => ⟨v, r, e, h1, h F r h2⟩
section
variable {K : Frag} {E : XS} {Ξ : DX} {tl : TA} {wl : WA}
end
/-! == of the same thing -/
/-! ### data in a list of data -/
theorem roomE {A : Around} {es : List PyData} {d : PyData} (h : SeqAt.shaped d = true) (hu : A.units + 200 < cLine) : A.units + 1 + min (PyData.depthAll es) d.depth < cLine := by
  have h1 := SeqAt.depth_of_shaped h
  have h2 : min (PyData.depthAll es) d.depth ≤ d.depth := Nat.min_le_right _ _
  omega
section
variable {α : Type} [DecidableEq α] {f : α → D} {g : α → PyData} {n : Nat} {neg : Bool} {w : WR2} {a : α} {l : List α} {M : Mem} {Z : WK}
end
end DL
set_option Elab.async false
set_option linter.all false
set_option maxRecDepth 100000
set_option maxHeartbeats 2000000
namespace DL
open PySem PySem.Spec L2 PyProof.Rows
/-! ### t[::-1] -/
section
variable {prog : Program} {w : World} {A : Around} {E : Value → Shared → Prop} {s : Shared}
end
end DL
set_option Elab.async false
set_option linter.all false
set_option maxRecDepth 100000
set_option maxHeartbeats 2000000
namespace DL
open PySem PySem.Spec PySem.W PyProof.Rows L2
/-! ### except (A, B, C, D, E) -/
section
variable {M : Model} {K : Frag}
end
end DL
set_option Elab.async false
set_option linter.all false
set_option maxRecDepth 100000
set_option maxHeartbeats 2000000
namespace DL
open PySem PySem.Spec L2 PyProof.Rows
/-! ### t * n -/
end DL
set_option Elab.async false
set_option linter.all false
set_option maxRecDepth 100000
set_option maxHeartbeats 2000000
/-! ### zip of three, each a list or a tuple, walked by three names -/
namespace PySem
end PySem
namespace DL
open PySem PySem.Spec PyProof.Rows L2
section
variable {X : Cx} {K : Frag}
end
section
variable {K : Frag} {E : XS} {Ξ : DX} {tl : TA} {wl : WA}
end
section
variable {δ : DE} {ZL : List D → Mem → Prop} {M : Mem}
end
end DL
set_option Elab.async false
set_option linter.all false
set_option maxRecDepth 100000
set_option maxHeartbeats 2000000
/-! ### tuples compared by what their items' own == says: the loop -/
namespace GQN
open PySem PySem.SeqAt GQ
open AutoSeq1 (wpAny_loadPart')
open MeetsSeq MeetsSeq2 MeetsSeq3 SeqRoads2
section
variable {prog : Program} {w : World} {A : Around} {E : Value → Shared → Prop} {s : Shared}
end
end GQN
namespace DL
open PySem L2 PyProof.Rows
section
variable {X : Cx} {K : Frag} {k j n : Nat} {f : Addr} {m q : Str} {st : Stmt} {ps : List Str} {S : DSp} {E : XK} {Cs : List Addr} {CX : CXT} {sp : Sp}
end
section
variable {K : Frag} {E : XS} {Ξ : DX} {S : DSp} {Cs : List Addr}
end
end DL
set_option Elab.async false
set_option linter.all false
set_option maxRecDepth 100000
set_option maxHeartbeats 2000000
/-! ### an exception of an own class made as a value, by place or by name -/
namespace PySem.PX
section
variable {M : Model} {A : Around} {E : Value → Shared → Prop} {h : Heap} {g : Array GenState} {d : Drawn} {t : Nat} {os : OsState}
variable {nm q : Str} {C N : Addr} {bs bm bmB : List Value} {hdct : Bool} {sn : List Str} {sub : List Value} {ab : Bool} {col : Option Bool} {dd : Option Addr} {k0 k1 k2 k3 k5 : Option Value} {B newId initId : String}
theorem check_new_kw (F : ExcBaseFacts B newId initId bmB) (hT : ∀ X : String, bm.contains (.type X) = bmB.contains (.type X)) {n : Str} {v : Value} {Q : Unit → Shared → Prop}
    (hC : h.get? C = some (excClassObj nm q C N bs bm hdct sn sub ab col dd k0 k1 k2 k3 k5 newId)) (hq : Q () ⟨h, g, d, t, os⟩) : wpAny M A (checkBuiltinCall newId ⟨[.ref C], [(n, v)]⟩) Q E ⟨h, g, d, t, os⟩ := by
  have hcont : (Value.ref C :: bm).contains (.type B) = true := by rw [List.contains_cons, hT, F.hasB, Bool.or_true]
  have hstar := F.noStar
  simp only [checkBuiltinCall, F.newKind, F.newSplit, F.newRow]
  repeat (first | refine wpAny_loadPart_at hC ?_ | (refine wpAny_isSubtype_exc hC ?_; rw [hcont]) | refine wpAny_staticBase_exc hC ?_ | refine wpAny_madeBy_exc hC ?_ | simp only [bne_self_eq_false, Bool.false_eq_true, if_false] | wp_step)
  exact hq
theorem check_type_kw {n : Str} {v : Value} {Q : Unit → Shared → Prop} (hC : h.get? C = some (excClassObj nm q C N bs bm hdct sn sub ab col dd k0 k1 k2 k3 k5 newId))
    (hq : Q () ⟨h, g, d, t, os⟩) : wpAny M A (checkBuiltinCall "type.__call__" ⟨[.ref C], [(n, v)]⟩) Q E ⟨h, g, d, t, os⟩ := by
  have f3 := tc_sub
  have hT : (⟨h, g, d, t, os⟩ : Shared).TypeIs (.ref C) "type" := ⟨_, hC, rfl⟩
  simp only [checkBuiltinCall, tc_kind, tc_split]
  repeat (any_goals (first | assumption | with_reducible refine wpAny_loadPart_at hC ?_ | with_reducible refine wpAny_onRaise ?_ | with_reducible refine wpAny_map ?_ | wp_step))
end
section
variable {prog : Program} {w : World} {A : Around} {E : Value → Shared → Prop} {R : Result → Shared → Prop} {h : Heap} {g : Array GenState} {d : Drawn} {t : Nat} {os : OsState}
variable {nm q : Str} {C N : Addr} {bs bm bmB : List Value} {hdct : Bool} {sn : List Str} {sub : List Value} {ab : Bool} {col : Option Bool} {dd : Option Addr} {k0 k1 k2 k3 k5 : Option Value} {B newId initId : String}
theorem new_kw (F : ExcBaseFacts B newId initId bmB) (hT : ∀ X : String, bm.contains (.type X) = bmB.contains (.type X)) {n : Str} {v : Value}
    (hC : h.get? C = some (excClassObj nm q C N bs bm hdct sn sub ab col dd k0 k1 k2 k3 k5 newId))
    (hq : R (.ok (.ret (.ref (h.objs.size + 1)))) ⟨(h.push { cls := .type "tuple", data := .seq #[] }).push
      { cls := .ref C, data := .fields #[.ref h.objs.size, .none, .none, .none, .bool false, .none] }, g, d, t, os⟩) :
    codeAny (model prog w) A (.builtin newId ⟨[.ref C], [(n, v)]⟩) R ⟨h, g, d, t, os⟩ := by
  have hends := F.ends
  have hcB : (Value.ref C :: bm).contains (.type B) = true := by rw [List.contains_cons, hT, F.hasB, Bool.or_true]
  have hcA : (Value.ref C :: bm).contains (.type "AttributeError") = false := by rw [List.contains_cons, hT, F.noAttr]; rfl
  have hcN : (Value.ref C :: bm).contains (.type "NameError") = false := by rw [List.contains_cons, hT, F.noName]; rfl
  refine codeAny_builtinAt F.entry ?_
  unfold Builtin.«BaseException.__new__»
  refine wpAt_bind ?_
  show wpAt _ _ _ (stack >>= _) _ _ _
  refine wpAt_bind (wpAt_stack fun p below => wpAt_of_wpAny ?_)
  wp_walk
  refine wpAt_of_wpAny ?_
  rw [F.owner]
  repeat (first | with_reducible refine wpAny_madeHere_exc F.canon hC ?_ | with_reducible refine wpAny_loadPart_at hC ?_ | (with_reducible refine wpAny_isSubtype_exc hC ?_; first | rw [hcB] | rw [hcA] | rw [hcN]) | wp_step)
  show R _ _
  rw [Heap.size_push]
  exact hq
theorem type_call_kw (F : ExcBaseFacts B newId initId bmB) (hT : ∀ X : String, bm.contains (.type X) = bmB.contains (.type X)) {n : Str} {v : Value} {fI : Addr} {Q : Fin → Shared → Prop}
    (hC : h.get? C = some (excClassObj nm q C N bs bm hdct sn sub ab col dd k0 k1 k2 k3 k5 newId))
    (hi : W.Looks (model prog w) h (typeLookup (.ref C) "__init__") (some (.ref fI))) (hb : ∀ self, W.Looks (model prog w) h (bindSpecial (.ref fI) self) (.ref fI, [self]))
    (hq : codeAny (model prog w) A (.call (.ref fI) ⟨[.ref (h.objs.size + 1)], [(n, v)]⟩)
      (fun r s' => match r with | .ok (.ret v) => v = .none ∧ Q (.done (.ret (.ref (h.objs.size + 1)))) s' | .ok _ => False | .error e => E e s')
      ⟨(h.push (W.kdv_tup [])).push (excO C h.objs.size), g, d, t, os⟩) :
    wpAny (model prog w) A (Builtin.«type.__call__» ⟨[.ref C], [(n, v)]⟩) Q E ⟨h, g, d, t, os⟩ := by
  repeat (first | with_reducible refine wpAny_loadPart_at hC ?_ | with_reducible refine wpAny_madeBy_exc hC ?_ | wp_step)
  refine codeAny_call_builtin_code (Code.quiet_builtin _ F.quiet) (check_new_kw F hT hC ?_)
  refine new_kw F hT hC ?_
  show wpAny _ _ _ _ _ _
  have k : ∀ b o, h.get? b = some o → ((h.push (W.kdv_tup [])).push (excO C h.objs.size)).get? b = some o := fun b o e => Heap.get?_push_of_some _ (Heap.get?_push_of_some _ e)
  have hC₁ := k _ _ hC
  have hget : ((h.push (W.kdv_tup [])).push (excO C h.objs.size)).get? (h.objs.size + 1) = some (excO C h.objs.size) := by heap_get
  have hcC : (Value.ref C :: bm).contains (.ref C) = true := by simp
  have i1 := hi.keeps k
  have b1 := (hb (.ref (h.objs.size + 1))).keeps k
  unfold isInstance
  repeat (first | with_reducible refine wpAny_loadPart_at hget ?_ | (with_reducible refine wpAny_isSubtype_exc hC₁ ?_; rw [hcC]) | wp_step)
  show wpAny _ _ (typeLookup (.ref C) _) _ _ _
  refine i1.at ?_
  refine wpAny_holding (wpAny_bind (b1.at ?_))
  refine wpAny_bind (wpAny_call (codeAny_mono hq fun r s' z => ?_))
  rcases r with e | (v | _ | _ | _) <;> first | exact z | exact z.elim | skip
  obtain ⟨rfl, z⟩ := z
  first
    | exact wpAny_pure (wpAny_pure z)
    | (wp_walk; exact z)
theorem call_kw (F : ExcBaseFacts B newId initId bmB) (hT : ∀ X : String, bm.contains (.type X) = bmB.contains (.type X)) {n : Str} {v : Value} {fI : Addr}
    (hC : h.get? C = some (excClassObj nm q C N bs bm hdct sn sub ab col dd k0 k1 k2 k3 k5 newId))
    (hi : W.Looks (model prog w) h (typeLookup (.ref C) "__init__") (some (.ref fI))) (hb : ∀ self, W.Looks (model prog w) h (bindSpecial (.ref fI) self) (.ref fI, [self]))
    (hq : codeAny (model prog w) (A.under (.builtin "type.__call__" ⟨[.ref C], [(n, v)]⟩)) (.call (.ref fI) ⟨[.ref (h.objs.size + 1)], [(n, v)]⟩) (W.InitBack (h.objs.size + 1) R)
      ⟨(h.push (W.kdv_tup [])).push (excO C h.objs.size), g, d, t, os⟩) :
    codeAny (model prog w) A (.call (.ref C) ⟨[], [(n, v)]⟩) R ⟨h, g, d, t, os⟩ := by
  have f1 := tc_lookup
  have f2 := tc_bind (.ref C)
  have hTy : (⟨h, g, d, t, os⟩ : Shared).TypeIs (.ref C) "type" := ⟨_, hC, rfl⟩
  refine codeAny_of_tree ?_
  show wpAny _ _ (callAny (.ref C) _) _ _ _
  repeat (any_goals (first | assumption | with_reducible refine wpAny_loadPart_at hC ?_ | wp_step))
  refine ⟨rfl, ?_⟩
  refine codeAny_call_builtin_at (Code.quiet_builtin _ (by decide +kernel)) entry_typeCall (check_type_kw hC (type_call_kw F hT hC hi hb ?_))
  refine codeAny_mono hq fun r s' z => ?_
  rcases r with e | (v | _ | _ | _) <;> exact z
end
end PySem.PX
namespace DL
open PySem L2 PyProof.Rows
/-- C(e): an exception that is not raised -/
def tMkV (C : Addr) (f : Str) (ta : TA) : TE := fun σ H Q => tMkE C f ta σ H fun cls dd H' => cls = .ref C ∧ ∃ d, dd = some d ∧ ∀ a, H' a = none → Q (.ref a) (upd H' a (cau a C d))
section
variable {X : Cx} {e : Expr} {ta : TA} {p pos : Pos} {C : Addr} {f : Str}
theorem pe_mkV (he : PMk X e (tMkE C f ta)) (hex : X.ex = [] := by rfl) : PE X e (tMkV C f ta) := by
  refine ⟨fun pins s σ H Q I h => ?_⟩
  refine thn (he pins s σ H _ I h) fun u s' hu => ?_
  obtain ⟨a, oe, vs, sI, H', cls, d, rfl, J, k, hne, ha, hz, hd, h1, na, os, ag, r, rfl, dx, rfl, q⟩ := hu
  have J2 : Inv X pins σ H' s' := J.call' (ch := []) os (Un.kept k) (J.hok.kept k) ag fun b z => by simp at z
  have no : ∀ o, sI.heap.get? a ≠ some o := fun o e => by rw [hne] at e; cases e
  have J3 : Inv X pins σ (upd H' a (cau a C dx)) s' := by
    refine inv_track J2 na ?_ ?_ ?_ (fun x c e z => ?_) (fun p hp z => ?_) (cau_ok ha hz.1 hz.2 hd) fun x => cau_own
    · cases e : X.s_0.heap.get? a with
      | none => rfl
      | some o =>
        obtain ⟨o', e'⟩ := J.base.there a o e (by rw [hex]; simp)
        exact absurd e' (no _)
    · intro z
      obtain ⟨_, ⟨o, es, ep, ho, _⟩, _⟩ := J.loc
      rw [← z] at ho
      exact no _ ho
    · intro hb
      obtain ⟨_, o₀, e₀, _⟩ := J.ok.funs.mem hb
      obtain ⟨o', e'⟩ := J.base.there a o₀ e₀ (by rw [hex]; simp)
      exact no _ e'
    · obtain ⟨v, o, ho, _⟩ := J.cell x c e
      rw [z] at ho
      exact no _ ho
    · have := (J.pin p hp).1
      rw [z] at this
      exact no _ this
  exact ⟨.ref a, _, J3, rfl, q a na⟩
end
/-- over data -/
def mkP (C : Addr) (f : Str) (Q : WK) (xs : List D) (M : Mem) : Prop := ∃ y, xs = [y] ∧ Q (.exn C [f] [y]) M
def wMkV (C : Addr) (f : Str) (wl : WA) : WE := fun δ M Q => wl δ M (mkP C f Q)
section
variable {K : Frag} {E : XS} {Ξ : DX} {tl : TA} {wl : WA} {C : Addr} {f : Str}
instance lf_mkV [a : LfA K E Ξ tl wl] : LfE K E Ξ (tMkV C f tl) (wMkV C f wl) := ⟨fun {δ M Q} h {σ F G H} e s o {R} k =>
  a.run h e s o fun ds M' vs F' H' ⟨y, hy, hx⟩ ex st d => by
    subst hy
    obtain ⟨v, rfl⟩ : ∃ v, vs = [v] := by
      have := d.len
      match vs, this with
      | [v], _ => exact ⟨v, rfl⟩
    refine ⟨v, rfl, fun dx hd => ⟨rfl, dx, rfl, fun a na => ?_⟩⟩
    obtain ⟨F2, x2, s2, d2⟩ := sat_caught (C := C) (ks := [f]) ((st.put hd).aside (aside_upd (st.freshG hd))) (xs := [v]) upd_same (st.freshG hd) rfl d na
    exact k _ M' _ F2 _ hx (ex.trans x2) s2 d2⟩
end
section
variable {δ : DE} {M : Mem} {Z : WK} {C : Addr} {f : Str} {wl : WA}
theorem g_mkV (k : wl δ M (mkP C f Z)) : wMkV C f wl δ M Z := k
theorem g_mkP {y : D} (k : Z (.exn C [f] [y]) M) : mkP C f Z [y] M := ⟨y, rfl, k⟩
end
end DL
set_option Elab.async false
set_option linter.all false
set_option maxRecDepth 100000
set_option maxHeartbeats 2000000
/-! ### C(e), C(f=e) in the head's words -/
namespace DL
open PySem L2 PyProof.Rows PySem.Spec NdefX
section
variable {X : Cx} {e : Expr} {ta : TA} {p pos : Pos} {B i newId : String} {bmB : List Value}
theorem pmk_exck {CX : CXT} {x fld kn : Str} {C fI : Addr} {k : Nat} {fd : FuncData} {ps : List Str} {kws : List Keyword} {tk : TA} (T : ExK X.K C B i newId bmB) (kC : PySem.W.keepIn X.K (.ref C) = true) (exC : PySem.W.subIn X.K (.ref C) (.type "BaseException") = some true) (tyC : PySem.W.typeIn X.K (.ref C) = some (.type "type"))
    (iC : PySem.W.findIn X.K (.ref C) "__init__" = some (some (.ref fI))) (tI : PySem.W.typeIn X.K (.ref fI) = some (.type "function"))
    (F1 : FnOk X.prog X.w X.K X.mg X.base CX k fI fd ps (spExc C fld)) (hr : Room (k + 1) X.A) (hb : ∀ (s : Shared) (u v : Value), BindsTo s fd ⟨[u], [(kn, v)]⟩ (ps.zip [u, v])) (hx : Passes CX X (fun _ _ _ => False)) (hg : Gl X x) (hm : X.mg x = some (.ref C)) (hkw : PK X kws tk)
    (hall : (backToKw pos (keywordEach kws X.env)).all (·.1.isSome) = true := by rfl) (hks : (backToKw pos (keywordEach kws X.env)).filterMap (·.1) = [kn] := by rfl)
    (hdb : (x == ("__debug__" : Str)) = false := by decide) (hpl : ((backTo pos (starEach [] X.env)).any (·.1) || (backToKw pos (keywordEach kws X.env)).any (·.1.isNone)) = false := by rfl) :
    PMk X (.Call (.Name x p) [] kws pos) (tMkE C fld tk) := by
  intro pins s σ H Q I h
  refine wpAny_Call_Name_kw (ld_glob I hg hm ?_ hdb)
  refine PySem.W.callWith_KW0 (h₀ := X.base) I.ok.mod.kin kC hall (thn (hkw.run pos pins s σ H _ I h) fun us s1 ⟨vs, H1, I1, r1, y, ev, q1⟩ => ⟨I1.kIn, ?_⟩) hpl
  rw [hks]
  subst ev
  obtain ⟨u, rfl, ru⟩ : ∃ u, us = [u] ∧ L2.RelV y u := by
    cases r1 with
    | cons r rr => cases rr; exact ⟨_, rfl, r⟩
  show wpAny _ _ (call (.ref C) [] [(kn, u)]) _ _ _
  obtain ⟨nm, N', qn, bs, bm, hdct, sn, sub, ab, col, dd, k0, k1', k2, k3, k5, hC, hT⟩ := PySem.W.excInit_of I1.kIn T.exc
  obtain ⟨hp, g, dr, tk, os⟩ := s1
  have hsz : hp.objs.size ≤ hp.objs.size + 1 := Nat.le_succ _
  have hn : H1 (hp.objs.size + 1) = none := I1.hok.fresh hsz
  have kk : ∀ b o, hp.get? b = some o → ((hp.push (PySem.W.kdv_tup [])).push (PySem.PX.excO C hp.objs.size)).get? b = some o := fun b o e => Heap.get?_push_of_some _ (Heap.get?_push_of_some _ e)
  have hget : ((hp.push (PySem.W.kdv_tup [])).push (PySem.PX.excO C hp.objs.size)).get? (hp.objs.size + 1) = some (PySem.PX.excO C hp.objs.size) := by heap_get
  have I2 : Inv X pins σ (upd H1 (hp.objs.size + 1) (exo (hp.objs.size + 1) C none)) ⟨(hp.push (PySem.W.kdv_tup [])).push (PySem.PX.excO C hp.objs.size), g, dr, tk, os⟩ :=
    I1.laid (t' := tk) (a := hp.objs.size + 1) (o := exo (hp.objs.size + 1) C none) kk hsz (exo_ok hget)
  have r2 : Vals [V.ref (hp.objs.size + 1), y] [Value.ref (hp.objs.size + 1), u] := .cons rfl (.cons ru .nil)
  have sp : spExc C fld [V.ref (hp.objs.size + 1), y] (upd H1 (hp.objs.size + 1) (exo (hp.objs.size + 1) C none)) (fun v H2 => v = .non ∧ ∃ d, H1 d = none ∧ d ≠ hp.objs.size + 1 ∧ H2 = upd (upd (upd H1 (hp.objs.size + 1) (exo (hp.objs.size + 1) C none)) d (exd d [(fld, y)])) (hp.objs.size + 1) (exo (hp.objs.size + 1) C (some d))) (fun _ _ _ => False) :=
    ⟨_, _, rfl, upd_same, fun d hd ne => ⟨rfl, d, by rw [upd_ne ne] at hd; exact hd, ne, rfl⟩⟩
  refine wpAny_call (PySem.PX.call_kw T.base hT hC (PySem.W.looks_findIn I1.kIn iC) (fun self => PySem.W.bind_fn I1.kIn self tI)
    (codeAny_mono (F1.run _ X.stack _ _ ⟨[Value.ref (hp.objs.size + 1)], [(kn, u)]⟩ [Value.ref (hp.objs.size + 1), u] _ _ (fun _ _ _ => False) (hr.make C [] [(kn, u)]) (I2.env0.make C [] [(kn, u)]) (hb _ _ _) r2 sp) fun r s' hq' => ?_))
  cases r with
  | error er => exact hx pins σ _ _ er s' I2 hq'
  | ok fl =>
    cases fl with
    | ret u =>
      obtain ⟨v, H2, os2, bare2, un2, hok2, rv, ev, d, hd1, ne, eH⟩ := hq'
      subst ev
      subst eH
      obtain ⟨h2, g2, d2, t2, os'⟩ := s'
      refine ⟨rv, mk_end (d := d) (fs := [(fld, y)]) (raises_own exC tyC) I1 hsz kk un2 hok2 os2 bare2 upd_same (by rw [upd_ne ne, upd_same]) hd1 ?_⟩
      have eq : upd (del (upd (upd (upd H1 (hp.objs.size + 1) (exo (hp.objs.size + 1) C none)) d (exd d [(fld, y)])) (hp.objs.size + 1) (exo (hp.objs.size + 1) C (some d))) (hp.objs.size + 1)) d (.xd [(fld, y)]) = upd H1 d (.xd [(fld, y)]) := by
        funext b
        by_cases hb : b = d
        · rw [hb, upd_same, upd_same]
        · rw [upd_ne hb, upd_ne hb]
          by_cases ha : b = hp.objs.size + 1
          · rw [ha, del_same, hn]
          · rw [del_ne ha, upd_ne ha, upd_ne hb, upd_ne ha]
      rw [eq]
      exact q1 d hd1
    | next => exact False.elim hq'
    | brk => exact False.elim hq'
    | cont => exact False.elim hq'
end
/-- an own exception class C whose __init__ takes one parameter, kn, and keeps it as fld -/
structure ExcW (P : Program) (w : World) (K : Frag) (mg : Str → Option Value) (base : Heap) (C : Addr) (fld kn : Str) : Prop where
  ex : ∃ (B i newId : String) (bmB : List Value) (fI : Addr) (fd : FuncData) (ps : List Str), ExK K C B i newId bmB ∧ PySem.W.keepIn K (.ref C) = true ∧ PySem.W.subIn K (.ref C) (.type "BaseException") = some true ∧ PySem.W.typeIn K (.ref C) = some (.type "type") ∧
    PySem.W.findIn K (.ref C) "__init__" = some (some (.ref fI)) ∧ PySem.W.typeIn K (.ref fI) = some (.type "function") ∧ FnOk P w K mg base (L2.CX P w) 1 fI fd ps (spExc C fld) ∧ Binds K fd ps [] ∧ ∀ (s : Shared) (u v : Value), BindsTo s fd ⟨[u], [(kn, v)]⟩ (ps.zip [u, v])
theorem ExcW.m {P : Program} {w : World} {K : Frag} {mg : Str → Option Value} {base : Heap} {C : Addr} {fld kn : Str} (T : ExcW P w K mg base C fld kn) : ExcM P w K mg base C fld :=
  ⟨by
    obtain ⟨B, i, newId, bmB, fI, fd, ps, t1, t2, t3, t4, t5, t6, t7, t8, _⟩ := T.ex
    exact ⟨B, i, newId, bmB, fI, fd, ps, t1, t2, t3, t4, t5, t6, t7, t8⟩⟩
theorem excW_of {P : Program} {w : World} {K : Frag} {mg : Str → Option Value} {base : Heap} {B i newId : String} {bmB : List Value} {fld file : Str} {d : DefX} {n0 n1 msg : Str} {j : Nat} {p0 p1 p2 p3 p4 p5 q0 q1 q2 q3 : Pos} {ar : Arg}
    (b : PySem.ExcBaseFacts B newId i bmB) (kx : PySem.W.KxsFacts B i) (st : PySem.StoreFacts B bmB "object.__setattr__" "object") (h1 : excB1 B i newId bmB d.cls fld K = true) (h2 : excB2 file d.qual d.cls K = true) (h3 : fnAtX K (iA K d.cls) = d.told)
    (hF : d.body = excBody n0 n1 fld msg j p0 p1 p2 p3 p4 p5 q0 q1 q2 q3) (S : NScope [n0, n1, "__class__"] [n0, n1] ["__class__"] d.scope) (hp : (d.params.posonlyargs ++ d.params.args).head? = some ar) (har : ar.arg = n0)
    (hb : ∀ (cl : List (Str × Addr)) (kV doc pm : Value) (an : Option Addr) (cdv ct : Value) (us : List Value), us.length = [n0, n1].length → bindArgs (PySem.W.fnX "__init__" d.qual d.params d.body d.scope cl .none kV doc pm an cdv ct) ⟨us, []⟩ = pure ([n0, n1].zip us))
    (hbk : ∀ (cl : List (Str × Addr)) (kV doc pm : Value) (an : Option Addr) (cdv ct : Value) (u v : Value), bindArgs (PySem.W.fnX "__init__" d.qual d.params d.body d.scope cl .none kV doc pm an cdv ct) ⟨[u], [(n1, v)]⟩ = pure ([n0, n1].zip [u, v]))
    (hfile : ((P.main.file : Str) == file) = true) (hks : d.scope.names.lookup ("super" : Str) = some .globalImplicit) (htop : (P.main.scope.names.lookup ("super" : Str)).isSome = false) (hms : mg "super" = none)
    (hd0 : (n0 == ("__debug__" : Str)) = false) (hd1 : (n1 == ("__debug__" : Str)) = false)
    {pl : List (Str × Addr) → Addr → Addr → Addr → Sem Bool} (hc : ∀ (cl : List (Str × Addr)) (c f L : Addr), eval (.Call (.Attribute (.Call (.Name "super" p0) [] [] p1) "__init__" p2) [.Constant (.str msg) j p3] [] p4) (NdefX.envF ⟨"__init__", d.qual, d.params, d.body, d.scope, cl, c⟩ f L) = (do
      let ov ← attributeBase (.Call (.Name "super" p0) [] [] p1) "__init__" (NdefX.envF ⟨"__init__", d.qual, d.params, d.body, d.scope, cl, c⟩ f L) (eval (.Call (.Name "super" p0) [] [] p1) (NdefX.envF ⟨"__init__", d.qual, d.params, d.body, d.scope, cl, c⟩ f L))
      standAt p2.atName
      let (g, first) ← holding [ov] (getMethod ov "__init__" (pl cl c f L))
      callWith p4 g first (backTo p4 (starEach [.Constant (.str msg) j p3] (NdefX.envF ⟨"__init__", d.qual, d.params, d.body, d.scope, cl, c⟩ f L))) [])) :
    ExcW P w K mg base (He.ga K d.cls) fld n1 := by
  have T := excB1_ok h1
  unfold excB2 at h2
  unfold fnAtX at h3
  cases q : K.lookup (iA K d.cls) with
  | none => rw [q] at h2; cases h2
  | some o =>
    obtain ⟨oc, od, dt, osl⟩ := o
    rw [q] at h2 h3
    cases dt with
    | func g =>
      obtain ⟨a1, a2, a3, a4, a5, a6, a7, a8, a9, a10, a11, a12, a13, a14, a15⟩ := g
      have e2 : (some (a1, a2, a3, a4, a5, a6, a7.map (·.1), a15) : FnXW) = some (("__init__" : Str), d.qual, d.params, FuncBody.stmts d.body, d.scope, mainGlobals, [("__class__" : Str)], builtinsNs) := h3
      simp only [Option.some.injEq, Prod.mk.injEq] at e2
      obtain ⟨z1, z2, z3, z4, z5, z6, z7, z8⟩ := e2
      subst z1 z2 z3 z4 z5 z6 z8
      obtain ⟨g1, g2⟩ := He.ba h2
      obtain ⟨g3, g4⟩ := He.ba g2
      have g1 := of_decide_eq_true g1
      dsimp only at g1 g3 g4
      subst g1
      split at g3
      · rename_i c
        obtain ⟨g5, g6⟩ := He.ba g3
        split at g6
        · rename_i ccl cdd vs ccs hcode
          split at g6
          · rename_i f' tf hvs
            split at g4
            · rename_i y cc
              split at g4
              · rename_i cl cld C' csl hcell
                have g4 := of_decide_eq_true g4
                subst g4
                obtain rfl : y = ("__class__" : Str) := by simpa using z7
                obtain rfl : f' = file := beq_iff_eq.mp g6
                refine ⟨B, i, newId, bmB, iA K d.cls, _, [n0, n1], T.k b kx, T.kp, T.ex, T.ty, T.ini, T.fn, fn_exc (F := ⟨"__init__", d.qual, d.params, d.body, d.scope, [("__class__", cc)], c⟩) (k := 0) (T.k b kx) (T.s st) T.no hF S rfl q g5 hp har hcode hvs hfile hcell hks htop hms hd0 hd1 (fun L => hc _ _ _ _), Binds.all fun us hl => hb _ _ _ _ _ _ _ us hl, fun s u v => .of_eq (hbk _ _ _ _ _ _ _ u v)⟩
              · cases g4
            · cases g4
          · cases g6
        · cases g6
      · cases g3
    | _ => cases h2
section
variable {X : Cx} {K : Frag} {e : Expr} {ta : TA} {p pos : Pos} {C : Addr} {x fld kn : Str} {j : Nat} {kws : List Keyword}
/-- C(e) -/
theorem pe_mkX (T : ExcW X.prog X.w K X.mg X.base C fld kn) (hr : Room j X.A) (hj : Nat.ble 2 j = true) (hm : X.mg x = some (.ref C)) (ha : PA X [e] ta) (hK : X.K = K := by rfl) (hex : X.ex = [] := by rfl) (hg : Gl X x := by rfl)
    (hdb : (x == ("__debug__" : Str)) = false := by decide) (he : starEach [e] X.env = (false, eval e X.env) :: starEach [] X.env := by rfl) (hpl : (backTo pos (starEach [] X.env)).any (·.1) = false := by rfl) :
    PE X (.Call (.Name x p) [e] [] pos) (tMkV C fld ta) := by
  subst hK
  obtain ⟨B, i, newId, bmB, fI, fd, ps, t1, t2, t3, t4, t5, t6, t7, t8, _⟩ := T.ex
  exact pe_mkV (pmk_exc2 t1 t2 t3 t4 t5 t6 t7 (hr.mono (Nat.le_of_ble_eq_true hj)) t8 passL hg hm ha hdb he hpl) hex
/-- C(kn=e) -/
theorem pe_mkXk (T : ExcW X.prog X.w K X.mg X.base C fld kn) (hr : Room j X.A) (hj : Nat.ble 2 j = true) (hm : X.mg x = some (.ref C)) (hkw : PK X kws ta) (hK : X.K = K := by rfl) (hex : X.ex = [] := by rfl) (hg : Gl X x := by rfl)
    (hall : (backToKw pos (keywordEach kws X.env)).all (·.1.isSome) = true := by rfl) (hks : (backToKw pos (keywordEach kws X.env)).filterMap (·.1) = [kn] := by rfl)
    (hdb : (x == ("__debug__" : Str)) = false := by decide) (hpl : ((backTo pos (starEach [] X.env)).any (·.1) || (backToKw pos (keywordEach kws X.env)).any (·.1.isNone)) = false := by rfl) :
    PE X (.Call (.Name x p) [] kws pos) (tMkV C fld ta) := by
  subst hK
  obtain ⟨B, i, newId, bmB, fI, fd, ps, t1, t2, t3, t4, t5, t6, t7, _, t9⟩ := T.ex
  exact pe_mkV (pmk_exck t1 t2 t3 t4 t5 t6 t7 (hr.mono (Nat.le_of_ble_eq_true hj)) t9 passL hg hm hkw hall hks hdb hpl) hex
end
end DL
set_option Elab.async false
set_option linter.all false
set_option maxRecDepth 100000
set_option maxHeartbeats 2000000
namespace DL
open PySem PySem.Spec L2 PyProof.Rows
/-! ### enumerate of a list by two names -/
def enumD : Nat → List D → List D
  | _, [] => []
  | k, x :: xs => .tup [.int (k : Int), x] :: enumD (k + 1) xs
theorem enumD_len : ∀ (k : Nat) (xs : List D), (enumD k xs).length = xs.length
  | _, [] => rfl
  | k, _ :: xs => congrArg Nat.succ (enumD_len (k + 1) xs)
theorem enumD_get : ∀ {k : Nat} {xs : List D} {i : Nat} {x : D}, xs[i]? = some x → (enumD k xs)[i]? = some (.tup [.int ((k + i : Nat) : Int), x])
  | k, a :: xs, 0, x, h => by cases h; rfl
  | k, a :: xs, i + 1, x, h => by
    have := enumD_get (k := k + 1) (xs := xs) (i := i) h
    rw [show k + 1 + i = k + (i + 1) by omega] at this
    exact this
theorem it_enum {K : Frag} {F : Hp} {a : Addr} {xs : List V} {ds : List D} (q : SqL K F a xs) (d : DenL K F ds xs) : ItOk K F (L2.Ite K a) (enumD 0 ds) where
  go := fun i F' M G H l e s => by
    rw [enumD_len, d.len] at l
    exact ⟨xs, xs[i]'l, sql_ext s.sub (sql_ext e q), List.getElem?_eq_getElem _⟩
  yld := fun i F' M G H H2 x l e s y => by
    obtain ⟨T, u, rfl, hT, rfl, h1⟩ := y
    obtain ⟨z1, e1, g1⟩ := d.get' (h1 xs (sql_ext s.sub (sql_ext e q)))
    have ex := Ext.new (o := .tup [.int (i : Nat), u]) (s.freshF hT)
    refine ⟨.tup [.int ((0 + i : Nat) : Int), z1], _, enumD_get e1, ex, s.new hT, T, [.int (i : Nat), u], rfl, SqT.of upd_same, .int (i : Nat), [u], rfl, ?_, u, [], rfl, (g1.ext e).ext ex, rfl⟩
    rw [Nat.zero_add]
    rfl
  stop := fun F' M G H e s => by
    refine ⟨xs, sql_ext s.sub (sql_ext e q), ?_⟩
    rw [enumD_len, d.len]
    exact Nat.le_refl _
def wEnum (wl : WA) (δ : DE) (M : Mem) (Q : List D → Mem → Prop) : Prop := wl δ M fun xs M1 => ∃ ds, xs = [.lst ds] ∧ Q (enumD 0 ds) M1
section
variable {K : Frag} {E : XS} {Ξ : DX} {tl : TA} {wl : WA}
instance lf_enum [a : LfA K E Ξ tl wl] : LfI K E Ξ (L2.iEnum K tl) (wEnum wl) := ⟨fun {δ M Q} h {σ F G H} e s o {R} k =>
  a.run h e s o fun xs M1 vs F1 H1 ⟨ds, e1, h1⟩ x1 s1 d1 => by
    subst e1
    obtain ⟨v, rfl, d2⟩ := den1 d1
    obtain ⟨p, ws, rfl, q, dl⟩ := d2
    exact ⟨p, ws, rfl, sql_ext s1.sub q, k _ M1 _ F1 H1 h1 x1 s1 (it_enum q dl)⟩⟩
end
theorem pi_enumK {X : Cx} {K : Frag} {e : Expr} {ta : TA} {p pos tpos : Pos} {elts : List Expr} {kk : Nat} (hm : X.mg "enumerate" = none) (ha : PA X [e] ta) (hK : X.K = K := by rfl) (hg : Gl X "enumerate" := by rfl) (hs : starEach [e] X.env = [(false, eval e X.env)] := by rfl) :
    PI X (.Tuple elts kk tpos) (.Call (.Name "enumerate" p) [e] [] pos) (L2.iEnum K ta) := by
  subst hK
  exact L2.pi_enum hg hm ha hs
section
variable {δ : DE} {ZL : List D → Mem → Prop} {M : Mem}
theorem g_enum {l : WA} (k : l δ M fun xs M1 => ∃ ds, xs = [.lst ds] ∧ ZL (enumD 0 ds) M1) : wEnum l δ M ZL := k
end
/-! ### list.count, over data -/
def rCountD (K : Frag) : V → List V → Hp → VK → Prop := fun x xs H Q => ∃ (p : Addr) (ws : List V) (y : V) (es : List PyData) (d : PyData), x = .ref p ∧ xs = [y] ∧ SqL K H p ws ∧ DpE K H x (.list es) ∧ DpE K H y d ∧ PyData.plainAll es = true ∧ d.plain = true ∧ SeqAt.shaped d = true ∧ Q (.int (es.countP fun z => PyData.eqv z d : Nat)) H
theorem mt_countD {X : Cx} (hu : X.A.units + 200 < cLine) : MtR X "list.count" (rCountD X.K) := by
  intro pins s σ H x xs v us Q I rx rxs h
  obtain ⟨p, ws, y, es, d, rfl, rfl, hs, he, hd, pe, pd, sd, q⟩ := h
  obtain ⟨bs, r2⟩ := DpE.reads I _ _ v he rx
  cases rx
  obtain ⟨u, rfl, ru⟩ := rxs.one
  obtain ⟨as, r1⟩ := DpE.reads I d y u hd ru
  cases r2 with
  | list ho hc hd2 rs =>
    refine SeqAt.count_list_data ⟨_, ho, hc, _, hd2⟩ rs r1 pe pd (roomE sd hu) ?_
    exact ⟨.int _, H, I.tok _, ⟨s.toks, rfl⟩, q⟩
section
variable {X : Cx} {K : Frag} {j : Nat} {o e : Expr} {es : List Expr} {to : TE} {t : TA} {apos cpos : Pos}
theorem pe_countK (hr : Room j X.A) (ho : PE X o to) (ha : PA X (e :: es) t) (h : X.K = K := by rfl) (hbase : attributeBase o "count" X.env (eval o X.env) = eval o X.env := by rfl)
    (hfew : ((backTo cpos (starEach (e :: es) X.env)).all (fun x => !x.1) && (backToKw cpos (keywordEach [] X.env)).all (fun x => x.1.isSome) && decide ((e :: es).length + ([] : List Keyword).length + (if ([] : List Keyword).isEmpty then 0 else 1) < 30)) = true := by rfl)
    (hline : (apos.endLine == cpos.line) = true := by rfl) (hs : starEach (e :: es) X.env = (false, eval e X.env) :: starEach es X.env := by rfl) (hplain : (backTo cpos (starEach es X.env)).any (·.1) = false := by rfl) :
    PE X (.Call (.Attribute o "count" apos) (e :: es) [] cpos) (tBM K "list" (rCountD K) to t) := by
  subst h
  exact pe_bm PySem.F.plainAttrs_list PySem.F.slot_list_count PySem.F.type_list_count (mt_countD (by have := hr.un; omega)) ho ha hbase hfew hline hs hplain
end
def wCount (x : D) (xs : List D) (M : Mem) (Q : WK) : Prop := ∃ l y es d, LstAt M x l ∧ xs = [y] ∧ toPyEL l = some es ∧ toPyE y = some d ∧ PyData.plainAll es = true ∧ d.plain = true ∧ SeqAt.shaped d = true ∧ Q (.int (es.countP fun z => PyData.eqv z d : Nat)) M
section
variable {K : Frag} {E : XS} {Ξ : DX} {to : TE} {wo : WE} {tl : TA} {wl : WA}
instance lf_count [a : LfE K E Ξ to wo] [b : LfA K E Ξ tl wl] : LfE K E Ξ (tBM K "list" (rCountD K) to tl) (wMl wCount wo wl) := ⟨fun {δ M Q} h {σ F G H} e s o {R} k =>
  a.run h e s o fun x M1 v F1 H1 ⟨⟨l0, h0⟩, h2⟩ x1 s1 d1 => by
    obtain ⟨p0, xs0, e0, q0, _⟩ := lst_at s1 d1 h0
    subst e0
    refine ⟨.inl ⟨rfl, xs0, q0⟩, b.run h2 (e.ext x1) s1 (o.ext x1) fun xs M2 us F2 H2 ⟨l, y, es, d, hl, ey, e1, e2, p1, p2, sd, hq⟩ x2 s2 d2 => ?_⟩
    subst ey
    obtain ⟨u, rfl, du⟩ := den1 d2
    obtain ⟨p, ws, e3, q, dl⟩ := lst_at s2 (d1.ext x2) hl
    cases e3
    exact ⟨p0, ws, u, es, d, rfl, rfl, q, .lst q (dpEL_of s2.sub dl e1), dpE_of s2.sub du e2, p1, p2, sd, k _ M2 _ F2 H2 hq (x1.trans x2) s2 rfl⟩⟩
end
theorem g_countB {bs : List Bool} {n : Nat} {M : Mem} {Z : WK} (h : bs.count true = n) (k : Z (.int (n : Int)) M) : wCount (.lst (bs.map .bl)) [.bl true] M Z := by
  have e : toPyEL (bs.map D.bl) = some (bs.map .bool) := by
    clear h k
    induction bs with
    | nil => rfl
    | cons b bs ih =>
      rw [List.map_cons, List.map_cons]
      unfold toPyEL
      rw [ih]
      rfl
  have p : PyData.plainAll (bs.map .bool) = true := by
    clear h k e
    induction bs with
    | nil => rfl
    | cons b bs ih =>
      rw [List.map_cons]
      unfold PyData.plainAll
      rw [ih]
      rfl
  have c : (bs.map PyData.bool).countP (fun z => PyData.eqv z (.bool true)) = bs.count true := by
    clear h k e p
    induction bs with
    | nil => rfl
    | cons b bs ih =>
      rw [List.map_cons, List.countP_cons, ih, List.count_cons]
      cases b <;> rfl
  exact ⟨_, _, _, _, .inl rfl, rfl, e, rfl, p, rfl, rfl, by rw [c, h]; exact k⟩
/-! ### isinstance of an exception, a tuple of classes -/
def rIsXT (K : Frag) (w : List V → Hp → VK → Prop) : List V → Hp → VK → Prop := fun xs H Q => (∃ (a C dd tp : Addr) (fs : List (Str × V)) (cs : List V) (us : List Value) (b : Bool), xs = [.ref a, .ref tp] ∧ H a = some (cau a C dd) ∧ H dd = some (.xd fs) ∧ ExcC K C ∧ SqT K H tp cs ∧ cs.length = us.length ∧ (∀ (i : Nat) (c : V) (u : Value), cs[i]? = some c → us[i]? = some u → ClsV c u) ∧ PySem.W.kitAny K (.ref C) us = some b ∧ Q (.bl b) H) ∨ w xs H Q
theorem call_isXT {X : Cx} {r : List V → Hp → VK → Prop} (h : CallR X (.builtin "isinstance") r) : CallR X (.builtin "isinstance") (rIsXT X.K r) := by
  intro pins s σ H xs us Q I r hh
  rcases hh with ⟨a, C, dd, tp, fs, cs, ws, b, rfl, ha, hd, T, qt, hl, hcv, e, q⟩ | hh
  · obtain ⟨u1, u2, rfl, r1, r2⟩ := vals2 r
    obtain rfl : u1 = Value.ref a := r1
    obtain rfl : u2 = Value.ref tp := r2
    obtain ⟨vs, rv, p, _⟩ := I.tuple qt
    have ev : vs = ws := by
      refine List.ext_getElem? fun i => ?_
      by_cases hi : i < cs.length
      · obtain ⟨v, hv, rvv⟩ := rv.get (List.getElem?_eq_getElem hi)
        have hw := List.getElem?_eq_getElem (show i < ws.length by omega)
        have := (hcv i _ _ (List.getElem?_eq_getElem hi) hw).eq rvv
        rw [hv, hw, this]
      · have := rv.length
        rw [List.getElem?_eq_none (by omega), List.getElem?_eq_none (by omega)]
    subst ev
    obtain ⟨⟨cls, tdd, data, sl⟩, ho2, hc2, n, hd2⟩ := p
    simp only at hc2 hd2
    subst hc2 hd2
    obtain ⟨⟨oe, vs2, ho, hc, hdd, hdf⟩, _, _⟩ := I.hok a _ ha
    obtain ⟨mA, hns, hr⟩ := (I.hok dd _ hd : ObjOk X.prog X.w H s.heap dd (.xd fs))
    obtain ⟨od, hod, _⟩ := lookIn_ns hns
    have J : PySem.W.InstAt s.heap a oe C (some od) := ⟨ho, hc, by unfold PySem.W.notCls; rw [hdf] <;> rfl, by rw [hdd]; exact hod⟩
    exact PySem.W.kia_tup (kit_exn T) I.kIn J ho2 e (fun z => nomatch z) fun tk => ⟨.bl b, H, I.tok tk, rfl, q⟩
  · exact h pins s σ H xs us Q I r hh
theorem call_isXTK {X : Cx} {K : Frag} {r : List V → Hp → VK → Prop} (h : CallR X (.builtin "isinstance") r) (hK : X.K = K := by rfl) : CallR X (.builtin "isinstance") (rIsXT K r) := by
  subst hK
  exact call_isXT h
def wIsXT (K : Frag) (w : WC) : WC := fun xs M Q => (∃ C ks l cs us b, xs = [.exn C ks l, .tup cs] ∧ ExcC K C ∧ cs.length = us.length ∧ (∀ (i : Nat) (c : DL.D) (u : Value), cs[i]? = some c → us[i]? = some u → clsW c = some u) ∧ PySem.W.kitAny K (.ref C) us = some b ∧ Q (.bl b) M) ∨ w xs M Q
instance lf_isxt {K : Frag} {E : XS} {Ξ : DX} {r : List V → Hp → VK → Prop} {w : WC} [l : LfC K E Ξ r w] : LfC K E Ξ (rIsXT K r) (wIsXT K w) := ⟨fun {xs M Q} h {F G H vs} s o d {R} k => by
  rcases h with ⟨C, ks, ls, cs, us, b, e, T, h1, h2, h3, h⟩ | h
  · subst e
    obtain ⟨v, z, rfl, d1, d2⟩ := den2 d
    obtain ⟨p, dx, xs, rfl, q1, q2, hn, dl⟩ := d1
    obtain ⟨tp, ts, rfl, qt, dt⟩ := d2
    refine .inl ⟨p, C, dx, tp, _, ts, us, b, rfl, s.sub _ _ q1, s.sub _ _ q2, T, sqt_ext s.sub qt, by rw [← dt.len]; exact h1, fun i c u hc hu => ?_, h3, k _ M _ F H h Ext.refl s rfl⟩
    obtain ⟨c', ec, dc⟩ := dt.get' hc
    exact clsv_of dc (h2 i c' u ec hu)
  · exact .inr (l.run h s o d k)⟩
/-! ### facts over many classes -/
/-- x of xs is an instance of y of xs just if it is y -/
def exTabB (xs : List Str) (K : Frag) : Bool := xs.all fun x => xs.all fun y => eqBo (PySem.W.kitOne K (.ref (He.ga K x)) (.ref (He.ga K y))) (some (decide (x = y)))
theorem exTabB_ok {xs : List Str} {K : Frag} (h : exTabB xs K = true) : ∀ x ∈ xs, ∀ y ∈ xs, PySem.W.kitOne K (.ref (He.ga K x)) (.ref (He.ga K y)) = some (decide (x = y)) := fun x hx y hy =>
  of_decide_eq_true (List.all_eq_true.mp (List.all_eq_true.mp h x hx) y hy)
def exiAllB (xs : List Str) (K : Frag) : Bool := xs.all fun x => exiB x K
theorem exiAllB_ok {xs : List Str} {K : Frag} (h : exiAllB xs K = true) : ∀ x ∈ xs, ExcC K (He.ga K x) := fun x hx => exiB_ok (List.all_eq_true.mp h x hx)
def exfAllB (xs : List (Str × Str)) (K : Frag) : Bool := xs.all fun p => exfB p.1 p.2 K
theorem exfAllB_ok {xs : List (Str × Str)} {K : Frag} (h : exfAllB xs K = true) : ∀ p ∈ xs, ExF K (He.ga K p.1) p.2 := fun p hp => exfB_ok (List.all_eq_true.mp h p hp)
/-- x of the g-th family is an instance of the own class and the type of this family alone -/
def exGrpB (xs : List (Str × Nat)) (cs : List (Str × Nat)) (ts : List (String × Nat)) (K : Frag) : Bool := xs.all fun p => (cs.all fun c => eqBo (PySem.W.kitOne K (.ref (He.ga K p.1)) (.ref (He.ga K c.1))) (some (decide (p.2 = c.2)))) && (ts.all fun t => eqBo (PySem.W.kitOne K (.ref (He.ga K p.1)) (.type t.1)) (some (decide (p.2 = t.2))))
theorem exGrpB_c {xs cs : List (Str × Nat)} {ts : List (String × Nat)} {K : Frag} (h : exGrpB xs cs ts K = true) : ∀ p ∈ xs, ∀ c ∈ cs, PySem.W.kitOne K (.ref (He.ga K p.1)) (.ref (He.ga K c.1)) = some (decide (p.2 = c.2)) := fun p hp c hc =>
  of_decide_eq_true (List.all_eq_true.mp (Bool.and_eq_true_iff.mp (List.all_eq_true.mp h p hp)).1 c hc)
theorem exGrpB_t {xs cs : List (Str × Nat)} {ts : List (String × Nat)} {K : Frag} (h : exGrpB xs cs ts K = true) : ∀ p ∈ xs, ∀ t ∈ ts, PySem.W.kitOne K (.ref (He.ga K p.1)) (.type t.1) = some (decide (p.2 = t.2)) := fun p hp t ht =>
  of_decide_eq_true (List.all_eq_true.mp (Bool.and_eq_true_iff.mp (List.all_eq_true.mp h p hp)).2 t ht)
def exNoB (xs : List Str) (ts : List String) (K : Frag) : Bool := xs.all fun x => eqBo (PySem.W.kitAny K (.ref (He.ga K x)) (ts.map .type)) (some false)
theorem exNoB_ok {xs : List Str} {ts : List String} {K : Frag} (h : exNoB xs ts K = true) : ∀ x ∈ xs, PySem.W.kitAny K (.ref (He.ga K x)) (ts.map .type) = some false := fun x hx => of_decide_eq_true (List.all_eq_true.mp h x hx)
end DL
set_option Elab.async false
set_option linter.all false
set_option maxRecDepth 100000
set_option maxHeartbeats 2000000
namespace DL
open PySem PySem.Spec L2 PyProof.Rows
/-! ### enumerate of a text by two names -/
section
variable {K : Frag} {E : XS} {Ξ : DX} {tl : TA} {wl : WA}
end
section
variable {δ : DE} {ZL : List D → Mem → Prop} {M : Mem}
end
/-! ### x.count(y), texts -/
section
variable {X : Cx} {K : Frag} {o e : Expr} {to : TE} {t : TA} {apos cpos : Pos}
end
end DL
set_option Elab.async false
set_option linter.all false
set_option maxRecDepth 100000
set_option maxHeartbeats 2000000
namespace DL
open PySem L2 PyProof.Rows
/-! ### tuples of whole numbers and texts compared by <= -/
/-! ### l != [], l a cell or data -/
end DL
set_option Elab.async false
set_option linter.all false
set_option maxRecDepth 100000
set_option synthInstance.maxSize 100000
set_option synthInstance.maxHeartbeats 4000000
set_option maxHeartbeats 4000000
namespace PK
open PySem L2 DL PyProof.Rows
/-! the text of the row, by places -/
def top (i : Nat) : Stmt := PySem.Challenge.pw_parcelindex_k01_error_classes.main.body.getD i (.Pass ⟨0, 0, 0, 0⟩)
abbrev s__law_begin : Stmt := top 40
theorem sc__law_begin : FnScope ["_law_script"] ["_law_script"] (defScope s__law_begin) := ⟨rfl, rfl, rfl, by decide +kernel, rfl, by decide +kernel, by decide +kernel⟩
abbrev s__law_kinds : Stmt := top 44
theorem sc__law_kinds : FnScope ["_law_e", "_law_told"] ["_law_e"] (defScope s__law_kinds) := ⟨rfl, rfl, rfl, by decide +kernel, rfl, by decide +kernel, by decide +kernel⟩
abbrev s__law_families_right : Stmt := top 45
theorem sc__law_families_right : FnScope ["_law_made_here", "_law_at", "_law_spot", "_law_group", "_law_e", "_law_kinds_here", "_law_own", "_law_other", "_law_k"] ["_law_made_here"] (defScope s__law_families_right) := ⟨rfl, rfl, rfl, by decide +kernel, rfl, by decide +kernel, by decide +kernel⟩
abbrev s__law_fields : Stmt := top 46
theorem sc__law_fields : FnScope ["_law_made_here", "_law_first", "_law_second", "_law_third", "_law_told", "_law_e"] ["_law_made_here"] (defScope s__law_fields) := ⟨rfl, rfl, rfl, by decide +kernel, rfl, by decide +kernel, by decide +kernel⟩
abbrev s__law_made : Stmt := top 43
theorem sc__law_made : FnScope ["_law_what", "_law_first", "_law_second", "_law_third"] ["_law_what"] (defScope s__law_made) := ⟨rfl, rfl, rfl, by decide +kernel, rfl, by decide +kernel, by decide +kernel⟩
abbrev s__law_named : Stmt := top 47
theorem sc__law_named : FnScope ["_law_what", "_law_told"] ["_law_what"] (defScope s__law_named) := ⟨rfl, rfl, rfl, by decide +kernel, rfl, by decide +kernel, by decide +kernel⟩
abbrev s__law_mixed : Stmt := top 41
theorem sc__law_mixed : FnScope ["_law_cell", "_law_k", "_law_mixed_here"] ["_law_cell", "_law_k"] (defScope s__law_mixed) := ⟨rfl, rfl, rfl, by decide +kernel, rfl, by decide +kernel, by decide +kernel⟩
abbrev s__law_next : Stmt := top 42
theorem sc__law_next : FnScope ["_law_draw", "_law_bound", "_law_every", "_law_cell", "_law_got"] ["_law_draw", "_law_bound"] (defScope s__law_next) := ⟨rfl, rfl, rfl, by decide +kernel, rfl, by decide +kernel, by decide +kernel⟩
abbrev s_law : Stmt := top 48
theorem sc_law : FnScope ["_law_script", "_law_draw", "_law_turn", "_law_amount", "_law_what"] ["_law_script"] (defScope s_law) := ⟨rfl, rfl, rfl, by decide +kernel, rfl, by decide +kernel, by decide +kernel⟩
/-- what of the row's classes and tables is leaned on -/
class CV (K : Frag) : Prop where
  tab : ∀ x ∈ (((["BadVersion", "BadRange", "BadEnvironment", "BadMarker", "BadRequirement", "BadName", "BadPath", "BadText", "BadCount", "BadEvent", "BadWay", "BadStep", "BadParcel", "BadLock", "BadBase"] : List Str) ++ (["NoChoice", "TooWide", "PathClash", "Foreign", "NoRoom", "Damaged", "Pending", "PowerCut", "WrongSum", "NotClosed", "NoRepair", "Taken"] : List Str) ++ (["NoName", "NoRelease", "NoParcel", "NoRequest", "NoPath", "NoPast", "NoMark", "NoSection"] : List Str)) : List Str), ∀ y ∈ (((["BadVersion", "BadRange", "BadEnvironment", "BadMarker", "BadRequirement", "BadName", "BadPath", "BadText", "BadCount", "BadEvent", "BadWay", "BadStep", "BadParcel", "BadLock", "BadBase"] : List Str) ++ (["NoChoice", "TooWide", "PathClash", "Foreign", "NoRoom", "Damaged", "Pending", "PowerCut", "WrongSum", "NotClosed", "NoRepair", "Taken"] : List Str) ++ (["NoName", "NoRelease", "NoParcel", "NoRequest", "NoPath", "NoPast", "NoMark", "NoSection"] : List Str)) : List Str), PySem.W.kitOne K (.ref (He.ga K x)) (.ref (He.ga K y)) = some (decide (x = y))
  exi : ∀ x ∈ (((["BadVersion", "BadRange", "BadEnvironment", "BadMarker", "BadRequirement", "BadName", "BadPath", "BadText", "BadCount", "BadEvent", "BadWay", "BadStep", "BadParcel", "BadLock", "BadBase"] : List Str) ++ (["NoChoice", "TooWide", "PathClash", "Foreign", "NoRoom", "Damaged", "Pending", "PowerCut", "WrongSum", "NotClosed", "NoRepair", "Taken"] : List Str) ++ (["NoName", "NoRelease", "NoParcel", "NoRequest", "NoPath", "NoPast", "NoMark", "NoSection"] : List Str)) : List Str), ExcC K (He.ga K x)
  exf : ∀ p ∈ ((([("BadVersion", "given"), ("BadRange", "given"), ("BadEnvironment", "given"), ("BadMarker", "given"), ("BadRequirement", "given"), ("BadName", "given"), ("BadPath", "given"), ("BadText", "given"), ("BadCount", "given"), ("BadEvent", "given"), ("BadWay", "given"), ("BadStep", "place"), ("BadParcel", "line"), ("BadLock", "line"), ("BadBase", "line")] : List (Str × Str)) ++ ([("NoChoice", "clash"), ("TooWide", "most"), ("PathClash", "given"), ("Foreign", "given"), ("NoRoom", "wanted"), ("Damaged", "found"), ("Pending", "begun"), ("PowerCut", "done"), ("WrongSum", "given"), ("NotClosed", "given"), ("NoRepair", "given"), ("Taken", "given")] : List (Str × Str)) ++ ([("NoName", "given"), ("NoRelease", "given"), ("NoParcel", "given"), ("NoRequest", "given"), ("NoPath", "given"), ("NoPast", "given"), ("NoMark", "given"), ("NoSection", "given")] : List (Str × Str))) : List (Str × Str)), ExF K (He.ga K p.1) p.2
  grc : ∀ p ∈ ((([("BadVersion", 0), ("BadRange", 0), ("BadEnvironment", 0), ("BadMarker", 0), ("BadRequirement", 0), ("BadName", 0), ("BadPath", 0), ("BadText", 0), ("BadCount", 0), ("BadEvent", 0), ("BadWay", 0), ("BadStep", 0), ("BadParcel", 0), ("BadLock", 0), ("BadBase", 0)] : List (Str × Nat)) ++ ([("NoChoice", 1), ("TooWide", 1), ("PathClash", 1), ("Foreign", 1), ("NoRoom", 1), ("Damaged", 1), ("Pending", 1), ("PowerCut", 1), ("WrongSum", 1), ("NotClosed", 1), ("NoRepair", 1), ("Taken", 1)] : List (Str × Nat)) ++ ([("NoName", 2), ("NoRelease", 2), ("NoParcel", 2), ("NoRequest", 2), ("NoPath", 2), ("NoPast", 2), ("NoMark", 2), ("NoSection", 2)] : List (Str × Nat))) : List (Str × Nat)), ∀ c ∈ ([("ParcelError", 0), ("ChoiceError", 1), ("AbsentError", 2)] : List (Str × Nat)), PySem.W.kitOne K (.ref (He.ga K p.1)) (.ref (He.ga K c.1)) = some (decide (p.2 = c.2))
  grt : ∀ p ∈ ((([("BadVersion", 0), ("BadRange", 0), ("BadEnvironment", 0), ("BadMarker", 0), ("BadRequirement", 0), ("BadName", 0), ("BadPath", 0), ("BadText", 0), ("BadCount", 0), ("BadEvent", 0), ("BadWay", 0), ("BadStep", 0), ("BadParcel", 0), ("BadLock", 0), ("BadBase", 0)] : List (Str × Nat)) ++ ([("NoChoice", 1), ("TooWide", 1), ("PathClash", 1), ("Foreign", 1), ("NoRoom", 1), ("Damaged", 1), ("Pending", 1), ("PowerCut", 1), ("WrongSum", 1), ("NotClosed", 1), ("NoRepair", 1), ("Taken", 1)] : List (Str × Nat)) ++ ([("NoName", 2), ("NoRelease", 2), ("NoParcel", 2), ("NoRequest", 2), ("NoPath", 2), ("NoPast", 2), ("NoMark", 2), ("NoSection", 2)] : List (Str × Nat))) : List (Str × Nat)), ∀ t ∈ ([("ValueError", 0), ("RuntimeError", 1), ("LookupError", 2)] : List (String × Nat)), PySem.W.kitOne K (.ref (He.ga K p.1)) (.type t.1) = some (decide (p.2 = t.2))
  exn : ∀ x ∈ (((["BadVersion", "BadRange", "BadEnvironment", "BadMarker", "BadRequirement", "BadName", "BadPath", "BadText", "BadCount", "BadEvent", "BadWay", "BadStep", "BadParcel", "BadLock", "BadBase"] : List Str) ++ (["NoChoice", "TooWide", "PathClash", "Foreign", "NoRoom", "Damaged", "Pending", "PowerCut", "WrongSum", "NotClosed", "NoRepair", "Taken"] : List Str) ++ (["NoName", "NoRelease", "NoParcel", "NoRequest", "NoPath", "NoPast", "NoMark", "NoSection"] : List Str)) : List Str), PySem.W.kitAny K (.ref (He.ga K x)) ((["KeyError", "IndexError", "NotImplementedError"] : List String).map .type) = some false
end PK
set_option maxRecDepth 1000000
set_option maxHeartbeats 0
namespace PK
open PySem PySem.Spec PyProof.Rows L2 DL
def d__law_begin : DefY := ⟨fun K => He.ga K "_law_begin", "_law_begin", "_law_begin", defArgs s__law_begin, defBody s__law_begin, defScope s__law_begin, fun K => [], fun K => []⟩
def d__law_kinds : DefY := ⟨fun K => He.ga K "_law_kinds", "_law_kinds", "_law_kinds", defArgs s__law_kinds, defBody s__law_kinds, defScope s__law_kinds, fun K => [], fun K => []⟩
def d__law_families_right : DefY := ⟨fun K => He.ga K "_law_families_right", "_law_families_right", "_law_families_right", defArgs s__law_families_right, defBody s__law_families_right, defScope s__law_families_right, fun K => [], fun K => []⟩
def d__law_fields : DefY := ⟨fun K => He.ga K "_law_fields", "_law_fields", "_law_fields", defArgs s__law_fields, defBody s__law_fields, defScope s__law_fields, fun K => [], fun K => []⟩
def d__law_made : DefY := ⟨fun K => He.ga K "_law_made", "_law_made", "_law_made", defArgs s__law_made, defBody s__law_made, defScope s__law_made, fun K => [], fun K => []⟩
def d__law_named : DefY := ⟨fun K => He.ga K "_law_named", "_law_named", "_law_named", defArgs s__law_named, defBody s__law_named, defScope s__law_named, fun K => [], fun K => []⟩
def d__law_mixed : DefY := ⟨fun K => He.ga K "_law_mixed", "_law_mixed", "_law_mixed", defArgs s__law_mixed, defBody s__law_mixed, defScope s__law_mixed, fun K => [], fun K => []⟩
def d__law_next : DefY := ⟨fun K => He.ga K "_law_next", "_law_next", "_law_next", defArgs s__law_next, defBody s__law_next, defScope s__law_next, fun K => [], fun K => []⟩
def d_law : DefY := ⟨fun K => He.ga K "law", "law", "law", defArgs s_law, defBody s_law, defScope s_law, fun K => [], fun K => []⟩
def fnL : List DefY := [d__law_begin, d__law_kinds, d__law_families_right, d__law_fields, d__law_made, d__law_named, d__law_mixed, d__law_next, d_law]
abbrev s_BadBase___init__ : Stmt := inClass (top 16) 0
def dx_BadBase : DefX := ⟨"BadBase", "BadBase.__init__", defArgs s_BadBase___init__, defBody s_BadBase___init__, defScope s_BadBase___init__⟩
abbrev s_BadCount___init__ : Stmt := inClass (top 10) 0
def dx_BadCount : DefX := ⟨"BadCount", "BadCount.__init__", defArgs s_BadCount___init__, defBody s_BadCount___init__, defScope s_BadCount___init__⟩
abbrev s_BadEnvironment___init__ : Stmt := inClass (top 4) 0
def dx_BadEnvironment : DefX := ⟨"BadEnvironment", "BadEnvironment.__init__", defArgs s_BadEnvironment___init__, defBody s_BadEnvironment___init__, defScope s_BadEnvironment___init__⟩
abbrev s_BadEvent___init__ : Stmt := inClass (top 11) 0
def dx_BadEvent : DefX := ⟨"BadEvent", "BadEvent.__init__", defArgs s_BadEvent___init__, defBody s_BadEvent___init__, defScope s_BadEvent___init__⟩
abbrev s_BadLock___init__ : Stmt := inClass (top 15) 0
def dx_BadLock : DefX := ⟨"BadLock", "BadLock.__init__", defArgs s_BadLock___init__, defBody s_BadLock___init__, defScope s_BadLock___init__⟩
abbrev s_BadMarker___init__ : Stmt := inClass (top 5) 0
def dx_BadMarker : DefX := ⟨"BadMarker", "BadMarker.__init__", defArgs s_BadMarker___init__, defBody s_BadMarker___init__, defScope s_BadMarker___init__⟩
abbrev s_BadName___init__ : Stmt := inClass (top 7) 0
def dx_BadName : DefX := ⟨"BadName", "BadName.__init__", defArgs s_BadName___init__, defBody s_BadName___init__, defScope s_BadName___init__⟩
abbrev s_BadParcel___init__ : Stmt := inClass (top 14) 0
def dx_BadParcel : DefX := ⟨"BadParcel", "BadParcel.__init__", defArgs s_BadParcel___init__, defBody s_BadParcel___init__, defScope s_BadParcel___init__⟩
abbrev s_BadPath___init__ : Stmt := inClass (top 8) 0
def dx_BadPath : DefX := ⟨"BadPath", "BadPath.__init__", defArgs s_BadPath___init__, defBody s_BadPath___init__, defScope s_BadPath___init__⟩
abbrev s_BadRange___init__ : Stmt := inClass (top 3) 0
def dx_BadRange : DefX := ⟨"BadRange", "BadRange.__init__", defArgs s_BadRange___init__, defBody s_BadRange___init__, defScope s_BadRange___init__⟩
abbrev s_BadRequirement___init__ : Stmt := inClass (top 6) 0
def dx_BadRequirement : DefX := ⟨"BadRequirement", "BadRequirement.__init__", defArgs s_BadRequirement___init__, defBody s_BadRequirement___init__, defScope s_BadRequirement___init__⟩
abbrev s_BadStep___init__ : Stmt := inClass (top 13) 0
def dx_BadStep : DefX := ⟨"BadStep", "BadStep.__init__", defArgs s_BadStep___init__, defBody s_BadStep___init__, defScope s_BadStep___init__⟩
abbrev s_BadText___init__ : Stmt := inClass (top 9) 0
def dx_BadText : DefX := ⟨"BadText", "BadText.__init__", defArgs s_BadText___init__, defBody s_BadText___init__, defScope s_BadText___init__⟩
abbrev s_BadVersion___init__ : Stmt := inClass (top 2) 0
def dx_BadVersion : DefX := ⟨"BadVersion", "BadVersion.__init__", defArgs s_BadVersion___init__, defBody s_BadVersion___init__, defScope s_BadVersion___init__⟩
abbrev s_BadWay___init__ : Stmt := inClass (top 12) 0
def dx_BadWay : DefX := ⟨"BadWay", "BadWay.__init__", defArgs s_BadWay___init__, defBody s_BadWay___init__, defScope s_BadWay___init__⟩
abbrev s_Damaged___init__ : Stmt := inClass (top 23) 0
def dx_Damaged : DefX := ⟨"Damaged", "Damaged.__init__", defArgs s_Damaged___init__, defBody s_Damaged___init__, defScope s_Damaged___init__⟩
abbrev s_Foreign___init__ : Stmt := inClass (top 21) 0
def dx_Foreign : DefX := ⟨"Foreign", "Foreign.__init__", defArgs s_Foreign___init__, defBody s_Foreign___init__, defScope s_Foreign___init__⟩
abbrev s_NoChoice___init__ : Stmt := inClass (top 18) 0
def dx_NoChoice : DefX := ⟨"NoChoice", "NoChoice.__init__", defArgs s_NoChoice___init__, defBody s_NoChoice___init__, defScope s_NoChoice___init__⟩
abbrev s_NoMark___init__ : Stmt := inClass (top 37) 0
def dx_NoMark : DefX := ⟨"NoMark", "NoMark.__init__", defArgs s_NoMark___init__, defBody s_NoMark___init__, defScope s_NoMark___init__⟩
abbrev s_NoName___init__ : Stmt := inClass (top 31) 0
def dx_NoName : DefX := ⟨"NoName", "NoName.__init__", defArgs s_NoName___init__, defBody s_NoName___init__, defScope s_NoName___init__⟩
abbrev s_NoParcel___init__ : Stmt := inClass (top 33) 0
def dx_NoParcel : DefX := ⟨"NoParcel", "NoParcel.__init__", defArgs s_NoParcel___init__, defBody s_NoParcel___init__, defScope s_NoParcel___init__⟩
abbrev s_NoPast___init__ : Stmt := inClass (top 36) 0
def dx_NoPast : DefX := ⟨"NoPast", "NoPast.__init__", defArgs s_NoPast___init__, defBody s_NoPast___init__, defScope s_NoPast___init__⟩
abbrev s_NoPath___init__ : Stmt := inClass (top 35) 0
def dx_NoPath : DefX := ⟨"NoPath", "NoPath.__init__", defArgs s_NoPath___init__, defBody s_NoPath___init__, defScope s_NoPath___init__⟩
abbrev s_NoRelease___init__ : Stmt := inClass (top 32) 0
def dx_NoRelease : DefX := ⟨"NoRelease", "NoRelease.__init__", defArgs s_NoRelease___init__, defBody s_NoRelease___init__, defScope s_NoRelease___init__⟩
abbrev s_NoRepair___init__ : Stmt := inClass (top 28) 0
def dx_NoRepair : DefX := ⟨"NoRepair", "NoRepair.__init__", defArgs s_NoRepair___init__, defBody s_NoRepair___init__, defScope s_NoRepair___init__⟩
abbrev s_NoRequest___init__ : Stmt := inClass (top 34) 0
def dx_NoRequest : DefX := ⟨"NoRequest", "NoRequest.__init__", defArgs s_NoRequest___init__, defBody s_NoRequest___init__, defScope s_NoRequest___init__⟩
abbrev s_NoRoom___init__ : Stmt := inClass (top 22) 0
def dx_NoRoom : DefX := ⟨"NoRoom", "NoRoom.__init__", defArgs s_NoRoom___init__, defBody s_NoRoom___init__, defScope s_NoRoom___init__⟩
abbrev s_NoSection___init__ : Stmt := inClass (top 38) 0
def dx_NoSection : DefX := ⟨"NoSection", "NoSection.__init__", defArgs s_NoSection___init__, defBody s_NoSection___init__, defScope s_NoSection___init__⟩
abbrev s_NotClosed___init__ : Stmt := inClass (top 27) 0
def dx_NotClosed : DefX := ⟨"NotClosed", "NotClosed.__init__", defArgs s_NotClosed___init__, defBody s_NotClosed___init__, defScope s_NotClosed___init__⟩
abbrev s_PathClash___init__ : Stmt := inClass (top 20) 0
def dx_PathClash : DefX := ⟨"PathClash", "PathClash.__init__", defArgs s_PathClash___init__, defBody s_PathClash___init__, defScope s_PathClash___init__⟩
abbrev s_Pending___init__ : Stmt := inClass (top 24) 0
def dx_Pending : DefX := ⟨"Pending", "Pending.__init__", defArgs s_Pending___init__, defBody s_Pending___init__, defScope s_Pending___init__⟩
abbrev s_PowerCut___init__ : Stmt := inClass (top 25) 0
def dx_PowerCut : DefX := ⟨"PowerCut", "PowerCut.__init__", defArgs s_PowerCut___init__, defBody s_PowerCut___init__, defScope s_PowerCut___init__⟩
abbrev s_Taken___init__ : Stmt := inClass (top 29) 0
def dx_Taken : DefX := ⟨"Taken", "Taken.__init__", defArgs s_Taken___init__, defBody s_Taken___init__, defScope s_Taken___init__⟩
abbrev s_TooWide___init__ : Stmt := inClass (top 19) 0
def dx_TooWide : DefX := ⟨"TooWide", "TooWide.__init__", defArgs s_TooWide___init__, defBody s_TooWide___init__, defScope s_TooWide___init__⟩
abbrev s_WrongSum___init__ : Stmt := inClass (top 26) 0
def dx_WrongSum : DefX := ⟨"WrongSum", "WrongSum.__init__", defArgs s_WrongSum___init__, defBody s_WrongSum___init__, defScope s_WrongSum___init__⟩
def xsL : List DefX := [dx_BadBase, dx_BadCount, dx_BadEnvironment, dx_BadEvent, dx_BadLock, dx_BadMarker, dx_BadName, dx_BadParcel, dx_BadPath, dx_BadRange, dx_BadRequirement, dx_BadStep, dx_BadText, dx_BadVersion, dx_BadWay, dx_Damaged, dx_Foreign, dx_NoChoice, dx_NoMark, dx_NoName, dx_NoParcel, dx_NoPast, dx_NoPath, dx_NoRelease, dx_NoRepair, dx_NoRequest, dx_NoRoom, dx_NoSection, dx_NotClosed, dx_PathClash, dx_Pending, dx_PowerCut, dx_Taken, dx_TooWide, dx_WrongSum]
def faL : List He.Fa := [.glo "_law_begin", .glo "_law_kinds", .glo "_law_families_right", .glo "_law_fields", .glo "_law_made", .glo "_law_named", .glo "_law_mixed", .glo "_law_next", .glo "law", .free "isinstance", .glo "BadEnvironment", .glo "BadRange", .glo "BadVersion", .glo "BadName", .glo "BadRequirement", .glo "BadMarker", .glo "BadEvent", .glo "BadCount", .glo "BadText", .glo "BadPath", .glo "BadLock", .glo "BadParcel", .glo "BadStep", .glo "BadWay", .glo "PathClash", .glo "TooWide", .glo "NoChoice", .glo "BadBase", .glo "Pending", .glo "Damaged", .glo "NoRoom", .glo "Foreign", .glo "NoRepair", .glo "NotClosed", .glo "WrongSum", .glo "PowerCut", .glo "NoParcel", .glo "NoRelease", .glo "NoName", .glo "Taken", .glo "NoMark", .glo "NoPast", .glo "NoPath", .glo "NoRequest", .glo "NoSection", .free "enumerate", .glo "AbsentError", .glo "ChoiceError", .glo "ParcelError", .free "LookupError", .free "RuntimeError", .free "ValueError", .free "range", .free "NotImplementedError", .free "IndexError", .free "KeyError", .free "len", .free "min", .free "repr", .free "super"]
def exL : List (Frag → Bool) := [exTabB ((["BadVersion", "BadRange", "BadEnvironment", "BadMarker", "BadRequirement", "BadName", "BadPath", "BadText", "BadCount", "BadEvent", "BadWay", "BadStep", "BadParcel", "BadLock", "BadBase"] : List Str) ++ (["NoChoice", "TooWide", "PathClash", "Foreign", "NoRoom", "Damaged", "Pending", "PowerCut", "WrongSum", "NotClosed", "NoRepair", "Taken"] : List Str) ++ (["NoName", "NoRelease", "NoParcel", "NoRequest", "NoPath", "NoPast", "NoMark", "NoSection"] : List Str)), exiAllB ((["BadVersion", "BadRange", "BadEnvironment", "BadMarker", "BadRequirement", "BadName", "BadPath", "BadText", "BadCount", "BadEvent", "BadWay", "BadStep", "BadParcel", "BadLock", "BadBase"] : List Str) ++ (["NoChoice", "TooWide", "PathClash", "Foreign", "NoRoom", "Damaged", "Pending", "PowerCut", "WrongSum", "NotClosed", "NoRepair", "Taken"] : List Str) ++ (["NoName", "NoRelease", "NoParcel", "NoRequest", "NoPath", "NoPast", "NoMark", "NoSection"] : List Str)), exfAllB (([("BadVersion", "given"), ("BadRange", "given"), ("BadEnvironment", "given"), ("BadMarker", "given"), ("BadRequirement", "given"), ("BadName", "given"), ("BadPath", "given"), ("BadText", "given"), ("BadCount", "given"), ("BadEvent", "given"), ("BadWay", "given"), ("BadStep", "place"), ("BadParcel", "line"), ("BadLock", "line"), ("BadBase", "line")] : List (Str × Str)) ++ ([("NoChoice", "clash"), ("TooWide", "most"), ("PathClash", "given"), ("Foreign", "given"), ("NoRoom", "wanted"), ("Damaged", "found"), ("Pending", "begun"), ("PowerCut", "done"), ("WrongSum", "given"), ("NotClosed", "given"), ("NoRepair", "given"), ("Taken", "given")] : List (Str × Str)) ++ ([("NoName", "given"), ("NoRelease", "given"), ("NoParcel", "given"), ("NoRequest", "given"), ("NoPath", "given"), ("NoPast", "given"), ("NoMark", "given"), ("NoSection", "given")] : List (Str × Str))), exGrpB (([("BadVersion", 0), ("BadRange", 0), ("BadEnvironment", 0), ("BadMarker", 0), ("BadRequirement", 0), ("BadName", 0), ("BadPath", 0), ("BadText", 0), ("BadCount", 0), ("BadEvent", 0), ("BadWay", 0), ("BadStep", 0), ("BadParcel", 0), ("BadLock", 0), ("BadBase", 0)] : List (Str × Nat)) ++ ([("NoChoice", 1), ("TooWide", 1), ("PathClash", 1), ("Foreign", 1), ("NoRoom", 1), ("Damaged", 1), ("Pending", 1), ("PowerCut", 1), ("WrongSum", 1), ("NotClosed", 1), ("NoRepair", 1), ("Taken", 1)] : List (Str × Nat)) ++ ([("NoName", 2), ("NoRelease", 2), ("NoParcel", 2), ("NoRequest", 2), ("NoPath", 2), ("NoPast", 2), ("NoMark", 2), ("NoSection", 2)] : List (Str × Nat))) [("ParcelError", 0), ("ChoiceError", 1), ("AbsentError", 2)] [("ValueError", 0), ("RuntimeError", 1), ("LookupError", 2)], exNoB ((["BadVersion", "BadRange", "BadEnvironment", "BadMarker", "BadRequirement", "BadName", "BadPath", "BadText", "BadCount", "BadEvent", "BadWay", "BadStep", "BadParcel", "BadLock", "BadBase"] : List Str) ++ (["NoChoice", "TooWide", "PathClash", "Foreign", "NoRoom", "Damaged", "Pending", "PowerCut", "WrongSum", "NotClosed", "NoRepair", "Taken"] : List Str) ++ (["NoName", "NoRelease", "NoParcel", "NoRequest", "NoPath", "NoPast", "NoMark", "NoSection"] : List Str)) ["KeyError", "IndexError", "NotImplementedError"], excB1 "ValueError" "ValueError.__init__" "ValueError.__new__" [.type "ValueError", .type "Exception", .type "BaseException", .type "object"] "BadBase" "line", excB2 "/claim/cut.py" "BadBase.__init__" "BadBase", excB1 "ValueError" "ValueError.__init__" "ValueError.__new__" [.type "ValueError", .type "Exception", .type "BaseException", .type "object"] "BadCount" "given", excB2 "/claim/cut.py" "BadCount.__init__" "BadCount", excB1 "ValueError" "ValueError.__init__" "ValueError.__new__" [.type "ValueError", .type "Exception", .type "BaseException", .type "object"] "BadEnvironment" "given", excB2 "/claim/cut.py" "BadEnvironment.__init__" "BadEnvironment", excB1 "ValueError" "ValueError.__init__" "ValueError.__new__" [.type "ValueError", .type "Exception", .type "BaseException", .type "object"] "BadEvent" "given", excB2 "/claim/cut.py" "BadEvent.__init__" "BadEvent", excB1 "ValueError" "ValueError.__init__" "ValueError.__new__" [.type "ValueError", .type "Exception", .type "BaseException", .type "object"] "BadLock" "line", excB2 "/claim/cut.py" "BadLock.__init__" "BadLock", excB1 "ValueError" "ValueError.__init__" "ValueError.__new__" [.type "ValueError", .type "Exception", .type "BaseException", .type "object"] "BadMarker" "given", excB2 "/claim/cut.py" "BadMarker.__init__" "BadMarker", excB1 "ValueError" "ValueError.__init__" "ValueError.__new__" [.type "ValueError", .type "Exception", .type "BaseException", .type "object"] "BadName" "given", excB2 "/claim/cut.py" "BadName.__init__" "BadName", excB1 "ValueError" "ValueError.__init__" "ValueError.__new__" [.type "ValueError", .type "Exception", .type "BaseException", .type "object"] "BadParcel" "line", excB2 "/claim/cut.py" "BadParcel.__init__" "BadParcel", excB1 "ValueError" "ValueError.__init__" "ValueError.__new__" [.type "ValueError", .type "Exception", .type "BaseException", .type "object"] "BadPath" "given", excB2 "/claim/cut.py" "BadPath.__init__" "BadPath", excB1 "ValueError" "ValueError.__init__" "ValueError.__new__" [.type "ValueError", .type "Exception", .type "BaseException", .type "object"] "BadRange" "given", excB2 "/claim/cut.py" "BadRange.__init__" "BadRange", excB1 "ValueError" "ValueError.__init__" "ValueError.__new__" [.type "ValueError", .type "Exception", .type "BaseException", .type "object"] "BadRequirement" "given", excB2 "/claim/cut.py" "BadRequirement.__init__" "BadRequirement", excB1 "ValueError" "ValueError.__init__" "ValueError.__new__" [.type "ValueError", .type "Exception", .type "BaseException", .type "object"] "BadStep" "place", excB2 "/claim/cut.py" "BadStep.__init__" "BadStep", excB1 "ValueError" "ValueError.__init__" "ValueError.__new__" [.type "ValueError", .type "Exception", .type "BaseException", .type "object"] "BadText" "given", excB2 "/claim/cut.py" "BadText.__init__" "BadText", excB1 "ValueError" "ValueError.__init__" "ValueError.__new__" [.type "ValueError", .type "Exception", .type "BaseException", .type "object"] "BadVersion" "given", excB2 "/claim/cut.py" "BadVersion.__init__" "BadVersion", excB1 "ValueError" "ValueError.__init__" "ValueError.__new__" [.type "ValueError", .type "Exception", .type "BaseException", .type "object"] "BadWay" "given", excB2 "/claim/cut.py" "BadWay.__init__" "BadWay", excB1 "RuntimeError" "RuntimeError.__init__" "RuntimeError.__new__" [.type "RuntimeError", .type "Exception", .type "BaseException", .type "object"] "Damaged" "found", excB2 "/claim/cut.py" "Damaged.__init__" "Damaged", excB1 "RuntimeError" "RuntimeError.__init__" "RuntimeError.__new__" [.type "RuntimeError", .type "Exception", .type "BaseException", .type "object"] "Foreign" "given", excB2 "/claim/cut.py" "Foreign.__init__" "Foreign", excB1 "RuntimeError" "RuntimeError.__init__" "RuntimeError.__new__" [.type "RuntimeError", .type "Exception", .type "BaseException", .type "object"] "NoChoice" "clash", excB2 "/claim/cut.py" "NoChoice.__init__" "NoChoice", excB1 "LookupError" "LookupError.__init__" "LookupError.__new__" [.type "LookupError", .type "Exception", .type "BaseException", .type "object"] "NoMark" "given", excB2 "/claim/cut.py" "NoMark.__init__" "NoMark", excB1 "LookupError" "LookupError.__init__" "LookupError.__new__" [.type "LookupError", .type "Exception", .type "BaseException", .type "object"] "NoName" "given", excB2 "/claim/cut.py" "NoName.__init__" "NoName", excB1 "LookupError" "LookupError.__init__" "LookupError.__new__" [.type "LookupError", .type "Exception", .type "BaseException", .type "object"] "NoParcel" "given", excB2 "/claim/cut.py" "NoParcel.__init__" "NoParcel", excB1 "LookupError" "LookupError.__init__" "LookupError.__new__" [.type "LookupError", .type "Exception", .type "BaseException", .type "object"] "NoPast" "given", excB2 "/claim/cut.py" "NoPast.__init__" "NoPast", excB1 "LookupError" "LookupError.__init__" "LookupError.__new__" [.type "LookupError", .type "Exception", .type "BaseException", .type "object"] "NoPath" "given", excB2 "/claim/cut.py" "NoPath.__init__" "NoPath", excB1 "LookupError" "LookupError.__init__" "LookupError.__new__" [.type "LookupError", .type "Exception", .type "BaseException", .type "object"] "NoRelease" "given", excB2 "/claim/cut.py" "NoRelease.__init__" "NoRelease", excB1 "RuntimeError" "RuntimeError.__init__" "RuntimeError.__new__" [.type "RuntimeError", .type "Exception", .type "BaseException", .type "object"] "NoRepair" "given", excB2 "/claim/cut.py" "NoRepair.__init__" "NoRepair", excB1 "LookupError" "LookupError.__init__" "LookupError.__new__" [.type "LookupError", .type "Exception", .type "BaseException", .type "object"] "NoRequest" "given", excB2 "/claim/cut.py" "NoRequest.__init__" "NoRequest", excB1 "RuntimeError" "RuntimeError.__init__" "RuntimeError.__new__" [.type "RuntimeError", .type "Exception", .type "BaseException", .type "object"] "NoRoom" "wanted", excB2 "/claim/cut.py" "NoRoom.__init__" "NoRoom", excB1 "LookupError" "LookupError.__init__" "LookupError.__new__" [.type "LookupError", .type "Exception", .type "BaseException", .type "object"] "NoSection" "given", excB2 "/claim/cut.py" "NoSection.__init__" "NoSection", excB1 "RuntimeError" "RuntimeError.__init__" "RuntimeError.__new__" [.type "RuntimeError", .type "Exception", .type "BaseException", .type "object"] "NotClosed" "given", excB2 "/claim/cut.py" "NotClosed.__init__" "NotClosed", excB1 "RuntimeError" "RuntimeError.__init__" "RuntimeError.__new__" [.type "RuntimeError", .type "Exception", .type "BaseException", .type "object"] "PathClash" "given", excB2 "/claim/cut.py" "PathClash.__init__" "PathClash", excB1 "RuntimeError" "RuntimeError.__init__" "RuntimeError.__new__" [.type "RuntimeError", .type "Exception", .type "BaseException", .type "object"] "Pending" "begun", excB2 "/claim/cut.py" "Pending.__init__" "Pending", excB1 "RuntimeError" "RuntimeError.__init__" "RuntimeError.__new__" [.type "RuntimeError", .type "Exception", .type "BaseException", .type "object"] "PowerCut" "done", excB2 "/claim/cut.py" "PowerCut.__init__" "PowerCut", excB1 "RuntimeError" "RuntimeError.__init__" "RuntimeError.__new__" [.type "RuntimeError", .type "Exception", .type "BaseException", .type "object"] "Taken" "given", excB2 "/claim/cut.py" "Taken.__init__" "Taken", excB1 "RuntimeError" "RuntimeError.__init__" "RuntimeError.__new__" [.type "RuntimeError", .type "Exception", .type "BaseException", .type "object"] "TooWide" "most", excB2 "/claim/cut.py" "TooWide.__init__" "TooWide", excB1 "RuntimeError" "RuntimeError.__init__" "RuntimeError.__new__" [.type "RuntimeError", .type "Exception", .type "BaseException", .type "object"] "WrongSum" "given", excB2 "/claim/cut.py" "WrongSum.__init__" "WrongSum"]
def names0 : List PySem.Str := ["__name__", "ParcelError", "BadVersion", "BadRange", "BadEnvironment", "BadMarker", "BadRequirement", "BadName", "BadPath", "BadText", "BadCount", "BadEvent", "BadWay", "BadStep", "BadParcel", "BadLock", "BadBase", "ChoiceError", "NoChoice", "TooWide", "PathClash", "Foreign", "NoRoom", "Damaged", "Pending", "PowerCut", "WrongSum", "NotClosed", "NoRepair", "Taken"]
def names1 : List PySem.Str := ["AbsentError", "NoName", "NoRelease", "NoParcel", "NoRequest", "NoPath", "NoPast", "NoMark", "NoSection", "_law_begin", "_law_mixed", "_law_next", "_law_made", "_law_kinds", "_law_families_right", "_law_fields", "_law_named"]
abbrev names : List PySem.Str := names0 ++ names1
abbrev RR : PySem.W.OpenRow := PySem.W.OpenLaw.row PySem.Challenge.rw_parcelindex_k01_error_classes
abbrev vw : Program := PySem.W.view RR.prog [48]
abbrev hk : PySem.W.Hook := hookL 1500 faL exL fnL xsL
def ob (s : PySem.W.SharedT) : AlZ := obsZ faL exL fnL xsL (He.frG (HandSHeadRun.getT s) (asR 1500))
theorem ob_eq (s : PySem.W.SharedT) : ob s = hk.obs s.abs := obsL_eq (HandSHeadRun.getT_eq s)
section
open PySem.W PySem.Calls HandSHeadRun
noncomputable section
theorem run_ab (w : World) (os : OsState) : (endF (stepQ (denQ tabQ) RR.prog w) 40000 RR.prog w os).map (fun s => (looksF RR.prog (boot_heap w.params) s.abs, seenQ vw names (importedModules RR.prog.main.body) (fun s => xlAt vw [] s && recOk RR.toRowW.records s) s.abs)) = some (true, openGood vw names) := by kernel_rfl
theorem map_fst {α β γ : Type} {o : Option α} {a : α → β} {b : α → γ} {x : β} {y : γ} (h : o.map (fun s => (a s, b s)) = some (x, y)) : o.map a = some x := by
  cases o with
  | none => cases h
  | some s => exact congrArg some (Prod.mk.inj (Option.some.inj h)).1
theorem map_snd {α β γ : Type} {o : Option α} {a : α → β} {b : α → γ} {x : β} {y : γ} (h : o.map (fun s => (a s, b s)) = some (x, y)) : o.map b = some y := by
  cases o with
  | none => cases h
  | some s => exact congrArg some (Prod.mk.inj (Option.some.inj h)).2
theorem run_a (w : World) (os : OsState) : (endF (stepQ (denQ tabQ) RR.prog w) 40000 RR.prog w os).map (fun s => looksF RR.prog (boot_heap w.params) s.abs) = some true := map_fst (run_ab w os)
theorem run_b (w : World) (os : OsState) : (endF (stepQ (denQ tabQ) RR.prog w) 40000 RR.prog w os).map (fun s => seenQ vw names (importedModules RR.prog.main.body) (fun s => xlAt vw [] s && recOk RR.toRowW.records s) s.abs) = some (openGood vw names) := map_snd (run_ab w os)
theorem run_fx (w : World) (os : OsState) : (endF (stepQ (denQ tabQ) RR.prog w) 40000 RR.prog w os).map (fun s => faL.all (fun f => f.ok (He.frG (HandSHeadRun.getT s) (asR 1500))) && exL.all (fun f => f (He.frG (HandSHeadRun.getT s) (asR 1500)))) = some true := by kernel_rfl
theorem run_d0 (w : World) (os : OsState) : (endF (stepQ (denQ tabQ) RR.prog w) 40000 RR.prog w os).map (fun s => ((fnL.drop 0).take 4).all (fun d => d.ok (He.frG (HandSHeadRun.getT s) (asR 1500)))) = some true := by kernel_rfl
theorem run_d1 (w : World) (os : OsState) : (endF (stepQ (denQ tabQ) RR.prog w) 40000 RR.prog w os).map (fun s => ((fnL.drop 4).take 5).all (fun d => d.ok (He.frG (HandSHeadRun.getT s) (asR 1500)))) = some true := by kernel_rfl
theorem run_ts (w : World) (os : OsState) : (endF (stepQ (denQ tabQ) RR.prog w) 40000 RR.prog w os).map (fun s => (fnL.map (fun d => fnAt (He.frG (HandSHeadRun.getT s) (asR 1500)) (d.adr (He.frG (HandSHeadRun.getT s) (asR 1500)))), xsL.map (fun d => fnAtX (He.frG (HandSHeadRun.getT s) (asR 1500)) (iA (He.frG (HandSHeadRun.getT s) (asR 1500)) d.cls)))) = some (fnL.map DefY.told, xsL.map DefX.told) := by kernel_rfl
theorem map_and {α : Type} {o : Option α} {a b : α → Bool} (h : o.map a = some true) (g : o.map b = some true) : o.map (fun s => a s && b s) = some true := by
  cases o with
  | none => cases h
  | some s =>
    have h1 : a s = true := Option.some.inj h
    have h2 : b s = true := Option.some.inj g
    show some (a s && b s) = some true
    rw [h1, h2] <;> rfl
theorem map_and3 {α : Type} {o : Option α} {a b c : α → Bool} (h : o.map (fun s => a s && b s) = some true) (g : o.map c = some true) : o.map (fun s => a s && (b s && c s)) = some true := by
  cases o with
  | none => cases h
  | some s =>
    have h1 : (a s && b s) = true := Option.some.inj h
    have h2 : c s = true := Option.some.inj g
    show some (a s && (b s && c s)) = some true
    rw [h2, Bool.and_true, h1]
theorem map_pair {α β γ δ : Type} {o : Option α} {a : α → β} {b : α → γ} {c : α → δ} {x : β} {y : γ} {z : δ} (h : o.map a = some x) (g : o.map (fun s => (b s, c s)) = some (y, z)) : o.map (fun s => (a s, b s, c s)) = some (x, y, z) := by
  cases o with
  | none => cases h
  | some s =>
    have h1 : a s = x := Option.some.inj h
    have h2 : (b s, c s) = (y, z) := Option.some.inj g
    show some (a s, b s, c s) = some (x, y, z)
    rw [h1, h2]
theorem map_trip {α β γ δ ε : Type} {o : Option α} {a : α → β} {b : α → γ} {c : α → δ} {d : α → ε} {x : β} {y : γ} {z : δ} {u : ε} (h : o.map a = some x) (g : o.map (fun s => (b s, c s, d s)) = some (y, z, u)) : o.map (fun s => ((a s, b s, c s), d s)) = some ((x, y, z), u) := by
  cases o with
  | none => cases h
  | some s =>
    have h1 : a s = x := Option.some.inj h
    have h2 : (b s, c s, d s) = (y, z, u) := Option.some.inj g
    obtain ⟨e1, e2⟩ := Prod.mk.inj h2
    obtain ⟨e2, e3⟩ := Prod.mk.inj e2
    show some ((a s, b s, c s), d s) = some ((x, y, z), u)
    rw [h1, e1, e2, e3]
theorem cut_d : fnL = (fnL.drop 0).take 4 ++ ((fnL.drop 4).take 5) := by rfl
theorem run_d (w : World) (os : OsState) : (endF (stepQ (denQ tabQ) RR.prog w) 40000 RR.prog w os).map (fun s => fnL.all (fun d => d.ok (He.frG (HandSHeadRun.getT s) (asR 1500)))) = some true := by
  have h := map_and (run_d0 w os) (run_d1 w os)
  rw [cut_d]
  simp only [List.all_append]
  exact h
theorem run_c (w : World) (os : OsState) : (endF (stepQ (denQ tabQ) RR.prog w) 40000 RR.prog w os).map ob = some (hk.val w) := map_pair (map_and3 (run_fx w os) (run_d w os)) (run_ts w os)
end
end
theorem run (w : World) : HandSHeadRun.RunEq RR vw hk ob 40000 names w := fun os => map_three (run_a w os) (run_b w os) (run_c w os)
end PK
namespace PK
section
open PySem PySem.Spec PyProof.Rows L2 DL
def EarlyP : Prop := ∀ (w : World) (mg : Str → Option Value) (fa : Addr) (h : Heap) (K : Frag), K.In h → SaysZ faL exL fnL xsL K → h.Ns mainGlobals mg → mg ("law" : Str) = some (.ref fa) → ∃ fd : FuncData, (∀ (s : Shared) (v : Value), BindsTo s fd ⟨[v], []⟩ [("_law_script", v)]) ∧ ∃ S : DSp, (∀ (M : Mem) (ns : List Int), ns.length ≤ 63 → (∀ a, M a = none) → S [.lst (ns.map .int)] M (fun v _ => v = .bl true) fun _ _ => False) ∧ ∀ base : Heap, K.In base → base.Ns mainGlobals mg → FnG (PySem.Challenge.rw_parcelindex_k01_error_classes).prog w K mg base (L2.CX (PySem.Challenge.rw_parcelindex_k01_error_classes).prog w) 4 fa fd ["_law_script"] (toSp K 1 S)
end
end PK
section
open PySem PySem.W PySem.Calls PyProof.Rows
theorem PK.early (F : PK.EarlyP) : PySem.Challenge.rw_parcelindex_k01_error_classes.Holds := by
  w_on; o_law
  refine HandSHeadRun.head_any (r := OpenLaw.row PySem.Challenge.rw_parcelindex_k01_error_classes) (q := view (OpenLaw.row PySem.Challenge.rw_parcelindex_k01_error_classes).prog [48]) (H := PK.hk) (ob := PK.ob) (M := 40000) (loose := PK.names) (d := HandSHeadRun.topDef (OpenLaw.row PySem.Challenge.rw_parcelindex_k01_error_classes).prog 48) (kwd := []) PK.ob_eq
    (by kernel_rfl) (fun s => by kernel_rfl) PK.run (by kernel_rfl) (by kernel_rfl) (by kernel_rfl) (by rfl) (by first | assumption | decide +kernel) (by decide +kernel) ⟨rfl, rfl, rfl, rfl, rfl, by decide +kernel⟩ ?hw ?hc
  case hw => w_witness2
  case hc =>
    refine DL.walkG (l := PySem.Challenge.rw_parcelindex_k01_error_classes) (n := 63) (k := 4) (x := "_law_script") rfl (by rw [sizeLine_eq]; decide) (by kernel_rfl) ⟨rfl, by decide, by decide⟩ ?F
    intro w mg fa h Y G hmg0
    obtain ⟨K, KX, c⟩ := Y
    have hmg : mg ("law" : PySem.Str) = some (.ref fa) := by
      have e : (HandSHeadRun.topDef (OpenLaw.row PySem.Challenge.rw_parcelindex_k01_error_classes).prog 48).name = ("law" : PySem.Str) := by kernel_rfl
      rw [← e]
      exact hmg0
    obtain ⟨fd, hb, S, hS, hF⟩ := F w mg fa h K KX c G hmg
    exact ⟨K, fd, KX, hb, S, hS, hF⟩
theorem PK.early1 : (((PySem.Challenge.rw_parcelindex_k01_error_classes).prog.main.file : PySem.Str) == ("/claim/cut.py" : PySem.Str)) = true := by kernel_rfl
theorem PK.early2 : ((PySem.Challenge.rw_parcelindex_k01_error_classes).prog.main.scope.names.lookup ("super" : PySem.Str)).isSome = false := by kernel_rfl
end
set_option Elab.async false
set_option linter.all false
set_option maxRecDepth 100000
set_option synthInstance.maxSize 100000
set_option synthInstance.maxHeartbeats 4000000
set_option maxHeartbeats 4000000
namespace PK
open PySem L2 DL PyProof.Rows
/-- the 35 classes with their fields, by families -/
abbrev exA : List (Str × Str) := (([("BadVersion", "given"), ("BadRange", "given"), ("BadEnvironment", "given"), ("BadMarker", "given"), ("BadRequirement", "given"), ("BadName", "given"), ("BadPath", "given"), ("BadText", "given"), ("BadCount", "given"), ("BadEvent", "given"), ("BadWay", "given"), ("BadStep", "place"), ("BadParcel", "line"), ("BadLock", "line"), ("BadBase", "line")] : List (Str × Str)) ++ ([("NoChoice", "clash"), ("TooWide", "most"), ("PathClash", "given"), ("Foreign", "given"), ("NoRoom", "wanted"), ("Damaged", "found"), ("Pending", "begun"), ("PowerCut", "done"), ("WrongSum", "given"), ("NotClosed", "given"), ("NoRepair", "given"), ("Taken", "given")] : List (Str × Str)) ++ ([("NoName", "given"), ("NoRelease", "given"), ("NoParcel", "given"), ("NoRequest", "given"), ("NoPath", "given"), ("NoPast", "given"), ("NoMark", "given"), ("NoSection", "given")] : List (Str × Str)))
abbrev exN : List Str := ((["BadVersion", "BadRange", "BadEnvironment", "BadMarker", "BadRequirement", "BadName", "BadPath", "BadText", "BadCount", "BadEvent", "BadWay", "BadStep", "BadParcel", "BadLock", "BadBase"] : List Str) ++ (["NoChoice", "TooWide", "PathClash", "Foreign", "NoRoom", "Damaged", "Pending", "PowerCut", "WrongSum", "NotClosed", "NoRepair", "Taken"] : List Str) ++ (["NoName", "NoRelease", "NoParcel", "NoRequest", "NoPath", "NoPast", "NoMark", "NoSection"] : List Str))
abbrev exG : List (Str × Nat) := (([("BadVersion", 0), ("BadRange", 0), ("BadEnvironment", 0), ("BadMarker", 0), ("BadRequirement", 0), ("BadName", 0), ("BadPath", 0), ("BadText", 0), ("BadCount", 0), ("BadEvent", 0), ("BadWay", 0), ("BadStep", 0), ("BadParcel", 0), ("BadLock", 0), ("BadBase", 0)] : List (Str × Nat)) ++ ([("NoChoice", 1), ("TooWide", 1), ("PathClash", 1), ("Foreign", 1), ("NoRoom", 1), ("Damaged", 1), ("Pending", 1), ("PowerCut", 1), ("WrongSum", 1), ("NotClosed", 1), ("NoRepair", 1), ("Taken", 1)] : List (Str × Nat)) ++ ([("NoName", 2), ("NoRelease", 2), ("NoParcel", 2), ("NoRequest", 2), ("NoPath", 2), ("NoPast", 2), ("NoMark", 2), ("NoSection", 2)] : List (Str × Nat)))
abbrev exE (K : Frag) (d : D) (p : Str × Str) : D := .exn (He.ga K p.1) [p.2] [d]
abbrev ex0 : List (Str × Str) := [("BadVersion", "given"), ("BadRange", "given"), ("BadEnvironment", "given"), ("BadMarker", "given"), ("BadRequirement", "given"), ("BadName", "given"), ("BadPath", "given"), ("BadText", "given"), ("BadCount", "given"), ("BadEvent", "given"), ("BadWay", "given"), ("BadStep", "place"), ("BadParcel", "line"), ("BadLock", "line"), ("BadBase", "line")]
abbrev ex1 : List (Str × Str) := [("NoChoice", "clash"), ("TooWide", "most"), ("PathClash", "given"), ("Foreign", "given"), ("NoRoom", "wanted"), ("Damaged", "found"), ("Pending", "begun"), ("PowerCut", "done"), ("WrongSum", "given"), ("NotClosed", "given"), ("NoRepair", "given"), ("Taken", "given")]
abbrev ex2 : List (Str × Str) := [("NoName", "given"), ("NoRelease", "given"), ("NoParcel", "given"), ("NoRequest", "given"), ("NoPath", "given"), ("NoPast", "given"), ("NoMark", "given"), ("NoSection", "given")]
abbrev madeD (K : Frag) (d : D) : D := .lst [.lst (ex0.map (exE K d)), .lst (ex1.map (exE K d)), .lst (ex2.map (exE K d))]
local macro_rules | `(tactic| walk_at "ws") => `(tactic| simp only [wSeq, wAsg, wName, wOp, wUn, wVar, wC, wAdd, wII, wII0, wNeg, wCmp, eqW, scalD, wIsNo, DL.isNon, wIn, inD, wIx, ixD, wSet, wGSub, wNil, wCons, wTup, wLst, wLstC, wTest, wAnd, wOr, wNot, wIf, wAndV, wOrV, wNotV, wNext, wBreak, wCont, wDrop, wRet, wRetN, wIfS, wGNil, wGCons, wGTup, wGSeq, wPar, wPar3, wChain, wTruth, wPairs, wDispC, wDisp, keysOf, DL.keyOf, wCB, wLen, lenM, wMin2, wMax2, wStr, wInt, wList, wTuple, wCall, wCallN, wBMs, isStr, wSl, wNoPart, wPart, wSlX, wSeqI, wFld, wSetF, wProp, wMeth, wMake, wMakeC, wCVal, wCMeth, IsI, IsIN, wFar, wRevL, wAppend, wExtend, wStarts, wFind, wMatch, wCases, wRng3, wZip, wFz, wMl, wOwnC, wOwnN, wCT, wStrO, putFD, false_and, and_false, exists_false, false_or, or_false, wRng1, wRng2, wYes, startD, wipeD, ixM_cells, ixM_at, ixM_left, ixM_used, setM_at, setM_left, setM_used, mset_same, mset_mset, List.map_cons, List.map_nil, List.length_cons, List.length_nil, List.replicate, List.cons_append, List.nil_append, List.append_nil, List.getElem?_cons_zero, List.getElem?_cons_succ, List.set_cons_zero, List.set_cons_succ, List.set_nil, Option.some.injEq, exists_eq_left', exists_eq_left, ex_pair, ex_three, forall_eq, forall_eq', D.int.injEq, D.str.injEq, D.bl.injEq, D.ref.injEq, D.lst.injEq, D.tup.injEq, true_and, and_true, if_true, if_false, Bool.false_eq_true, reduceCtorEq, Nat.reduceSub, Nat.reduceAdd, Nat.sub_self, List.replicate_zero, List.cons.injEq, and_self])
local macro_rules | `(tactic| walk_at "wn") => `(tactic| (refine wHold.go ?_; simp only [wSeq, wAsg, wName, wOp, wUn, wVar, wC, wAdd, wII, wII0, wNeg, wCmp, eqW, scalD, wIsNo, DL.isNon, wIn, inD, wIx, ixD, wSet, wGSub, wNil, wCons, wTup, wLst, wLstC, wTest, wAnd, wOr, wNot, wIf, wAndV, wOrV, wNotV, wNext, wBreak, wCont, wDrop, wRet, wRetN, wIfS, wGNil, wGCons, wGTup, wGSeq, wPar, wPar3, wChain, wTruth, wPairs, wDispC, wDisp, keysOf, DL.keyOf, wCB, wLen, lenM, wMin2, wMax2, wStr, wInt, wList, wTuple, wCall, wCallN, wBMs, isStr, wSl, wNoPart, wPart, wSlX, wSeqI, wFld, wSetF, wProp, wMeth, wMake, wMakeC, wCVal, wCMeth, IsI, IsIN, wFar, wRevL, wAppend, wExtend, wStarts, wFind, wMatch, wCases, wRng3, wZip, wFz, wMl, wOwnC, wOwnN, wCT, wStrO, putFD, false_and, and_false, exists_false, false_or, or_false, wRng1, wRng2, wYes, startD, wipeD, ixM_cells, ixM_at, ixM_left, ixM_used, setM_at, setM_left, setM_used, mset_same, mset_mset, List.map_cons, List.map_nil, List.length_cons, List.length_nil, List.replicate, List.cons_append, List.nil_append, List.append_nil, List.getElem?_cons_zero, List.getElem?_cons_succ, List.set_cons_zero, List.set_cons_succ, List.set_nil, Option.some.injEq, exists_eq_left', exists_eq_left, ex_pair, ex_three, forall_eq, forall_eq', D.int.injEq, D.str.injEq, D.bl.injEq, D.ref.injEq, D.lst.injEq, D.tup.injEq, true_and, and_true, if_true, if_false, Bool.false_eq_true, reduceCtorEq, Nat.reduceSub, Nat.reduceAdd, Nat.sub_self, List.replicate_zero, List.cons.injEq, and_self]))
local macro_rules | `(tactic| walk_at "wso") => `(tactic| simp only [wSeq, wAsg, wName, wOp, wUn, wVar, wC, wAdd, wII, wII0, wNeg, wCmp, eqW, scalD, wIsNo, DL.isNon, wIn, inD, wIx, ixD, wSet, wGSub, wNil, wCons, wTup, wLst, wLstC, wTest, wAnd, wOr, wNot, wIf, wAndV, wOrV, wNotV, wNext, wBreak, wCont, wDrop, wRet, wRetN, wIfS, wGNil, wGCons, wGTup, wGSeq, wPar, wPar3, wChain, wTruth, wPairs, wDispC, wDisp, keysOf, DL.keyOf, wCB, wLen, lenM, wMin2, wMax2, wStr, wInt, wList, wTuple, wCall, wCallN, wBMs, isStr, wSl, wNoPart, wPart, wSlX, wSeqI, wFld, wSetF, wProp, wMeth, wMake, wMakeC, wCVal, wCMeth, IsI, IsIN, wFar, wRevL, wAppend, wExtend, wStarts, wFind, wMatch, wCases, wRng3, wZip, wFz, wMl, putFD, false_and, and_false, exists_false, false_or, or_false, wRng1, wRng2, wYes, startD, wipeD, ixM_cells, ixM_at, ixM_left, ixM_used, setM_at, setM_left, setM_used, mset_same, mset_mset, List.map_cons, List.map_nil, List.length_cons, List.length_nil, List.replicate, List.cons_append, List.nil_append, List.append_nil, List.getElem?_cons_zero, List.getElem?_cons_succ, List.set_cons_zero, List.set_cons_succ, List.set_nil, Option.some.injEq, exists_eq_left', exists_eq_left, ex_pair, ex_three, forall_eq, forall_eq', D.int.injEq, D.str.injEq, D.bl.injEq, D.ref.injEq, D.lst.injEq, D.tup.injEq, true_and, and_true, if_true, if_false, Bool.false_eq_true, reduceCtorEq, Nat.reduceSub, Nat.reduceAdd, Nat.sub_self, List.replicate_zero, List.cons.injEq, and_self])
local macro_rules | `(tactic| walk_at "wo") => `(tactic| (refine wHold.go ?_; simp only [wSeq, wAsg, wName, wOp, wUn, wVar, wC, wAdd, wII, wII0, wNeg, wCmp, eqW, scalD, wIsNo, DL.isNon, wIn, inD, wIx, ixD, wSet, wGSub, wNil, wCons, wTup, wLst, wLstC, wTest, wAnd, wOr, wNot, wIf, wAndV, wOrV, wNotV, wNext, wBreak, wCont, wDrop, wRet, wRetN, wIfS, wGNil, wGCons, wGTup, wGSeq, wPar, wPar3, wChain, wTruth, wPairs, wDispC, wDisp, keysOf, DL.keyOf, wCB, wLen, lenM, wMin2, wMax2, wStr, wInt, wList, wTuple, wCall, wCallN, wBMs, isStr, wSl, wNoPart, wPart, wSlX, wSeqI, wFld, wSetF, wProp, wMeth, wMake, wMakeC, wCVal, wCMeth, IsI, IsIN, wFar, wRevL, wAppend, wExtend, wStarts, wFind, wMatch, wCases, wRng3, wZip, wFz, wMl, putFD, false_and, and_false, exists_false, false_or, or_false, wRng1, wRng2, wYes, startD, wipeD, ixM_cells, ixM_at, ixM_left, ixM_used, setM_at, setM_left, setM_used, mset_same, mset_mset, List.map_cons, List.map_nil, List.length_cons, List.length_nil, List.replicate, List.cons_append, List.nil_append, List.append_nil, List.getElem?_cons_zero, List.getElem?_cons_succ, List.set_cons_zero, List.set_cons_succ, List.set_nil, Option.some.injEq, exists_eq_left', exists_eq_left, ex_pair, ex_three, forall_eq, forall_eq', D.int.injEq, D.str.injEq, D.bl.injEq, D.ref.injEq, D.lst.injEq, D.tup.injEq, true_and, and_true, if_true, if_false, Bool.false_eq_true, reduceCtorEq, Nat.reduceSub, Nat.reduceAdd, Nat.sub_self, List.replicate_zero, List.cons.injEq, and_self]))
local macro_rules | `(tactic| walk_at "st") => `(tactic| first | (with_reducible refine g_reprb ?_) | ((with_reducible show wVar _ _ _ _); refine g_var rfl ?_) | (with_reducible refine g_c ?_) | (with_reducible refine g_op ?_) | (with_reducible refine g_un ?_) | (with_reducible refine g_nil ?_) | (with_reducible refine g_cons ?_) | (with_reducible refine g_tup ?_) | (with_reducible refine g_lst ?_) | (with_reducible refine g_lstC ?_) | (with_reducible refine g_isb ?_) | (with_reducible refine g_test ?_) | (with_reducible refine g_and ?_) | (with_reducible refine g_or ?_) | (with_reducible refine g_not ?_) | (with_reducible refine g_if ?_) | (with_reducible refine g_ifS ?_) | (with_reducible refine g_tt ?_) | (with_reducible refine g_ff ?_) | (with_reducible refine g_ntt ?_) | (with_reducible refine g_nff ?_) | (with_reducible refine g_andV ?_) | (with_reducible refine g_orV ?_) | (with_reducible refine g_notV ?_) | (with_reducible refine g_cb ?_) | (with_reducible refine g_bms ?_) | (with_reducible refine g_strP ?_) | (with_reducible refine g_call ?_) | (with_reducible refine g_callN ?_) | (with_reducible refine g_prop ?_) | (with_reducible refine g_propP ?_) | (with_reducible refine g_meth ?_) | (with_reducible refine g_make ?_) | (with_reducible refine g_fld ?_) | (with_reducible refine g_seqI ?_) | (with_reducible refine g_seqL ?_) | (with_reducible refine g_seqT ?_) | (with_reducible refine g_seqS ?_) | (with_reducible refine g_rng1 ?_) | (with_reducible refine g_rng2 ?_) | (with_reducible refine g_rng3 ?_) | (with_reducible refine g_zip ?_) | (with_reducible refine g_zip2 ?_) | (with_reducible refine g_zipG ?_) | (with_reducible refine g_zipH ?_) | (with_reducible refine g_enum ?_) | (with_reducible refine g_enumS ?_) | (with_reducible refine g_mkV ?_) | (with_reducible refine g_mkP ?_) | (with_reducible refine g_popAt ?_) | (with_reducible refine g_smeth ?_) | (with_reducible refine g_smethP ?_) | (with_reducible refine g_kwSm ?_) | (with_reducible refine g_kwSmP ?_) | (with_reducible refine g_zipM ?_) | (with_reducible refine g_cmeth ?_) | (with_reducible refine g_cmethP ?_) | (with_reducible refine g_try ?_) | (with_reducible refine g_kwF ?_) | (with_reducible refine g_kwCm ?_) | (with_reducible refine g_kwCmT ?_) | (with_reducible refine g_kwCmTP ?_) | (with_reducible refine g_kwT rfl rfl rfl ?_) | (with_reducible refine g_kwCmP ?_) | (with_reducible refine g_kwMeth ?_) | (with_reducible refine g_kwA rfl rfl rfl rfl ?_) | (with_reducible refine g_kwMake ?_) | (with_reducible refine g_kwMakeT ?_) | (with_reducible refine g_make00 ?_) | (with_reducible refine g_make00C ?_) | (with_reducible refine g_makeDT ?_) | (with_reducible refine g_ord ?_) | (with_reducible refine g_fmtFS ?_) | (with_reducible refine g_fmtFI ?_) | (with_reducible refine g_kwMakeC ?_) | (with_reducible refine g_exf ?_) | (with_reducible refine g_exfP rfl ?_) | (with_reducible refine g_raise ?_) | (with_reducible refine g_seq ?_) | (with_reducible refine g_hold ?_) | (with_reducible refine g_asg ?_) | (with_reducible refine g_drop ?_) | (with_reducible refine g_ret ?_) | (with_reducible refine g_retN ?_) | (with_reducible refine g_next ?_) | (with_reducible refine g_brk ?_) | (with_reducible refine g_cont ?_) | (with_reducible refine g_par ?_) | (with_reducible refine g_par3 ?_) | (with_reducible refine g_gcons ?_) | (with_reducible refine g_gnil ?_) | (with_reducible refine g_append ?_) | (with_reducible refine g_extend ?_) | (with_reducible refine g_fz ?_) | (with_reducible refine g_addi ?_) | (with_reducible refine g_ii0 ?_) | (with_reducible refine g_neg ?_) | (with_reducible refine g_cmpi ?_) | (with_reducible refine g_cmps ?_) | (with_reducible refine g_lenl ?_) | (with_reducible refine g_lent ?_) | (with_reducible refine g_min ?_) | (with_reducible refine g_max ?_) | (with_reducible refine g_strs ?_) | (with_reducible refine g_inti ?_) | (with_reducible refine g_listl ?_) | (with_reducible refine g_listt ?_) | (with_reducible refine g_tupl ?_) | (with_reducible refine g_tupt ?_) | (with_reducible refine g_tupm ?_) | (with_reducible refine g_sl ?_) | (with_reducible refine g_nopart ?_) | (with_reducible refine g_part ?_) | (with_reducible refine g_intO ?_) | (with_reducible refine g_sll ?_) | (with_reducible refine g_slt ?_) | (with_reducible refine g_chain ?_) | (with_reducible refine g_chP ?_) | (with_reducible refine g_truth ?_) | (with_reducible refine g_trub ?_) | (with_reducible refine g_trul ?_) | (with_reducible refine g_trut ?_) | (with_reducible refine g_match ?_) | (with_reducible refine g_case ?_) | (with_reducible refine g_caseN ?_) | (with_reducible refine g_lc ?_) | (with_reducible refine g_fmt ?_) | (with_reducible refine g_joined ?_) | (with_reducible refine g_jsNil ?_) | (with_reducible refine g_jsCons ?_) | (with_reducible refine g_negI ?_) | (with_reducible refine g_dc ?_) | (with_reducible refine g_ss ?_) | (with_reducible refine g_lset ?_) | (with_reducible refine g_makeV rfl ?_) | (with_reducible refine g_seqD ?_) | (with_reducible refine g_callO ?_) | (with_reducible refine g_ckI ?_) | (with_reducible refine g_gsub ?_) | (with_reducible refine g_ml ?_) | (with_reducible refine g_mlL ?_) | (with_reducible refine g_disp ?_) | (with_reducible refine g_dispC ?_) | (with_reducible refine g_prN ?_) | (with_reducible refine g_prC ?_) | (with_reducible refine g_setF ?_) | (with_reducible refine g_isB ?_) | (with_reducible refine g_for ?_) | (with_reducible refine g_while ?_) | (focus ((with_reducible apply g_nameS); (· (repeat' first | with_reducible apply DL.set_w | with_reducible apply DL.wp_cons | with_reducible exact DL.wp_nil | with_reducible apply DL.set_2 | apply DL.set_s | exact DL.set_z)))) | (focus ((with_reducible apply g_cutN); (· (repeat' first | with_reducible apply DL.set_w | with_reducible apply DL.wp_cons | with_reducible exact DL.wp_nil | with_reducible apply DL.set_2 | apply DL.set_s | exact DL.set_z)))) | (with_reducible refine g_cutR ?_) | (focus ((with_reducible apply g_twoS); (· (repeat' first | with_reducible apply DL.set_w | with_reducible apply DL.wp_cons | with_reducible exact DL.wp_nil | with_reducible apply DL.set_2 | apply DL.set_s | exact DL.set_z)))) | (focus ((with_reducible apply g_threeS); (· (repeat' first | with_reducible apply DL.set_w | with_reducible apply DL.wp_cons | with_reducible exact DL.wp_nil | with_reducible apply DL.set_2 | apply DL.set_s | exact DL.set_z)))) | ((with_reducible refine g_gseqT ?_ ?_); exact rfl) | ((with_reducible refine g_gseqL ?_ ?_); exact rfl) | ((with_reducible refine g_ask ?_ ?_); exact rfl) | ((with_reducible refine g_smethA ?_ ?_); exact rfl) | ((with_reducible refine g_sz ?_ ?_); (focus (first | decide | (simp; done) | (simp; omega)))) | ((with_reducible show eqW false _ _ _ _); refine g_eqF rfl ?_) | ((with_reducible show eqW true _ _ _ _); refine g_eqT rfl ?_) | ((with_reducible refine g_isY ?_ ?_ ?_); exact rfl; exact rfl) | ((with_reducible refine g_isN ?_ ?_ ?_); exact rfl; exact rfl) | ((with_reducible refine g_isnY ?_ ?_ ?_); exact rfl; exact rfl) | ((with_reducible refine g_isnN ?_ ?_ ?_); exact rfl; exact rfl) | ((with_reducible show wIx (.lst _) (.int _) _ _); refine g_ixl rfl ?_) | ((with_reducible show wIx (.tup _) (.int _) _ _); refine g_ixt rfl ?_) | ((with_reducible show fldP _ _ _ (.obj _ _ _) _); refine g_fldP rfl ?_) | ((with_reducible refine g_ii ?_ ?_); (focus (first | exact cdivW (by decide) (by decide) | decide | omega))) | (with_reducible refine g_appP mset_same ?_) | (with_reducible refine g_extP mset_same ?_) | (with_reducible refine g_propF ?_) | (with_reducible refine g_methF ?_) | (with_reducible refine g_truR ?_) | (with_reducible refine g_notR ?_) | (with_reducible refine g_makeD ?_) | (with_reducible refine g_binI ?_) | (with_reducible refine g_leI ?_) | (with_reducible refine g_truFb ?_) | (with_reducible refine g_truVb ?_) | (with_reducible refine g_truVl ?_) | (with_reducible refine g_boolb ?_) | ((with_reducible refine g_binF ?_ ?_ ?_ ?_); (focus (first | exact rg_mem | exact mk_mem | exact famA_mem (by simp))); (focus (first | exact rg_mem | exact mk_mem | exact famA_mem (by simp))); (focus (first | exact pr_and | exact pr_sub | exact pr_or1 | exact pr_or2 | exact pr_or))) | ((with_reducible refine g_leF ?_ ?_ ?_); (focus (first | exact rg_mem | exact mk_mem | exact famA_mem (by simp))); (focus (first | exact rg_mem | exact mk_mem | exact famA_mem (by simp)))) | ((with_reducible refine g_propFP ?_ ?_); (focus (first | exact rg_mem | exact mk_mem | exact famA_mem (by simp)))) | ((with_reducible refine g_methFP ?_ ?_ ?_); (focus (first | exact rg_mem | exact mk_mem | exact famA_mem (by simp))); (focus (exact rfl))) | ((with_reducible refine g_truF ?_ ?_); (focus (first | exact rg_mem | exact mk_mem | exact famA_mem (by simp)))) | ((with_reducible refine g_boolF ?_ ?_); (focus (first | exact rg_mem | exact mk_mem | exact famA_mem (by simp)))) | ((with_reducible refine g_strF ?_ ?_); (focus (first | exact rg_mem | exact mk_mem | exact famA_mem (by simp)))) | ((with_reducible refine g_inF ?_ ?_); (focus (first | exact rg_mem | exact mk_mem | exact famA_mem (by simp)))))
local macro_rules | `(tactic| walk_at "sts") => `(tactic| repeat (walk_at "st"))
local macro_rules | `(tactic| walk_at "s0") => `(tactic| simp only [startD, List.map_cons, List.map_nil, List.length_cons, List.length_nil, Nat.reduceSub, Nat.reduceAdd, Nat.zero_add, Nat.sub_self, List.replicate, List.cons_append, List.nil_append, List.append_nil])
local macro_rules | `(tactic| walk_at "go") => `(tactic| repeat (first | (with_reducible refine g_nerfl ?_) | (with_reducible refine g_eqrfl ?_) | walk_at "st"))
local macro_rules | `(tactic| walk_at "gi") => `(tactic| repeat ((fail_if_success (with_reducible show wSeq (wIfS _ _ _) _ _ _ _)); walk_at "st"))
local macro_rules | `(tactic| walk_at "gm") => `(tactic| repeat (first | ((with_reducible show (if decide _ = true then _ else _)); first | refine ite2 (fun h => absurd h (by decide)) fun _ => ?_ | refine ite2 (fun _ => ?_) fun h => absurd (by decide) h) | (with_reducible refine g_bnS ?_) | (with_reducible refine g_beS ?_) | (with_reducible refine g_nerfl ?_) | (with_reducible refine g_eqrfl ?_) | walk_at "st" | (with_reducible refine p_mand ?_) | (with_reducible refine p_mor ?_) | (with_reducible refine p_neg ?_)))
def S__law_begin : DSp := fun ds M Q _ => ∃ ns : List Int, ds = [.lst (ns.map .int)] ∧ ns.length ≤ 63 ∧ ∀ p, M p = none → Q (.ref p) (mset M p (Draw 0))
abbrev w__law_begin (Ξ : DL.WX) : WS :=
  (wRet (wDispC [((wC (.str "cells")), (wOp wAdd (wVar 0) (wLst (wCons (wC (.int 0)) wNil)))), ((wC (.str "at")), (wC (.int 0))), ((wC (.str "left")), (wC (.int 0))), ((wC (.str "used")), (wC (.int 0)))]))
theorem pure__law_begin : ∀ ds M Qd Ed, ds.length = 1 → S__law_begin ds M Qd Ed → w__law_begin (weakX Ed) { nx := fun _ M => weakK Qd .non M, rt := weakK Qd } (startD ["_law_script"] ds) M := by
  rintro ds M Qd Ed - ⟨ns, rfl, hl, k⟩
  walk_at "ws"
  refine ⟨small (by simp), small (by simp; omega), by decide, fun p hp => ⟨_, Wk.set Wk.refl ?_, k p hp⟩⟩
  rintro mb rfl
  refine ⟨ns ++ [0], 0, 0, 0, ?_, by simp, by simp; omega, by omega, by simp, by omega, by omega, by simp⟩
  have e : ns.map D.int ++ [D.int 0] = (ns ++ [0]).map D.int := by rw [List.map_append] <;> rfl
  rw [e]
  exact congrArg MB.dic merge_draw
theorem ok__law_begin {P : Program} {w : World} {K : Frag} {mg : Str → Option Value} {base : Heap} (D : Def1 K mg "_law_begin" s__law_begin)  [CV K] : Fn1 P w K mg base 1 "_law_begin" s__law_begin ["_law_script"] 1 S__law_begin :=
  fn1 D sc__law_begin rfl (fun _ _ _ _ _ _ us hl => match us, hl with | [_], _ => rfl) (W := fun Ξ => w__law_begin Ξ) (fun f cdv A outer s H E hr => ⟨_, (pss_one (ps_ret (pe_dispC (pe_disp (pps_cons pe_str (pe_op (k_add (K := K)) (pv 0) (pe_lst (pa_cons pe_int pa_nil))) (pps_cons pe_str pe_int (pps_cons pe_str pe_int (pps_cons pe_str pe_int pps_nil)))) (by rfl) (by rfl) (fun z => by cases z) (by decide))))),
  fun Ξ => inferInstance⟩) (pure__law_begin)
def S__law_kinds (K : Frag) : DSp := fun ds M Q _ => ∃ x f d, ds = [.exn (He.ga K x) [f] [d]] ∧ x ∈ exN ∧ Q (.lst (exN.map fun y => .bl (decide (x = y)))) M
abbrev w__law_kinds (K : Frag) (Ξ : DL.WX) : WS :=
  (wSeq (wAsg (wLst (wCons (wCB (wIsX K (wIsi K)) (wCons (wVar 0) (wCons (wC (.ref (He.ga K "BadVersion"))) wNil))) (wCons (wCB (wIsX K (wIsi K)) (wCons (wVar 0) (wCons (wC (.ref (He.ga K "BadRange"))) wNil))) (wCons (wCB (wIsX K (wIsi K)) (wCons (wVar 0) (wCons (wC (.ref (He.ga K "BadEnvironment"))) wNil))) wNil)))) (wName 1))
  (wSeq (wAsg (wOp wAdd (wVar 1) (wLst (wCons (wCB (wIsX K (wIsi K)) (wCons (wVar 0) (wCons (wC (.ref (He.ga K "BadMarker"))) wNil))) (wCons (wCB (wIsX K (wIsi K)) (wCons (wVar 0) (wCons (wC (.ref (He.ga K "BadRequirement"))) wNil))) (wCons (wCB (wIsX K (wIsi K)) (wCons (wVar 0) (wCons (wC (.ref (He.ga K "BadName"))) wNil))) wNil))))) (wName 1))
  (wSeq (wAsg (wOp wAdd (wVar 1) (wLst (wCons (wCB (wIsX K (wIsi K)) (wCons (wVar 0) (wCons (wC (.ref (He.ga K "BadPath"))) wNil))) (wCons (wCB (wIsX K (wIsi K)) (wCons (wVar 0) (wCons (wC (.ref (He.ga K "BadText"))) wNil))) (wCons (wCB (wIsX K (wIsi K)) (wCons (wVar 0) (wCons (wC (.ref (He.ga K "BadCount"))) wNil))) (wCons (wCB (wIsX K (wIsi K)) (wCons (wVar 0) (wCons (wC (.ref (He.ga K "BadEvent"))) wNil))) wNil)))))) (wName 1))
  (wSeq (wAsg (wOp wAdd (wVar 1) (wLst (wCons (wCB (wIsX K (wIsi K)) (wCons (wVar 0) (wCons (wC (.ref (He.ga K "BadWay"))) wNil))) (wCons (wCB (wIsX K (wIsi K)) (wCons (wVar 0) (wCons (wC (.ref (He.ga K "BadStep"))) wNil))) (wCons (wCB (wIsX K (wIsi K)) (wCons (wVar 0) (wCons (wC (.ref (He.ga K "BadParcel"))) wNil))) (wCons (wCB (wIsX K (wIsi K)) (wCons (wVar 0) (wCons (wC (.ref (He.ga K "BadLock"))) wNil))) wNil)))))) (wName 1))
  (wSeq (wAsg (wOp wAdd (wVar 1) (wLst (wCons (wCB (wIsX K (wIsi K)) (wCons (wVar 0) (wCons (wC (.ref (He.ga K "BadBase"))) wNil))) (wCons (wCB (wIsX K (wIsi K)) (wCons (wVar 0) (wCons (wC (.ref (He.ga K "NoChoice"))) wNil))) (wCons (wCB (wIsX K (wIsi K)) (wCons (wVar 0) (wCons (wC (.ref (He.ga K "TooWide"))) wNil))) (wCons (wCB (wIsX K (wIsi K)) (wCons (wVar 0) (wCons (wC (.ref (He.ga K "PathClash"))) wNil))) wNil)))))) (wName 1))
  (wSeq (wAsg (wOp wAdd (wVar 1) (wLst (wCons (wCB (wIsX K (wIsi K)) (wCons (wVar 0) (wCons (wC (.ref (He.ga K "Foreign"))) wNil))) (wCons (wCB (wIsX K (wIsi K)) (wCons (wVar 0) (wCons (wC (.ref (He.ga K "NoRoom"))) wNil))) (wCons (wCB (wIsX K (wIsi K)) (wCons (wVar 0) (wCons (wC (.ref (He.ga K "Damaged"))) wNil))) (wCons (wCB (wIsX K (wIsi K)) (wCons (wVar 0) (wCons (wC (.ref (He.ga K "Pending"))) wNil))) wNil)))))) (wName 1))
  (wSeq (wAsg (wOp wAdd (wVar 1) (wLst (wCons (wCB (wIsX K (wIsi K)) (wCons (wVar 0) (wCons (wC (.ref (He.ga K "PowerCut"))) wNil))) (wCons (wCB (wIsX K (wIsi K)) (wCons (wVar 0) (wCons (wC (.ref (He.ga K "WrongSum"))) wNil))) (wCons (wCB (wIsX K (wIsi K)) (wCons (wVar 0) (wCons (wC (.ref (He.ga K "NotClosed"))) wNil))) (wCons (wCB (wIsX K (wIsi K)) (wCons (wVar 0) (wCons (wC (.ref (He.ga K "NoRepair"))) wNil))) wNil)))))) (wName 1))
  (wSeq (wAsg (wOp wAdd (wVar 1) (wLst (wCons (wCB (wIsX K (wIsi K)) (wCons (wVar 0) (wCons (wC (.ref (He.ga K "Taken"))) wNil))) (wCons (wCB (wIsX K (wIsi K)) (wCons (wVar 0) (wCons (wC (.ref (He.ga K "NoName"))) wNil))) (wCons (wCB (wIsX K (wIsi K)) (wCons (wVar 0) (wCons (wC (.ref (He.ga K "NoRelease"))) wNil))) (wCons (wCB (wIsX K (wIsi K)) (wCons (wVar 0) (wCons (wC (.ref (He.ga K "NoParcel"))) wNil))) wNil)))))) (wName 1))
  (wSeq (wAsg (wOp wAdd (wVar 1) (wLst (wCons (wCB (wIsX K (wIsi K)) (wCons (wVar 0) (wCons (wC (.ref (He.ga K "NoRequest"))) wNil))) (wCons (wCB (wIsX K (wIsi K)) (wCons (wVar 0) (wCons (wC (.ref (He.ga K "NoPath"))) wNil))) (wCons (wCB (wIsX K (wIsi K)) (wCons (wVar 0) (wCons (wC (.ref (He.ga K "NoPast"))) wNil))) (wCons (wCB (wIsX K (wIsi K)) (wCons (wVar 0) (wCons (wC (.ref (He.ga K "NoMark"))) wNil))) wNil)))))) (wName 1))
  (wRet (wOp wAdd (wVar 1) (wLst (wCons (wCB (wIsX K (wIsi K)) (wCons (wVar 0) (wCons (wC (.ref (He.ga K "NoSection"))) wNil))) wNil)))))))))))))
theorem g_isX {K : Frag} [c : CV K] {x y f : Str} {d : D} {M : Mem} {Z : WK} {w : WC} (hx : x ∈ exN) (hy : y ∈ exN) (k : Z (.bl (decide (x = y))) M) : wIsX K w [.exn (He.ga K x) [f] [d], .ref (He.ga K y)] M Z := .inl ⟨_, _, _, _, _, _, rfl, c.exi x hx, rfl, c.tab x hx y hy, k⟩
theorem pure__law_kinds {K : Frag} [c : CV K] : ∀ ds M Qd Ed, ds.length = 1 → S__law_kinds K ds M Qd Ed → w__law_kinds K (weakX Ed) { nx := fun _ M => weakK Qd .non M, rt := weakK Qd } (startD ["_law_e", "_law_told"] ds) M := by
  rintro ds M Qd Ed - ⟨x, f, d, rfl, hx, k⟩
  walk_at "s0"
  walk_at "go"
  refine g_isX hx (by simp) ?_
  walk_at "go"
  refine g_isX hx (by simp) ?_
  walk_at "go"
  refine g_isX hx (by simp) ?_
  walk_at "go"
  walk_at "go"
  refine g_isX hx (by simp) ?_
  walk_at "go"
  refine g_isX hx (by simp) ?_
  walk_at "go"
  refine g_isX hx (by simp) ?_
  walk_at "go"
  refine g_addl (show 3 + 3 ≤ 1000000 from by decide) ?_
  walk_at "go"
  refine g_isX hx (by simp) ?_
  walk_at "go"
  refine g_isX hx (by simp) ?_
  walk_at "go"
  refine g_isX hx (by simp) ?_
  walk_at "go"
  refine g_isX hx (by simp) ?_
  walk_at "go"
  refine g_addl (show 6 + 4 ≤ 1000000 from by decide) ?_
  walk_at "go"
  refine g_isX hx (by simp) ?_
  walk_at "go"
  refine g_isX hx (by simp) ?_
  walk_at "go"
  refine g_isX hx (by simp) ?_
  walk_at "go"
  refine g_isX hx (by simp) ?_
  walk_at "go"
  refine g_addl (show 10 + 4 ≤ 1000000 from by decide) ?_
  walk_at "go"
  refine g_isX hx (by simp) ?_
  walk_at "go"
  refine g_isX hx (by simp) ?_
  walk_at "go"
  refine g_isX hx (by simp) ?_
  walk_at "go"
  refine g_isX hx (by simp) ?_
  walk_at "go"
  refine g_addl (show 14 + 4 ≤ 1000000 from by decide) ?_
  walk_at "go"
  refine g_isX hx (by simp) ?_
  walk_at "go"
  refine g_isX hx (by simp) ?_
  walk_at "go"
  refine g_isX hx (by simp) ?_
  walk_at "go"
  refine g_isX hx (by simp) ?_
  walk_at "go"
  refine g_addl (show 18 + 4 ≤ 1000000 from by decide) ?_
  walk_at "go"
  refine g_isX hx (by simp) ?_
  walk_at "go"
  refine g_isX hx (by simp) ?_
  walk_at "go"
  refine g_isX hx (by simp) ?_
  walk_at "go"
  refine g_isX hx (by simp) ?_
  walk_at "go"
  refine g_addl (show 22 + 4 ≤ 1000000 from by decide) ?_
  walk_at "go"
  refine g_isX hx (by simp) ?_
  walk_at "go"
  refine g_isX hx (by simp) ?_
  walk_at "go"
  refine g_isX hx (by simp) ?_
  walk_at "go"
  refine g_isX hx (by simp) ?_
  walk_at "go"
  refine g_addl (show 26 + 4 ≤ 1000000 from by decide) ?_
  walk_at "go"
  refine g_isX hx (by simp) ?_
  walk_at "go"
  refine g_isX hx (by simp) ?_
  walk_at "go"
  refine g_isX hx (by simp) ?_
  walk_at "go"
  refine g_isX hx (by simp) ?_
  walk_at "go"
  refine g_addl (show 30 + 4 ≤ 1000000 from by decide) ?_
  walk_at "go"
  refine g_isX hx (by simp) ?_
  walk_at "go"
  refine g_addl (show 34 + 1 ≤ 1000000 from by decide) ?_
  exact weakK_of k
theorem ok__law_kinds {P : Program} {w : World} {K : Frag} {mg : Str → Option Value} {base : Heap} (D : Def1 K mg "_law_kinds" s__law_kinds) (z_isinstance : mg "isinstance" = none) (g_BadEnvironment : mg "BadEnvironment" = some (.ref (He.ga K "BadEnvironment"))) (g_BadRange : mg "BadRange" = some (.ref (He.ga K "BadRange"))) (g_BadVersion : mg "BadVersion" = some (.ref (He.ga K "BadVersion"))) (g_BadName : mg "BadName" = some (.ref (He.ga K "BadName"))) (g_BadRequirement : mg "BadRequirement" = some (.ref (He.ga K "BadRequirement"))) (g_BadMarker : mg "BadMarker" = some (.ref (He.ga K "BadMarker"))) (g_BadEvent : mg "BadEvent" = some (.ref (He.ga K "BadEvent"))) (g_BadCount : mg "BadCount" = some (.ref (He.ga K "BadCount"))) (g_BadText : mg "BadText" = some (.ref (He.ga K "BadText"))) (g_BadPath : mg "BadPath" = some (.ref (He.ga K "BadPath"))) (g_BadLock : mg "BadLock" = some (.ref (He.ga K "BadLock"))) (g_BadParcel : mg "BadParcel" = some (.ref (He.ga K "BadParcel"))) (g_BadStep : mg "BadStep" = some (.ref (He.ga K "BadStep"))) (g_BadWay : mg "BadWay" = some (.ref (He.ga K "BadWay"))) (g_PathClash : mg "PathClash" = some (.ref (He.ga K "PathClash"))) (g_TooWide : mg "TooWide" = some (.ref (He.ga K "TooWide"))) (g_NoChoice : mg "NoChoice" = some (.ref (He.ga K "NoChoice"))) (g_BadBase : mg "BadBase" = some (.ref (He.ga K "BadBase"))) (g_Pending : mg "Pending" = some (.ref (He.ga K "Pending"))) (g_Damaged : mg "Damaged" = some (.ref (He.ga K "Damaged"))) (g_NoRoom : mg "NoRoom" = some (.ref (He.ga K "NoRoom"))) (g_Foreign : mg "Foreign" = some (.ref (He.ga K "Foreign"))) (g_NoRepair : mg "NoRepair" = some (.ref (He.ga K "NoRepair"))) (g_NotClosed : mg "NotClosed" = some (.ref (He.ga K "NotClosed"))) (g_WrongSum : mg "WrongSum" = some (.ref (He.ga K "WrongSum"))) (g_PowerCut : mg "PowerCut" = some (.ref (He.ga K "PowerCut"))) (g_NoParcel : mg "NoParcel" = some (.ref (He.ga K "NoParcel"))) (g_NoRelease : mg "NoRelease" = some (.ref (He.ga K "NoRelease"))) (g_NoName : mg "NoName" = some (.ref (He.ga K "NoName"))) (g_Taken : mg "Taken" = some (.ref (He.ga K "Taken"))) (g_NoMark : mg "NoMark" = some (.ref (He.ga K "NoMark"))) (g_NoPast : mg "NoPast" = some (.ref (He.ga K "NoPast"))) (g_NoPath : mg "NoPath" = some (.ref (He.ga K "NoPath"))) (g_NoRequest : mg "NoRequest" = some (.ref (He.ga K "NoRequest"))) (g_NoSection : mg "NoSection" = some (.ref (He.ga K "NoSection"))) [CV K] : Fn1 P w K mg base 1 "_law_kinds" s__law_kinds ["_law_e"] 1 (S__law_kinds K) :=
  fn1 D sc__law_kinds rfl (fun _ _ _ _ _ _ us hl => match us, hl with | [_], _ => rfl) (W := fun Ξ => w__law_kinds K Ξ) (fun f cdv A outer s H E hr => ⟨_, (pss_cons (ps_set (i := 1) sc__law_kinds.nd rfl (Or.inl rfl) (pe_lst (pa_cons (pe_callB (call_isXK (K := K) (b_isinstance (K := K))) (by rfl) z_isinstance (by decide +kernel) (pa_cons (pv 0) (pa_cons (pe_gr g_BadVersion) pa_nil))) (pa_cons (pe_callB (call_isXK (K := K) (b_isinstance (K := K))) (by rfl) z_isinstance (by decide +kernel) (pa_cons (pv 0) (pa_cons (pe_gr g_BadRange) pa_nil))) (pa_cons (pe_callB (call_isXK (K := K) (b_isinstance (K := K))) (by rfl) z_isinstance (by decide +kernel) (pa_cons (pv 0) (pa_cons (pe_gr g_BadEnvironment) pa_nil))) pa_nil)))))
  (pss_cons (ps_set (i := 1) sc__law_kinds.nd rfl (Or.inl rfl) (pe_op (k_add (K := K)) (pv 1) (pe_lst (pa_cons (pe_callB (call_isXK (K := K) (b_isinstance (K := K))) (by rfl) z_isinstance (by decide +kernel) (pa_cons (pv 0) (pa_cons (pe_gr g_BadMarker) pa_nil))) (pa_cons (pe_callB (call_isXK (K := K) (b_isinstance (K := K))) (by rfl) z_isinstance (by decide +kernel) (pa_cons (pv 0) (pa_cons (pe_gr g_BadRequirement) pa_nil))) (pa_cons (pe_callB (call_isXK (K := K) (b_isinstance (K := K))) (by rfl) z_isinstance (by decide +kernel) (pa_cons (pv 0) (pa_cons (pe_gr g_BadName) pa_nil))) pa_nil))))))
  (pss_cons (ps_set (i := 1) sc__law_kinds.nd rfl (Or.inl rfl) (pe_op (k_add (K := K)) (pv 1) (pe_lst (pa_cons (pe_callB (call_isXK (K := K) (b_isinstance (K := K))) (by rfl) z_isinstance (by decide +kernel) (pa_cons (pv 0) (pa_cons (pe_gr g_BadPath) pa_nil))) (pa_cons (pe_callB (call_isXK (K := K) (b_isinstance (K := K))) (by rfl) z_isinstance (by decide +kernel) (pa_cons (pv 0) (pa_cons (pe_gr g_BadText) pa_nil))) (pa_cons (pe_callB (call_isXK (K := K) (b_isinstance (K := K))) (by rfl) z_isinstance (by decide +kernel) (pa_cons (pv 0) (pa_cons (pe_gr g_BadCount) pa_nil))) (pa_cons (pe_callB (call_isXK (K := K) (b_isinstance (K := K))) (by rfl) z_isinstance (by decide +kernel) (pa_cons (pv 0) (pa_cons (pe_gr g_BadEvent) pa_nil))) pa_nil)))))))
  (pss_cons (ps_set (i := 1) sc__law_kinds.nd rfl (Or.inl rfl) (pe_op (k_add (K := K)) (pv 1) (pe_lst (pa_cons (pe_callB (call_isXK (K := K) (b_isinstance (K := K))) (by rfl) z_isinstance (by decide +kernel) (pa_cons (pv 0) (pa_cons (pe_gr g_BadWay) pa_nil))) (pa_cons (pe_callB (call_isXK (K := K) (b_isinstance (K := K))) (by rfl) z_isinstance (by decide +kernel) (pa_cons (pv 0) (pa_cons (pe_gr g_BadStep) pa_nil))) (pa_cons (pe_callB (call_isXK (K := K) (b_isinstance (K := K))) (by rfl) z_isinstance (by decide +kernel) (pa_cons (pv 0) (pa_cons (pe_gr g_BadParcel) pa_nil))) (pa_cons (pe_callB (call_isXK (K := K) (b_isinstance (K := K))) (by rfl) z_isinstance (by decide +kernel) (pa_cons (pv 0) (pa_cons (pe_gr g_BadLock) pa_nil))) pa_nil)))))))
  (pss_cons (ps_set (i := 1) sc__law_kinds.nd rfl (Or.inl rfl) (pe_op (k_add (K := K)) (pv 1) (pe_lst (pa_cons (pe_callB (call_isXK (K := K) (b_isinstance (K := K))) (by rfl) z_isinstance (by decide +kernel) (pa_cons (pv 0) (pa_cons (pe_gr g_BadBase) pa_nil))) (pa_cons (pe_callB (call_isXK (K := K) (b_isinstance (K := K))) (by rfl) z_isinstance (by decide +kernel) (pa_cons (pv 0) (pa_cons (pe_gr g_NoChoice) pa_nil))) (pa_cons (pe_callB (call_isXK (K := K) (b_isinstance (K := K))) (by rfl) z_isinstance (by decide +kernel) (pa_cons (pv 0) (pa_cons (pe_gr g_TooWide) pa_nil))) (pa_cons (pe_callB (call_isXK (K := K) (b_isinstance (K := K))) (by rfl) z_isinstance (by decide +kernel) (pa_cons (pv 0) (pa_cons (pe_gr g_PathClash) pa_nil))) pa_nil)))))))
  (pss_cons (ps_set (i := 1) sc__law_kinds.nd rfl (Or.inl rfl) (pe_op (k_add (K := K)) (pv 1) (pe_lst (pa_cons (pe_callB (call_isXK (K := K) (b_isinstance (K := K))) (by rfl) z_isinstance (by decide +kernel) (pa_cons (pv 0) (pa_cons (pe_gr g_Foreign) pa_nil))) (pa_cons (pe_callB (call_isXK (K := K) (b_isinstance (K := K))) (by rfl) z_isinstance (by decide +kernel) (pa_cons (pv 0) (pa_cons (pe_gr g_NoRoom) pa_nil))) (pa_cons (pe_callB (call_isXK (K := K) (b_isinstance (K := K))) (by rfl) z_isinstance (by decide +kernel) (pa_cons (pv 0) (pa_cons (pe_gr g_Damaged) pa_nil))) (pa_cons (pe_callB (call_isXK (K := K) (b_isinstance (K := K))) (by rfl) z_isinstance (by decide +kernel) (pa_cons (pv 0) (pa_cons (pe_gr g_Pending) pa_nil))) pa_nil)))))))
  (pss_cons (ps_set (i := 1) sc__law_kinds.nd rfl (Or.inl rfl) (pe_op (k_add (K := K)) (pv 1) (pe_lst (pa_cons (pe_callB (call_isXK (K := K) (b_isinstance (K := K))) (by rfl) z_isinstance (by decide +kernel) (pa_cons (pv 0) (pa_cons (pe_gr g_PowerCut) pa_nil))) (pa_cons (pe_callB (call_isXK (K := K) (b_isinstance (K := K))) (by rfl) z_isinstance (by decide +kernel) (pa_cons (pv 0) (pa_cons (pe_gr g_WrongSum) pa_nil))) (pa_cons (pe_callB (call_isXK (K := K) (b_isinstance (K := K))) (by rfl) z_isinstance (by decide +kernel) (pa_cons (pv 0) (pa_cons (pe_gr g_NotClosed) pa_nil))) (pa_cons (pe_callB (call_isXK (K := K) (b_isinstance (K := K))) (by rfl) z_isinstance (by decide +kernel) (pa_cons (pv 0) (pa_cons (pe_gr g_NoRepair) pa_nil))) pa_nil)))))))
  (pss_cons (ps_set (i := 1) sc__law_kinds.nd rfl (Or.inl rfl) (pe_op (k_add (K := K)) (pv 1) (pe_lst (pa_cons (pe_callB (call_isXK (K := K) (b_isinstance (K := K))) (by rfl) z_isinstance (by decide +kernel) (pa_cons (pv 0) (pa_cons (pe_gr g_Taken) pa_nil))) (pa_cons (pe_callB (call_isXK (K := K) (b_isinstance (K := K))) (by rfl) z_isinstance (by decide +kernel) (pa_cons (pv 0) (pa_cons (pe_gr g_NoName) pa_nil))) (pa_cons (pe_callB (call_isXK (K := K) (b_isinstance (K := K))) (by rfl) z_isinstance (by decide +kernel) (pa_cons (pv 0) (pa_cons (pe_gr g_NoRelease) pa_nil))) (pa_cons (pe_callB (call_isXK (K := K) (b_isinstance (K := K))) (by rfl) z_isinstance (by decide +kernel) (pa_cons (pv 0) (pa_cons (pe_gr g_NoParcel) pa_nil))) pa_nil)))))))
  (pss_cons (ps_set (i := 1) sc__law_kinds.nd rfl (Or.inl rfl) (pe_op (k_add (K := K)) (pv 1) (pe_lst (pa_cons (pe_callB (call_isXK (K := K) (b_isinstance (K := K))) (by rfl) z_isinstance (by decide +kernel) (pa_cons (pv 0) (pa_cons (pe_gr g_NoRequest) pa_nil))) (pa_cons (pe_callB (call_isXK (K := K) (b_isinstance (K := K))) (by rfl) z_isinstance (by decide +kernel) (pa_cons (pv 0) (pa_cons (pe_gr g_NoPath) pa_nil))) (pa_cons (pe_callB (call_isXK (K := K) (b_isinstance (K := K))) (by rfl) z_isinstance (by decide +kernel) (pa_cons (pv 0) (pa_cons (pe_gr g_NoPast) pa_nil))) (pa_cons (pe_callB (call_isXK (K := K) (b_isinstance (K := K))) (by rfl) z_isinstance (by decide +kernel) (pa_cons (pv 0) (pa_cons (pe_gr g_NoMark) pa_nil))) pa_nil)))))))
  (pss_one (ps_ret (pe_op (k_add (K := K)) (pv 1) (pe_lst (pa_cons (pe_callB (call_isXK (K := K) (b_isinstance (K := K))) (by rfl) z_isinstance (by decide +kernel) (pa_cons (pv 0) (pa_cons (pe_gr g_NoSection) pa_nil))) pa_nil)))))))))))))),
  fun Ξ => (lf_seqT inferInstance (lf_seqT inferInstance (lf_seqT inferInstance (lf_seqT inferInstance (lf_seqT inferInstance (lf_seqT inferInstance (lf_seqT inferInstance (lf_seqT inferInstance (lf_seqT inferInstance inferInstance)))))))))⟩) (pure__law_kinds)
def S__law_families_right (K : Frag) : DSp := fun ds M Q _ => ∃ d, ds = [madeD K d] ∧ Q (.bl true) M
abbrev w__law_families_right (K : Frag) (Ξ : DL.WX) : WS :=
  (wSeq (wAsg (wC (.int 0)) (wName 1))
  (wSeq (wFor (wEnum (wCons (wVar 0) wNil)) (wGSeq 2 (wGCons (wName 2) (wGCons (wName 3) wGNil)))
  (wFor (wSeqI (wVar 3)) (wName 4)
  (wSeq (wAsg (wCall 1 (S__law_kinds K) [] noX (wCons (wVar 4) wNil)) (wName 5))
  (wSeq (wAsg (wLst (wCons (wCB (wIsX K (wIsi K)) (wCons (wVar 4) (wCons (wC (.ref (He.ga K "ParcelError"))) wNil))) (wCons (wCB (wIsX K (wIsi K)) (wCons (wVar 4) (wCons (wC (.ref (He.ga K "ChoiceError"))) wNil))) (wCons (wCB (wIsX K (wIsi K)) (wCons (wVar 4) (wCons (wC (.ref (He.ga K "AbsentError"))) wNil))) wNil)))) (wName 6))
  (wSeq (wAsg (wLst (wCons (wCB (wIsX K (wIsi K)) (wCons (wVar 4) (wCons (wC (.ty "ValueError")) wNil))) (wCons (wCB (wIsX K (wIsi K)) (wCons (wVar 4) (wCons (wC (.ty "RuntimeError")) wNil))) (wCons (wCB (wIsX K (wIsi K)) (wCons (wVar 4) (wCons (wC (.ty "LookupError")) wNil))) wNil)))) (wName 7))
  (wSeq (wIfS (wOr (wTest (wOp (eqW true) (wMl wCount (wVar 5) (wCons (wC (.bl true)) wNil)) (wC (.int 1)))) (wOr (wNot (wTruth (wOp wIx (wVar 5) (wVar 1)))) (wOr (wTest (wOp (eqW true) (wVar 6) (wLc (wRng1 (wCons (wC (.int 3)) wNil)) (wName 8) [8] wYes (wOp (eqW false) (wVar 8) (wVar 2)) [8]))) (wTest (wOp (eqW true) (wVar 7) (wVar 6))))))
  (wRet (wC (.bl false))) wNext)
  (wSeq (wIfS (wTruth (wCB (wIsXT K (wIsX K (wIsi K))) (wCons (wVar 4) (wCons (wTup (wCons (wC (.ty "KeyError")) (wCons (wC (.ty "IndexError")) (wCons (wC (.ty "NotImplementedError")) wNil)))) wNil))))
  (wRet (wC (.bl false))) wNext)
  (wAsg (wOp wAdd (wVar 1) (wC (.int 1))) (wName 1)))))))))
  (wRet (wOp (eqW false) (wVar 1) (wC (.int 35))))))
theorem g_nebs {l : List Bool} {M : Mem} {Z : WK} (k : Z (.bl false) M) : eqW true (.lst (l.map .bl)) (.lst (l.map .bl)) M Z := eqW_lsts (g := PyData.bool) (n := 0) (fun a b => by cases a <;> cases b <;> rfl) (fun a => pd_bl) (by decide) (b := false) (by simp) k
theorem cnt_one : ∀ x ∈ exN, (exN.map fun y => decide (x = y)).count true = 1 := by decide +kernel
theorem g_isC {K : Frag} [c : CV K] {x f y : Str} {d : D} {M : Mem} {Z : WK} {w : WC} {g k : Nat} (hx : x ∈ exN) (hg : (x, g) ∈ exG) (hy : (y, k) ∈ ([("ParcelError", 0), ("ChoiceError", 1), ("AbsentError", 2)] : List (Str × Nat))) (q : Z (.bl (decide (g = k))) M) : wIsX K w [.exn (He.ga K x) [f] [d], .ref (He.ga K y)] M Z := .inl ⟨_, _, _, _, _, _, rfl, c.exi x hx, rfl, c.grc (x, g) hg (y, k) hy, q⟩
theorem g_isT {K : Frag} [c : CV K] {x f : Str} {y : String} {d : D} {M : Mem} {Z : WK} {w : WC} {g k : Nat} (hx : x ∈ exN) (hg : (x, g) ∈ exG) (hy : (y, k) ∈ ([("ValueError", 0), ("RuntimeError", 1), ("LookupError", 2)] : List (String × Nat))) (q : Z (.bl (decide (g = k))) M) : wIsX K w [.exn (He.ga K x) [f] [d], .ty y] M Z := .inl ⟨_, _, _, _, _, _, rfl, c.exi x hx, rfl, c.grt (x, g) hg (y, k) hy, q⟩
theorem g_isN3 {K : Frag} [c : CV K] {x f : Str} {d : D} {M : Mem} {Z : WK} {w : WC} (hx : x ∈ exN) (q : Z (.bl false) M) : wIsXT K w [.exn (He.ga K x) [f] [d], .tup [.ty "KeyError", .ty "IndexError", .ty "NotImplementedError"]] M Z :=
  .inl ⟨_, _, _, _, [.type "KeyError", .type "IndexError", .type "NotImplementedError"], _, rfl, c.exi x hx, rfl, (fun i c u hc hu => by
    rcases i with _ | _ | _ | i
    · cases hc; cases hu; rfl
    · cases hc; cases hu; rfl
    · cases hc; cases hu; rfl
    · cases hc), c.exn x hx, q⟩
theorem pure__law_families_right {K : Frag} [c : CV K] : ∀ ds M Qd Ed, ds.length = 1 → S__law_families_right K ds M Qd Ed → w__law_families_right K (weakX Ed) { nx := fun _ M => weakK Qd .non M, rt := weakK Qd } (startD ["_law_made_here", "_law_at", "_law_spot", "_law_group", "_law_e", "_law_kinds_here", "_law_own", "_law_other", "_law_k"] ds) M := by
  rintro ds M Qd Ed - ⟨d, rfl, k⟩
  walk_at "s0"
  walk_at "go"
  refine ⟨_, rfl, ?_⟩
  walk_at "go"
  refine ⟨fun i δ M' => ∃ x2 x3 x4 x5 x6 x7, δ = [some (madeD K d), some (.int ((([0, 15, 27, 35] : List Nat).getD i 0 : Nat) : Int)), x2, x3, x4, x5, x6, x7, none] ∧ M' = M, ⟨none, none, none, none, none, none, rfl, rfl⟩, ?_, ?_⟩
  · rintro i x δ M' hx ⟨x2, x3, x4, x5, x6, x7, rfl, rfl⟩
    have hi : i = 0 ∨ i = 1 ∨ i = 2 := by
      have := (List.getElem?_eq_some_iff.mp hx).1
      rw [enumD_len] at this
      have : i < 3 := this
      omega
    rcases hi with rfl | rfl | rfl
    · cases hx
      walk_at "go"
      refine ⟨fun j δ M2 => ∃ x4 x5 x6 x7, δ = [some (madeD K d), some (.int ((0 + j : Nat) : Int)), some (.int 0), some (.lst (ex0.map (exE K d))), x4, x5, x6, x7, none] ∧ M2 = M', ⟨x4, x5, x6, x7, rfl, rfl⟩, ?_, ?_⟩
      · rintro j x δ M2 hx ⟨x4, x5, x6, x7, rfl, rfl⟩
        rw [List.getElem?_map] at hx
        obtain ⟨u, hu0, rfl⟩ := Option.map_eq_some_iff.mp hx
        have hu := List.mem_of_getElem? hu0
        have hj : j < 15 := (List.getElem?_eq_some_iff.mp hu0).1
        have hn : u.1 ∈ exN := (by decide +kernel : ∀ u ∈ ex0, u.1 ∈ exN) u hu
        have hg : (u.1, 0) ∈ exG := (by decide +kernel : ∀ u ∈ ex0, (u.1, 0) ∈ exG) u hu
        have ha : exN[0 + j]? = some u.1 := by
          have h : ∀ j < 15, exN[0 + j]? = ex0[j]?.map (·.1) := by decide +kernel
          rw [h j hj, hu0]
          rfl
        have hk : L2.atI (exN.map fun y => D.bl (decide (u.1 = y))) ((0 + j : Nat) : Int) = some (.bl true) := L2.atI_nat (by
          rw [List.getElem?_map, ha]
          simp)
        walk_at "go"
        refine ⟨u.1, u.2, d, rfl, hn, ?_⟩
        walk_at "go"
        refine (show wIsX K (wIsi K) [.exn (He.ga K u.1) [u.2] [d], _] _ _ from g_isC (g := 0) hn hg (k := 0) (by simp) ?_)
        walk_at "go"
        refine (show wIsX K (wIsi K) [.exn (He.ga K u.1) [u.2] [d], _] _ _ from g_isC (g := 0) hn hg (k := 1) (by simp) ?_)
        walk_at "go"
        refine (show wIsX K (wIsi K) [.exn (He.ga K u.1) [u.2] [d], _] _ _ from g_isC (g := 0) hn hg (k := 2) (by simp) ?_)
        walk_at "go"
        refine (show wIsX K (wIsi K) [.exn (He.ga K u.1) [u.2] [d], _] _ _ from g_isT (g := 0) hn hg (k := 0) (by simp) ?_)
        walk_at "go"
        refine (show wIsX K (wIsi K) [.exn (He.ga K u.1) [u.2] [d], _] _ _ from g_isT (g := 0) hn hg (k := 1) (by simp) ?_)
        walk_at "go"
        refine (show wIsX K (wIsi K) [.exn (He.ga K u.1) [u.2] [d], _] _ _ from g_isT (g := 0) hn hg (k := 2) (by simp) ?_)
        walk_at "go"
        refine (show wCount (.lst ((exN.map fun y => decide (u.1 = y)).map .bl)) [.bl true] _ _ from g_countB (n := 1) (cnt_one u.1 hn) ?_)
        walk_at "go"
        refine ite2 (fun h => absurd h (by decide)) fun _ => ?_
        walk_at "go"
        refine g_ixl hk ?_
        walk_at "go"
        refine ⟨_, rfl, by decide, by decide, ?_⟩
        refine (show lcP _ _ _ _ _ _ _ (([0, 1, 2] : List Int).map .int) _ from lc_as (fun k => .bl (decide (k = 0))) rfl rfl (by decide) (fun k hk P1 q => ?_) ?_)
        · walk_at "go"
          exact q
        walk_at "go"
        refine (show eqW true (.lst (([true, false, false] : List Bool).map .bl)) (.lst (([true, false, false] : List Bool).map .bl)) _ _ from g_nebs ?_)
        walk_at "go"
        refine (show eqW true (.lst (([true, false, false] : List Bool).map .bl)) (.lst (([true, false, false] : List Bool).map .bl)) _ _ from g_nebs ?_)
        walk_at "go"
        refine (show wIsXT K (wIsX K (wIsi K)) [.exn (He.ga K u.1) [u.2] [d], _] _ _ from g_isN3 hn ?_)
        walk_at "go"
        rw [show (((0 + j : Nat) : Int) + 1) = ((0 + (j + 1) : Nat) : Int) by omega]
        exact ⟨_, _, _, _, rfl, rfl⟩
      · rintro δ M2 ⟨x4, x5, x6, x7, rfl, rfl⟩
        walk_at "go"
        exact ⟨_, _, _, _, _, _, rfl, rfl⟩
    · cases hx
      walk_at "go"
      refine ⟨fun j δ M2 => ∃ x4 x5 x6 x7, δ = [some (madeD K d), some (.int ((15 + j : Nat) : Int)), some (.int 1), some (.lst (ex1.map (exE K d))), x4, x5, x6, x7, none] ∧ M2 = M', ⟨x4, x5, x6, x7, rfl, rfl⟩, ?_, ?_⟩
      · rintro j x δ M2 hx ⟨x4, x5, x6, x7, rfl, rfl⟩
        rw [List.getElem?_map] at hx
        obtain ⟨u, hu0, rfl⟩ := Option.map_eq_some_iff.mp hx
        have hu := List.mem_of_getElem? hu0
        have hj : j < 12 := (List.getElem?_eq_some_iff.mp hu0).1
        have hn : u.1 ∈ exN := (by decide +kernel : ∀ u ∈ ex1, u.1 ∈ exN) u hu
        have hg : (u.1, 1) ∈ exG := (by decide +kernel : ∀ u ∈ ex1, (u.1, 1) ∈ exG) u hu
        have ha : exN[15 + j]? = some u.1 := by
          have h : ∀ j < 12, exN[15 + j]? = ex1[j]?.map (·.1) := by decide +kernel
          rw [h j hj, hu0]
          rfl
        have hk : L2.atI (exN.map fun y => D.bl (decide (u.1 = y))) ((15 + j : Nat) : Int) = some (.bl true) := L2.atI_nat (by
          rw [List.getElem?_map, ha]
          simp)
        walk_at "go"
        refine ⟨u.1, u.2, d, rfl, hn, ?_⟩
        walk_at "go"
        refine (show wIsX K (wIsi K) [.exn (He.ga K u.1) [u.2] [d], _] _ _ from g_isC (g := 1) hn hg (k := 0) (by simp) ?_)
        walk_at "go"
        refine (show wIsX K (wIsi K) [.exn (He.ga K u.1) [u.2] [d], _] _ _ from g_isC (g := 1) hn hg (k := 1) (by simp) ?_)
        walk_at "go"
        refine (show wIsX K (wIsi K) [.exn (He.ga K u.1) [u.2] [d], _] _ _ from g_isC (g := 1) hn hg (k := 2) (by simp) ?_)
        walk_at "go"
        refine (show wIsX K (wIsi K) [.exn (He.ga K u.1) [u.2] [d], _] _ _ from g_isT (g := 1) hn hg (k := 0) (by simp) ?_)
        walk_at "go"
        refine (show wIsX K (wIsi K) [.exn (He.ga K u.1) [u.2] [d], _] _ _ from g_isT (g := 1) hn hg (k := 1) (by simp) ?_)
        walk_at "go"
        refine (show wIsX K (wIsi K) [.exn (He.ga K u.1) [u.2] [d], _] _ _ from g_isT (g := 1) hn hg (k := 2) (by simp) ?_)
        walk_at "go"
        refine (show wCount (.lst ((exN.map fun y => decide (u.1 = y)).map .bl)) [.bl true] _ _ from g_countB (n := 1) (cnt_one u.1 hn) ?_)
        walk_at "go"
        refine ite2 (fun h => absurd h (by decide)) fun _ => ?_
        walk_at "go"
        refine g_ixl hk ?_
        walk_at "go"
        refine ⟨_, rfl, by decide, by decide, ?_⟩
        refine (show lcP _ _ _ _ _ _ _ (([0, 1, 2] : List Int).map .int) _ from lc_as (fun k => .bl (decide (k = 1))) rfl rfl (by decide) (fun k hk P1 q => ?_) ?_)
        · walk_at "go"
          exact q
        walk_at "go"
        refine (show eqW true (.lst (([false, true, false] : List Bool).map .bl)) (.lst (([false, true, false] : List Bool).map .bl)) _ _ from g_nebs ?_)
        walk_at "go"
        refine (show eqW true (.lst (([false, true, false] : List Bool).map .bl)) (.lst (([false, true, false] : List Bool).map .bl)) _ _ from g_nebs ?_)
        walk_at "go"
        refine (show wIsXT K (wIsX K (wIsi K)) [.exn (He.ga K u.1) [u.2] [d], _] _ _ from g_isN3 hn ?_)
        walk_at "go"
        rw [show (((15 + j : Nat) : Int) + 1) = ((15 + (j + 1) : Nat) : Int) by omega]
        exact ⟨_, _, _, _, rfl, rfl⟩
      · rintro δ M2 ⟨x4, x5, x6, x7, rfl, rfl⟩
        walk_at "go"
        exact ⟨_, _, _, _, _, _, rfl, rfl⟩
    · cases hx
      walk_at "go"
      refine ⟨fun j δ M2 => ∃ x4 x5 x6 x7, δ = [some (madeD K d), some (.int ((27 + j : Nat) : Int)), some (.int 2), some (.lst (ex2.map (exE K d))), x4, x5, x6, x7, none] ∧ M2 = M', ⟨x4, x5, x6, x7, rfl, rfl⟩, ?_, ?_⟩
      · rintro j x δ M2 hx ⟨x4, x5, x6, x7, rfl, rfl⟩
        rw [List.getElem?_map] at hx
        obtain ⟨u, hu0, rfl⟩ := Option.map_eq_some_iff.mp hx
        have hu := List.mem_of_getElem? hu0
        have hj : j < 8 := (List.getElem?_eq_some_iff.mp hu0).1
        have hn : u.1 ∈ exN := (by decide +kernel : ∀ u ∈ ex2, u.1 ∈ exN) u hu
        have hg : (u.1, 2) ∈ exG := (by decide +kernel : ∀ u ∈ ex2, (u.1, 2) ∈ exG) u hu
        have ha : exN[27 + j]? = some u.1 := by
          have h : ∀ j < 8, exN[27 + j]? = ex2[j]?.map (·.1) := by decide +kernel
          rw [h j hj, hu0]
          rfl
        have hk : L2.atI (exN.map fun y => D.bl (decide (u.1 = y))) ((27 + j : Nat) : Int) = some (.bl true) := L2.atI_nat (by
          rw [List.getElem?_map, ha]
          simp)
        walk_at "go"
        refine ⟨u.1, u.2, d, rfl, hn, ?_⟩
        walk_at "go"
        refine (show wIsX K (wIsi K) [.exn (He.ga K u.1) [u.2] [d], _] _ _ from g_isC (g := 2) hn hg (k := 0) (by simp) ?_)
        walk_at "go"
        refine (show wIsX K (wIsi K) [.exn (He.ga K u.1) [u.2] [d], _] _ _ from g_isC (g := 2) hn hg (k := 1) (by simp) ?_)
        walk_at "go"
        refine (show wIsX K (wIsi K) [.exn (He.ga K u.1) [u.2] [d], _] _ _ from g_isC (g := 2) hn hg (k := 2) (by simp) ?_)
        walk_at "go"
        refine (show wIsX K (wIsi K) [.exn (He.ga K u.1) [u.2] [d], _] _ _ from g_isT (g := 2) hn hg (k := 0) (by simp) ?_)
        walk_at "go"
        refine (show wIsX K (wIsi K) [.exn (He.ga K u.1) [u.2] [d], _] _ _ from g_isT (g := 2) hn hg (k := 1) (by simp) ?_)
        walk_at "go"
        refine (show wIsX K (wIsi K) [.exn (He.ga K u.1) [u.2] [d], _] _ _ from g_isT (g := 2) hn hg (k := 2) (by simp) ?_)
        walk_at "go"
        refine (show wCount (.lst ((exN.map fun y => decide (u.1 = y)).map .bl)) [.bl true] _ _ from g_countB (n := 1) (cnt_one u.1 hn) ?_)
        walk_at "go"
        refine ite2 (fun h => absurd h (by decide)) fun _ => ?_
        walk_at "go"
        refine g_ixl hk ?_
        walk_at "go"
        refine ⟨_, rfl, by decide, by decide, ?_⟩
        refine (show lcP _ _ _ _ _ _ _ (([0, 1, 2] : List Int).map .int) _ from lc_as (fun k => .bl (decide (k = 2))) rfl rfl (by decide) (fun k hk P1 q => ?_) ?_)
        · walk_at "go"
          exact q
        walk_at "go"
        refine (show eqW true (.lst (([false, false, true] : List Bool).map .bl)) (.lst (([false, false, true] : List Bool).map .bl)) _ _ from g_nebs ?_)
        walk_at "go"
        refine (show eqW true (.lst (([false, false, true] : List Bool).map .bl)) (.lst (([false, false, true] : List Bool).map .bl)) _ _ from g_nebs ?_)
        walk_at "go"
        refine (show wIsXT K (wIsX K (wIsi K)) [.exn (He.ga K u.1) [u.2] [d], _] _ _ from g_isN3 hn ?_)
        walk_at "go"
        rw [show (((27 + j : Nat) : Int) + 1) = ((27 + (j + 1) : Nat) : Int) by omega]
        exact ⟨_, _, _, _, rfl, rfl⟩
      · rintro δ M2 ⟨x4, x5, x6, x7, rfl, rfl⟩
        walk_at "go"
        exact ⟨_, _, _, _, _, _, rfl, rfl⟩
  · rintro δ M' ⟨x2, x3, x4, x5, x6, x7, rfl, rfl⟩
    walk_at "go"
    exact weakK_of k
theorem ok__law_families_right {P : Program} {w : World} {K : Frag} {mg : Str → Option Value} {base : Heap} (D : Def1 K mg "_law_families_right" s__law_families_right) (z_enumerate : mg "enumerate" = none) (H__law_kinds : Fn1 P w K mg base 1 "_law_kinds" s__law_kinds ["_law_e"] 1 (S__law_kinds K)) (z_isinstance : mg "isinstance" = none) (g_AbsentError : mg "AbsentError" = some (.ref (He.ga K "AbsentError"))) (g_ChoiceError : mg "ChoiceError" = some (.ref (He.ga K "ChoiceError"))) (g_ParcelError : mg "ParcelError" = some (.ref (He.ga K "ParcelError"))) (z_LookupError : mg "LookupError" = none) (z_RuntimeError : mg "RuntimeError" = none) (z_ValueError : mg "ValueError" = none) (z_range : mg "range" = none) (z_NotImplementedError : mg "NotImplementedError" = none) (z_IndexError : mg "IndexError" = none) (z_KeyError : mg "KeyError" = none) [CV K] : Fn1 P w K mg base 2 "_law_families_right" s__law_families_right ["_law_made_here"] 1 (S__law_families_right K) :=
  fn1 D sc__law_families_right rfl (fun _ _ _ _ _ _ us hl => match us, hl with | [_], _ => rfl) (W := fun Ξ => w__law_families_right K Ξ) (fun f cdv A outer s H E hr => ⟨_, (pss_cons (ps_set (i := 1) sc__law_families_right.nd rfl (Or.inl rfl) pe_int)
  (pss_cons (ps_for (passes_of rfl) rfl (pi_enumK (K := K) z_enumerate (pa_cons (pv 0) pa_nil)) (pg_seqK (K := K) (pgs_cons (pg_name (i := 2) sc__law_families_right.nd rfl (by first | exact Or.inl rfl | exact Or.inr rfl)) (pgs_cons (pg_name (i := 3) sc__law_families_right.nd rfl (by first | exact Or.inl rfl | exact Or.inr rfl)) pgs_nil)))
  (pss_one (ps_for (passes_of rfl) rfl (pi_seqK (K := K) (pv 3)) (pg_name (i := 4) sc__law_families_right.nd rfl (by first | exact Or.inl rfl | exact Or.inr rfl))
  (pss_cons (ps_set (i := 5) sc__law_families_right.nd rfl (Or.inl rfl) (pe_fnK (K := K) H__law_kinds hr (by decide) passLS (pa_cons (pv 4) pa_nil)))
  (pss_cons (ps_set (i := 6) sc__law_families_right.nd rfl (Or.inl rfl) (pe_lst (pa_cons (pe_callB (call_isXK (K := K) (b_isinstance (K := K))) (by rfl) z_isinstance (by decide +kernel) (pa_cons (pv 4) (pa_cons (pe_gr g_ParcelError) pa_nil))) (pa_cons (pe_callB (call_isXK (K := K) (b_isinstance (K := K))) (by rfl) z_isinstance (by decide +kernel) (pa_cons (pv 4) (pa_cons (pe_gr g_ChoiceError) pa_nil))) (pa_cons (pe_callB (call_isXK (K := K) (b_isinstance (K := K))) (by rfl) z_isinstance (by decide +kernel) (pa_cons (pv 4) (pa_cons (pe_gr g_AbsentError) pa_nil))) pa_nil)))))
  (pss_cons (ps_set (i := 7) sc__law_families_right.nd rfl (Or.inl rfl) (pe_lst (pa_cons (pe_callB (call_isXK (K := K) (b_isinstance (K := K))) (by rfl) z_isinstance (by decide +kernel) (pa_cons (pv 4) (pa_cons (pe_ty z_ValueError (by decide +kernel)) pa_nil))) (pa_cons (pe_callB (call_isXK (K := K) (b_isinstance (K := K))) (by rfl) z_isinstance (by decide +kernel) (pa_cons (pv 4) (pa_cons (pe_ty z_RuntimeError (by decide +kernel)) pa_nil))) (pa_cons (pe_callB (call_isXK (K := K) (b_isinstance (K := K))) (by rfl) z_isinstance (by decide +kernel) (pa_cons (pv 4) (pa_cons (pe_ty z_LookupError (by decide +kernel)) pa_nil))) pa_nil)))))
  (pss_cons (ps_if (PW.pt (pw_or (pt_cmpR (k_ne (K := K) hr) (pe_countK (K := K) hr (pv 5) (pa_cons pe_bl pa_nil)) pe_int (nomark _)) (pw_or (pt_not (pt_trK (K := K) (pe_ixK (K := K) hr (pv 5) (pv 1)))) (pw_or (pt_cmpR (k_ne (K := K) hr) (pv 6) (pe_lc (own := [("_law_k", 8)]) (g := (gName 8)) (tt := tYes) rfl sc__law_families_right.nd (pi_range1 rfl z_range (pa_cons pe_int pa_nil)) (blkOk_by (N := ["_law_made_here", "_law_at", "_law_spot", "_law_group", "_law_e", "_law_kinds_here", "_law_own", "_law_other", "_law_k"]) (sc := defScope s__law_families_right) (by decide +kernel)) (fun _ _ _ _ _ => (pg_name (i := 8) sc__law_families_right.nd rfl (by first | exact Or.inl rfl | exact Or.inr rfl))) (fun _ _ _ _ _ => pts_nil) (fun _ _ _ _ _ => (pe_cmpR (k_eq (K := K) hr) (pv 8) (pv 2) (nomark _)))) (nomark _)) (pw_or1 (pt_cmpR (k_ne (K := K) hr) (pv 7) (pv 6) (nomark _)))))))
  (pss_one (ps_ret pe_bl)) pss_nil)
  (pss_cons (ps_if (pt_trK (K := K) (pe_callB (call_isXTK (K := K) (call_isXK (K := K) (b_isinstance (K := K)))) (by rfl) z_isinstance (by decide +kernel) (pa_cons (pv 4) (pa_cons (pe_tup (pa_cons (pe_ty z_KeyError (by decide +kernel)) (pa_cons (pe_ty z_IndexError (by decide +kernel)) (pa_cons (pe_ty z_NotImplementedError (by decide +kernel)) pa_nil)))) pa_nil))))
  (pss_one (ps_ret pe_bl)) pss_nil)
  (pss_one (ps_set (i := 1) sc__law_families_right.nd rfl (Or.inl rfl) (pe_op (k_add (K := K)) (pv 1) pe_int)))))))))))
  (pss_one (ps_ret (pe_cmpR (k_eq (K := K) hr) (pv 1) pe_int (nomark _)))))),
  fun Ξ => (lf_seqT inferInstance (lf_seqT inferInstance inferInstance))⟩) (pure__law_families_right)
def S__law_fields (K : Frag) : DSp := fun ds M Q _ => ∃ d, ds = [madeD K d] ∧ Q (.lst (List.replicate 35 d)) M
abbrev w__law_fields (K : Frag) (Ξ : DL.WX) : WS :=
  (wSeq (wPar3 1 2 3 (wCons (wOp wIx (wVar 0) (wC (.int 0))) (wCons (wOp wIx (wVar 0) (wC (.int 1))) (wCons (wOp wIx (wVar 0) (wC (.int 2))) wNil))))
  (wSeq (wAsg (wOp wAdd (wLc (wSeqI (wSl (wVar 1) wNoPart (wPart (wC (.int 11))))) (wName 5) [5] wYes (wExF K (wVar 5) "given") [5]) (wLst (wCons (wExF K (wOp wIx (wVar 1) (wC (.int 11))) "place") (wCons (wExF K (wOp wIx (wVar 1) (wC (.int 12))) "line") (wCons (wExF K (wOp wIx (wVar 1) (wC (.int 13))) "line") (wCons (wExF K (wOp wIx (wVar 1) (wC (.int 14))) "line") wNil)))))) (wName 4))
  (wSeq (wAsg (wOp wAdd (wVar 4) (wLst (wCons (wExF K (wOp wIx (wVar 2) (wC (.int 0))) "clash") (wCons (wExF K (wOp wIx (wVar 2) (wC (.int 1))) "most") (wCons (wExF K (wOp wIx (wVar 2) (wC (.int 2))) "given") (wCons (wExF K (wOp wIx (wVar 2) (wC (.int 3))) "given") (wCons (wExF K (wOp wIx (wVar 2) (wC (.int 4))) "wanted") wNil))))))) (wName 4))
  (wSeq (wAsg (wOp wAdd (wOp wAdd (wVar 4) (wLst (wCons (wExF K (wOp wIx (wVar 2) (wC (.int 5))) "found") (wCons (wExF K (wOp wIx (wVar 2) (wC (.int 6))) "begun") (wCons (wExF K (wOp wIx (wVar 2) (wC (.int 7))) "done") wNil))))) (wLc (wSeqI (wSl (wVar 2) (wPart (wC (.int 8))) wNoPart)) (wName 5) [5] wYes (wExF K (wVar 5) "given") [5])) (wName 4))
  (wRet (wOp wAdd (wVar 4) (wLc (wSeqI (wVar 3)) (wName 5) [5] wYes (wExF K (wVar 5) "given") [5])))))))
theorem g_exfE {K : Frag} [c : CV K] {x f : Str} {d : D} {M : Mem} {Z : WK} (hp : (x, f) ∈ exA) (k : Z d M) : exFP K f Z (.exn (He.ga K x) [f] [d]) M := ⟨_, _, _, _, rfl, c.exf (x, f) hp, by simp [List.lookup], k⟩
theorem lc_giv {K : Frag} [c : CV K] {l : List (Str × Str)} {d : D} (hl : ∀ p ∈ l, p ∈ exA ∧ p.2 = "given") : ∀ p ∈ l, ∀ {M : Mem} {Z : WK}, Z d M → exFP K "given" Z (exE K d p) M := fun p hp M Z k => by
  obtain ⟨h1, h2⟩ := hl p hp
  obtain ⟨x, f⟩ := p
  obtain rfl : f = "given" := h2
  exact g_exfE h1 k
theorem pure__law_fields {K : Frag} [c : CV K] : ∀ ds M Qd Ed, ds.length = 1 → S__law_fields K ds M Qd Ed → w__law_fields K (weakX Ed) { nx := fun _ M => weakK Qd .non M, rt := weakK Qd } (startD ["_law_made_here", "_law_first", "_law_second", "_law_third", "_law_told", "_law_e"] ds) M := by
  rintro ds M Qd Ed - ⟨d, rfl, k⟩
  walk_at "s0"
  walk_at "go"
  refine (show lcP _ _ _ _ _ _ _ ((ex0.take 11).map (exE K d)) _ from lc_as (fun _ => d) rfl rfl (by decide) (fun p hp P1 q => ?_) ?_)
  · walk_at "go"
    exact lc_giv (l := ex0.take 11) (by decide +kernel) p hp q
  walk_at "go"
  refine g_exfE (x := "BadStep") (f := "place") (by decide +kernel) ?_
  walk_at "go"
  refine g_exfE (x := "BadParcel") (f := "line") (by decide +kernel) ?_
  walk_at "go"
  refine g_exfE (x := "BadLock") (f := "line") (by decide +kernel) ?_
  walk_at "go"
  refine g_exfE (x := "BadBase") (f := "line") (by decide +kernel) ?_
  walk_at "go"
  refine g_addl (show 11 + 4 ≤ 1000000 from by decide) ?_
  walk_at "go"
  refine g_exfE (x := "NoChoice") (f := "clash") (by decide +kernel) ?_
  walk_at "go"
  refine g_exfE (x := "TooWide") (f := "most") (by decide +kernel) ?_
  walk_at "go"
  refine g_exfE (x := "PathClash") (f := "given") (by decide +kernel) ?_
  walk_at "go"
  refine g_exfE (x := "Foreign") (f := "given") (by decide +kernel) ?_
  walk_at "go"
  refine g_exfE (x := "NoRoom") (f := "wanted") (by decide +kernel) ?_
  walk_at "go"
  refine g_addl (show 15 + 5 ≤ 1000000 from by decide) ?_
  walk_at "go"
  refine g_exfE (x := "Damaged") (f := "found") (by decide +kernel) ?_
  walk_at "go"
  refine g_exfE (x := "Pending") (f := "begun") (by decide +kernel) ?_
  walk_at "go"
  refine g_exfE (x := "PowerCut") (f := "done") (by decide +kernel) ?_
  walk_at "go"
  refine g_addl (show 20 + 3 ≤ 1000000 from by decide) ?_
  walk_at "go"
  refine (show lcP _ _ _ _ _ _ _ ((ex1.drop 8).map (exE K d)) _ from lc_as (fun _ => d) rfl rfl (by decide) (fun p hp P1 q => ?_) ?_)
  · walk_at "go"
    exact lc_giv (l := ex1.drop 8) (by decide +kernel) p hp q
  walk_at "go"
  refine g_addl (show 23 + 4 ≤ 1000000 from by decide) ?_
  walk_at "go"
  refine (show lcP _ _ _ _ _ _ _ ((ex2).map (exE K d)) _ from lc_as (fun _ => d) rfl rfl (by decide) (fun p hp P1 q => ?_) ?_)
  · walk_at "go"
    exact lc_giv (l := ex2) (by decide +kernel) p hp q
  walk_at "go"
  refine g_addl (show 27 + 8 ≤ 1000000 from by decide) ?_
  exact weakK_of k
theorem ok__law_fields {P : Program} {w : World} {K : Frag} {mg : Str → Option Value} {base : Heap} (D : Def1 K mg "_law_fields" s__law_fields)  [CV K] : Fn1 P w K mg base 1 "_law_fields" s__law_fields ["_law_made_here"] 1 (S__law_fields K) :=
  fn1 D sc__law_fields rfl (fun _ _ _ _ _ _ us hl => match us, hl with | [_], _ => rfl) (W := fun Ξ => w__law_fields K Ξ) (fun f cdv A outer s H E hr => ⟨_, (pss_cons (ps_par3 (i := 1) (j := 2) (l := 3) (by rfl) sc__law_fields.nd rfl rfl rfl (by decide) (by decide) (by decide) rfl rfl rfl (pa_cons (pe_ixK (K := K) hr (pv 0) pe_int) (pa_cons (pe_ixK (K := K) hr (pv 0) pe_int) (pa_cons (pe_ixK (K := K) hr (pv 0) pe_int) pa_nil))) (by rfl))
  (pss_cons (ps_set (i := 4) sc__law_fields.nd rfl (Or.inl rfl) (pe_op (k_add (K := K)) (pe_lc (own := [("_law_e", 5)]) (g := (gName 5)) (tt := tYes) rfl sc__law_fields.nd (pi_seqK (K := K) (pe_slK (K := K) (pv 1) po_none (po_some pe_int))) (blkOk_by (N := ["_law_made_here", "_law_first", "_law_second", "_law_third", "_law_told", "_law_e"]) (sc := defScope s__law_fields) (by decide +kernel)) (fun _ _ _ _ _ => (pg_name (i := 5) sc__law_fields.nd rfl (by first | exact Or.inl rfl | exact Or.inr rfl))) (fun _ _ _ _ _ => pts_nil) (fun _ _ _ _ _ => (pe_exfK (K := K) (pv 5)))) (pe_lst (pa_cons (pe_exfK (K := K) (pe_ixK (K := K) hr (pv 1) pe_int)) (pa_cons (pe_exfK (K := K) (pe_ixK (K := K) hr (pv 1) pe_int)) (pa_cons (pe_exfK (K := K) (pe_ixK (K := K) hr (pv 1) pe_int)) (pa_cons (pe_exfK (K := K) (pe_ixK (K := K) hr (pv 1) pe_int)) pa_nil)))))))
  (pss_cons (ps_set (i := 4) sc__law_fields.nd rfl (Or.inl rfl) (pe_op (k_add (K := K)) (pv 4) (pe_lst (pa_cons (pe_exfK (K := K) (pe_ixK (K := K) hr (pv 2) pe_int)) (pa_cons (pe_exfK (K := K) (pe_ixK (K := K) hr (pv 2) pe_int)) (pa_cons (pe_exfK (K := K) (pe_ixK (K := K) hr (pv 2) pe_int)) (pa_cons (pe_exfK (K := K) (pe_ixK (K := K) hr (pv 2) pe_int)) (pa_cons (pe_exfK (K := K) (pe_ixK (K := K) hr (pv 2) pe_int)) pa_nil))))))))
  (pss_cons (ps_set (i := 4) sc__law_fields.nd rfl (Or.inl rfl) (pe_op (k_add (K := K)) (pe_op (k_add (K := K)) (pv 4) (pe_lst (pa_cons (pe_exfK (K := K) (pe_ixK (K := K) hr (pv 2) pe_int)) (pa_cons (pe_exfK (K := K) (pe_ixK (K := K) hr (pv 2) pe_int)) (pa_cons (pe_exfK (K := K) (pe_ixK (K := K) hr (pv 2) pe_int)) pa_nil))))) (pe_lc (own := [("_law_e", 5)]) (g := (gName 5)) (tt := tYes) rfl sc__law_fields.nd (pi_seqK (K := K) (pe_slK (K := K) (pv 2) (po_some pe_int) po_none)) (blkOk_by (N := ["_law_made_here", "_law_first", "_law_second", "_law_third", "_law_told", "_law_e"]) (sc := defScope s__law_fields) (by decide +kernel)) (fun _ _ _ _ _ => (pg_name (i := 5) sc__law_fields.nd rfl (by first | exact Or.inl rfl | exact Or.inr rfl))) (fun _ _ _ _ _ => pts_nil) (fun _ _ _ _ _ => (pe_exfK (K := K) (pv 5))))))
  (pss_one (ps_ret (pe_op (k_add (K := K)) (pv 4) (pe_lc (own := [("_law_e", 5)]) (g := (gName 5)) (tt := tYes) rfl sc__law_fields.nd (pi_seqK (K := K) (pv 3)) (blkOk_by (N := ["_law_made_here", "_law_first", "_law_second", "_law_third", "_law_told", "_law_e"]) (sc := defScope s__law_fields) (by decide +kernel)) (fun _ _ _ _ _ => (pg_name (i := 5) sc__law_fields.nd rfl (by first | exact Or.inl rfl | exact Or.inr rfl))) (fun _ _ _ _ _ => pts_nil) (fun _ _ _ _ _ => (pe_exfK (K := K) (pv 5))))))))))),
  fun Ξ => (lf_seqT inferInstance (lf_seqT inferInstance (lf_seqT inferInstance (lf_seqT inferInstance inferInstance))))⟩) (pure__law_fields)
def S__law_made (K : Frag) : DSp := fun ds M Q _ => ∃ d, ds = [d] ∧ Q (madeD K d) M
abbrev w__law_made (K : Frag) (Ξ : DL.WX) : WS :=
  (wSeq (wAsg (wLst (wCons (wMkV (He.ga K "BadVersion") "given" (wCons (wVar 0) wNil)) (wCons (wMkV (He.ga K "BadRange") "given" (wCons (wVar 0) wNil)) (wCons (wMkV (He.ga K "BadEnvironment") "given" (wCons (wVar 0) wNil)) (wCons (wMkV (He.ga K "BadMarker") "given" (wCons (wVar 0) wNil)) (wCons (wMkV (He.ga K "BadRequirement") "given" (wCons (wVar 0) wNil)) wNil)))))) (wName 1))
  (wSeq (wAsg (wOp wAdd (wVar 1) (wLst (wCons (wMkV (He.ga K "BadName") "given" (wCons (wVar 0) wNil)) (wCons (wMkV (He.ga K "BadPath") "given" (wCons (wVar 0) wNil)) (wCons (wMkV (He.ga K "BadText") "given" (wCons (wVar 0) wNil)) (wCons (wMkV (He.ga K "BadCount") "given" (wCons (wVar 0) wNil)) (wCons (wMkV (He.ga K "BadEvent") "given" (wCons (wVar 0) wNil)) (wCons (wMkV (He.ga K "BadWay") "given" (wCons (wVar 0) wNil)) wNil)))))))) (wName 1))
  (wSeq (wAsg (wOp wAdd (wVar 1) (wLst (wCons (wMkV (He.ga K "BadStep") "place" (wCons (wVar 0) wNil)) (wCons (wMkV (He.ga K "BadParcel") "line" (wCons (wVar 0) wNil)) (wCons (wMkV (He.ga K "BadLock") "line" (wCons (wVar 0) wNil)) (wCons (wMkV (He.ga K "BadBase") "line" (wCons (wVar 0) wNil)) wNil)))))) (wName 1))
  (wSeq (wAsg (wLst (wCons (wMkV (He.ga K "NoChoice") "clash" (wCons (wVar 0) wNil)) (wCons (wMkV (He.ga K "TooWide") "most" (wCons (wVar 0) wNil)) (wCons (wMkV (He.ga K "PathClash") "given" (wCons (wVar 0) wNil)) (wCons (wMkV (He.ga K "Foreign") "given" (wCons (wVar 0) wNil)) (wCons (wMkV (He.ga K "NoRoom") "wanted" (wCons (wVar 0) wNil)) (wCons (wMkV (He.ga K "Damaged") "found" (wCons (wVar 0) wNil)) wNil))))))) (wName 2))
  (wSeq (wAsg (wOp wAdd (wVar 2) (wLst (wCons (wMkV (He.ga K "Pending") "begun" (wCons (wVar 0) wNil)) (wCons (wMkV (He.ga K "PowerCut") "done" (wCons (wVar 0) wNil)) (wCons (wMkV (He.ga K "WrongSum") "given" (wCons (wVar 0) wNil)) (wCons (wMkV (He.ga K "NotClosed") "given" (wCons (wVar 0) wNil)) (wCons (wMkV (He.ga K "NoRepair") "given" (wCons (wVar 0) wNil)) (wCons (wMkV (He.ga K "Taken") "given" (wCons (wVar 0) wNil)) wNil)))))))) (wName 2))
  (wSeq (wAsg (wLst (wCons (wMkV (He.ga K "NoName") "given" (wCons (wVar 0) wNil)) (wCons (wMkV (He.ga K "NoRelease") "given" (wCons (wVar 0) wNil)) (wCons (wMkV (He.ga K "NoParcel") "given" (wCons (wVar 0) wNil)) (wCons (wMkV (He.ga K "NoRequest") "given" (wCons (wVar 0) wNil)) (wCons (wMkV (He.ga K "NoPath") "given" (wCons (wVar 0) wNil)) (wCons (wMkV (He.ga K "NoPast") "given" (wCons (wVar 0) wNil)) wNil))))))) (wName 3))
  (wRet (wLst (wCons (wVar 1) (wCons (wVar 2) (wCons (wOp wAdd (wVar 3) (wLst (wCons (wMkV (He.ga K "NoMark") "given" (wCons (wVar 0) wNil)) (wCons (wMkV (He.ga K "NoSection") "given" (wCons (wVar 0) wNil)) wNil)))) wNil)))))))))))
theorem pure__law_made {K : Frag} [c : CV K] : ∀ ds M Qd Ed, ds.length = 1 → S__law_made K ds M Qd Ed → w__law_made K (weakX Ed) { nx := fun _ M => weakK Qd .non M, rt := weakK Qd } (startD ["_law_what", "_law_first", "_law_second", "_law_third"] ds) M := by
  rintro ds M Qd Ed - ⟨d, rfl, k⟩
  walk_at "s0"
  walk_at "go"
  refine g_addl (show 5 + 6 ≤ 1000000 from by decide) ?_
  walk_at "go"
  refine g_addl (show 11 + 4 ≤ 1000000 from by decide) ?_
  walk_at "go"
  refine g_addl (show 6 + 6 ≤ 1000000 from by decide) ?_
  walk_at "go"
  refine g_addl (show 6 + 2 ≤ 1000000 from by decide) ?_
  walk_at "go"
  exact weakK_of k
theorem ok__law_made {P : Program} {w : World} {K : Frag} {mg : Str → Option Value} {base : Heap} (D : Def1 K mg "_law_made" s__law_made) (EW_BadRequirement : ExcW P w K mg base (He.ga K "BadRequirement") "given" "given") (g_BadRequirement : mg "BadRequirement" = some (.ref (He.ga K "BadRequirement"))) (EW_BadMarker : ExcW P w K mg base (He.ga K "BadMarker") "given" "given") (g_BadMarker : mg "BadMarker" = some (.ref (He.ga K "BadMarker"))) (EW_BadEnvironment : ExcW P w K mg base (He.ga K "BadEnvironment") "given" "given") (g_BadEnvironment : mg "BadEnvironment" = some (.ref (He.ga K "BadEnvironment"))) (EW_BadRange : ExcW P w K mg base (He.ga K "BadRange") "given" "given") (g_BadRange : mg "BadRange" = some (.ref (He.ga K "BadRange"))) (EW_BadVersion : ExcW P w K mg base (He.ga K "BadVersion") "given" "given") (g_BadVersion : mg "BadVersion" = some (.ref (He.ga K "BadVersion"))) (EW_BadWay : ExcW P w K mg base (He.ga K "BadWay") "given" "given") (g_BadWay : mg "BadWay" = some (.ref (He.ga K "BadWay"))) (EW_BadEvent : ExcW P w K mg base (He.ga K "BadEvent") "given" "given") (g_BadEvent : mg "BadEvent" = some (.ref (He.ga K "BadEvent"))) (EW_BadCount : ExcW P w K mg base (He.ga K "BadCount") "given" "given") (g_BadCount : mg "BadCount" = some (.ref (He.ga K "BadCount"))) (EW_BadText : ExcW P w K mg base (He.ga K "BadText") "given" "given") (g_BadText : mg "BadText" = some (.ref (He.ga K "BadText"))) (EW_BadPath : ExcW P w K mg base (He.ga K "BadPath") "given" "given") (g_BadPath : mg "BadPath" = some (.ref (He.ga K "BadPath"))) (EW_BadName : ExcW P w K mg base (He.ga K "BadName") "given" "given") (g_BadName : mg "BadName" = some (.ref (He.ga K "BadName"))) (EW_BadBase : ExcW P w K mg base (He.ga K "BadBase") "line" "line") (g_BadBase : mg "BadBase" = some (.ref (He.ga K "BadBase"))) (EW_BadLock : ExcW P w K mg base (He.ga K "BadLock") "line" "line") (g_BadLock : mg "BadLock" = some (.ref (He.ga K "BadLock"))) (EW_BadParcel : ExcW P w K mg base (He.ga K "BadParcel") "line" "line") (g_BadParcel : mg "BadParcel" = some (.ref (He.ga K "BadParcel"))) (EW_BadStep : ExcW P w K mg base (He.ga K "BadStep") "place" "place") (g_BadStep : mg "BadStep" = some (.ref (He.ga K "BadStep"))) (EW_Damaged : ExcW P w K mg base (He.ga K "Damaged") "found" "found") (g_Damaged : mg "Damaged" = some (.ref (He.ga K "Damaged"))) (EW_NoRoom : ExcW P w K mg base (He.ga K "NoRoom") "wanted" "wanted") (g_NoRoom : mg "NoRoom" = some (.ref (He.ga K "NoRoom"))) (EW_Foreign : ExcW P w K mg base (He.ga K "Foreign") "given" "given") (g_Foreign : mg "Foreign" = some (.ref (He.ga K "Foreign"))) (EW_PathClash : ExcW P w K mg base (He.ga K "PathClash") "given" "given") (g_PathClash : mg "PathClash" = some (.ref (He.ga K "PathClash"))) (EW_TooWide : ExcW P w K mg base (He.ga K "TooWide") "most" "most") (g_TooWide : mg "TooWide" = some (.ref (He.ga K "TooWide"))) (EW_NoChoice : ExcW P w K mg base (He.ga K "NoChoice") "clash" "clash") (g_NoChoice : mg "NoChoice" = some (.ref (He.ga K "NoChoice"))) (EW_Taken : ExcW P w K mg base (He.ga K "Taken") "given" "given") (g_Taken : mg "Taken" = some (.ref (He.ga K "Taken"))) (EW_NoRepair : ExcW P w K mg base (He.ga K "NoRepair") "given" "given") (g_NoRepair : mg "NoRepair" = some (.ref (He.ga K "NoRepair"))) (EW_NotClosed : ExcW P w K mg base (He.ga K "NotClosed") "given" "given") (g_NotClosed : mg "NotClosed" = some (.ref (He.ga K "NotClosed"))) (EW_WrongSum : ExcW P w K mg base (He.ga K "WrongSum") "given" "given") (g_WrongSum : mg "WrongSum" = some (.ref (He.ga K "WrongSum"))) (EW_PowerCut : ExcW P w K mg base (He.ga K "PowerCut") "done" "done") (g_PowerCut : mg "PowerCut" = some (.ref (He.ga K "PowerCut"))) (EW_Pending : ExcW P w K mg base (He.ga K "Pending") "begun" "begun") (g_Pending : mg "Pending" = some (.ref (He.ga K "Pending"))) (EW_NoPast : ExcW P w K mg base (He.ga K "NoPast") "given" "given") (g_NoPast : mg "NoPast" = some (.ref (He.ga K "NoPast"))) (EW_NoPath : ExcW P w K mg base (He.ga K "NoPath") "given" "given") (g_NoPath : mg "NoPath" = some (.ref (He.ga K "NoPath"))) (EW_NoRequest : ExcW P w K mg base (He.ga K "NoRequest") "given" "given") (g_NoRequest : mg "NoRequest" = some (.ref (He.ga K "NoRequest"))) (EW_NoParcel : ExcW P w K mg base (He.ga K "NoParcel") "given" "given") (g_NoParcel : mg "NoParcel" = some (.ref (He.ga K "NoParcel"))) (EW_NoRelease : ExcW P w K mg base (He.ga K "NoRelease") "given" "given") (g_NoRelease : mg "NoRelease" = some (.ref (He.ga K "NoRelease"))) (EW_NoName : ExcW P w K mg base (He.ga K "NoName") "given" "given") (g_NoName : mg "NoName" = some (.ref (He.ga K "NoName"))) (EW_NoSection : ExcW P w K mg base (He.ga K "NoSection") "given" "given") (g_NoSection : mg "NoSection" = some (.ref (He.ga K "NoSection"))) (EW_NoMark : ExcW P w K mg base (He.ga K "NoMark") "given" "given") (g_NoMark : mg "NoMark" = some (.ref (He.ga K "NoMark"))) [CV K] : Fn1 P w K mg base 3 "_law_made" s__law_made ["_law_what"] 1 (S__law_made K) :=
  fn1 D sc__law_made rfl (fun _ _ _ _ _ _ us hl => match us, hl with | [_], _ => rfl) (W := fun Ξ => w__law_made K Ξ) (fun f cdv A outer s H E hr => ⟨_, (pss_cons (ps_set (i := 1) sc__law_made.nd rfl (Or.inl rfl) (pe_lst (pa_cons (pe_mkX (K := K) EW_BadVersion hr (by decide) g_BadVersion (pa_cons (pv 0) pa_nil)) (pa_cons (pe_mkX (K := K) EW_BadRange hr (by decide) g_BadRange (pa_cons (pv 0) pa_nil)) (pa_cons (pe_mkX (K := K) EW_BadEnvironment hr (by decide) g_BadEnvironment (pa_cons (pv 0) pa_nil)) (pa_cons (pe_mkX (K := K) EW_BadMarker hr (by decide) g_BadMarker (pa_cons (pv 0) pa_nil)) (pa_cons (pe_mkX (K := K) EW_BadRequirement hr (by decide) g_BadRequirement (pa_cons (pv 0) pa_nil)) pa_nil)))))))
  (pss_cons (ps_set (i := 1) sc__law_made.nd rfl (Or.inl rfl) (pe_op (k_add (K := K)) (pv 1) (pe_lst (pa_cons (pe_mkX (K := K) EW_BadName hr (by decide) g_BadName (pa_cons (pv 0) pa_nil)) (pa_cons (pe_mkX (K := K) EW_BadPath hr (by decide) g_BadPath (pa_cons (pv 0) pa_nil)) (pa_cons (pe_mkX (K := K) EW_BadText hr (by decide) g_BadText (pa_cons (pv 0) pa_nil)) (pa_cons (pe_mkX (K := K) EW_BadCount hr (by decide) g_BadCount (pa_cons (pv 0) pa_nil)) (pa_cons (pe_mkX (K := K) EW_BadEvent hr (by decide) g_BadEvent (pa_cons (pv 0) pa_nil)) (pa_cons (pe_mkX (K := K) EW_BadWay hr (by decide) g_BadWay (pa_cons (pv 0) pa_nil)) pa_nil)))))))))
  (pss_cons (ps_set (i := 1) sc__law_made.nd rfl (Or.inl rfl) (pe_op (k_add (K := K)) (pv 1) (pe_lst (pa_cons (pe_mkX (K := K) EW_BadStep hr (by decide) g_BadStep (pa_cons (pv 0) pa_nil)) (pa_cons (pe_mkX (K := K) EW_BadParcel hr (by decide) g_BadParcel (pa_cons (pv 0) pa_nil)) (pa_cons (pe_mkX (K := K) EW_BadLock hr (by decide) g_BadLock (pa_cons (pv 0) pa_nil)) (pa_cons (pe_mkX (K := K) EW_BadBase hr (by decide) g_BadBase (pa_cons (pv 0) pa_nil)) pa_nil)))))))
  (pss_cons (ps_set (i := 2) sc__law_made.nd rfl (Or.inl rfl) (pe_lst (pa_cons (pe_mkX (K := K) EW_NoChoice hr (by decide) g_NoChoice (pa_cons (pv 0) pa_nil)) (pa_cons (pe_mkX (K := K) EW_TooWide hr (by decide) g_TooWide (pa_cons (pv 0) pa_nil)) (pa_cons (pe_mkX (K := K) EW_PathClash hr (by decide) g_PathClash (pa_cons (pv 0) pa_nil)) (pa_cons (pe_mkX (K := K) EW_Foreign hr (by decide) g_Foreign (pa_cons (pv 0) pa_nil)) (pa_cons (pe_mkX (K := K) EW_NoRoom hr (by decide) g_NoRoom (pa_cons (pv 0) pa_nil)) (pa_cons (pe_mkX (K := K) EW_Damaged hr (by decide) g_Damaged (pa_cons (pv 0) pa_nil)) pa_nil))))))))
  (pss_cons (ps_set (i := 2) sc__law_made.nd rfl (Or.inl rfl) (pe_op (k_add (K := K)) (pv 2) (pe_lst (pa_cons (pe_mkX (K := K) EW_Pending hr (by decide) g_Pending (pa_cons (pv 0) pa_nil)) (pa_cons (pe_mkX (K := K) EW_PowerCut hr (by decide) g_PowerCut (pa_cons (pv 0) pa_nil)) (pa_cons (pe_mkX (K := K) EW_WrongSum hr (by decide) g_WrongSum (pa_cons (pv 0) pa_nil)) (pa_cons (pe_mkX (K := K) EW_NotClosed hr (by decide) g_NotClosed (pa_cons (pv 0) pa_nil)) (pa_cons (pe_mkX (K := K) EW_NoRepair hr (by decide) g_NoRepair (pa_cons (pv 0) pa_nil)) (pa_cons (pe_mkX (K := K) EW_Taken hr (by decide) g_Taken (pa_cons (pv 0) pa_nil)) pa_nil)))))))))
  (pss_cons (ps_set (i := 3) sc__law_made.nd rfl (Or.inl rfl) (pe_lst (pa_cons (pe_mkX (K := K) EW_NoName hr (by decide) g_NoName (pa_cons (pv 0) pa_nil)) (pa_cons (pe_mkX (K := K) EW_NoRelease hr (by decide) g_NoRelease (pa_cons (pv 0) pa_nil)) (pa_cons (pe_mkX (K := K) EW_NoParcel hr (by decide) g_NoParcel (pa_cons (pv 0) pa_nil)) (pa_cons (pe_mkX (K := K) EW_NoRequest hr (by decide) g_NoRequest (pa_cons (pv 0) pa_nil)) (pa_cons (pe_mkX (K := K) EW_NoPath hr (by decide) g_NoPath (pa_cons (pv 0) pa_nil)) (pa_cons (pe_mkX (K := K) EW_NoPast hr (by decide) g_NoPast (pa_cons (pv 0) pa_nil)) pa_nil))))))))
  (pss_one (ps_ret (pe_lst (pa_cons (pv 1) (pa_cons (pv 2) (pa_cons (pe_op (k_add (K := K)) (pv 3) (pe_lst (pa_cons (pe_mkX (K := K) EW_NoMark hr (by decide) g_NoMark (pa_cons (pv 0) pa_nil)) (pa_cons (pe_mkX (K := K) EW_NoSection hr (by decide) g_NoSection (pa_cons (pv 0) pa_nil)) pa_nil)))) pa_nil)))))))))))),
  fun Ξ => (lf_seqT inferInstance (lf_seqT inferInstance (lf_seqT inferInstance (lf_seqT inferInstance (lf_seqT inferInstance (lf_seqT inferInstance inferInstance))))))⟩) (pure__law_made)
def S__law_named (K : Frag) : DSp := fun ds M Q _ => ∃ d, ds = [d] ∧ Q (.lst (List.replicate 35 d)) M
abbrev w__law_named (K : Frag) (Ξ : DL.WX) : WS :=
  (wSeq (wAsg (wLst (wCons (wExF K (wMkV (He.ga K "BadVersion") "given" (wCons (wVar 0) wNil)) "given") (wCons (wExF K (wMkV (He.ga K "BadRange") "given" (wCons (wVar 0) wNil)) "given") (wCons (wExF K (wMkV (He.ga K "BadEnvironment") "given" (wCons (wVar 0) wNil)) "given") wNil)))) (wName 1))
  (wSeq (wAsg (wOp wAdd (wVar 1) (wLst (wCons (wExF K (wMkV (He.ga K "BadMarker") "given" (wCons (wVar 0) wNil)) "given") (wCons (wExF K (wMkV (He.ga K "BadRequirement") "given" (wCons (wVar 0) wNil)) "given") (wCons (wExF K (wMkV (He.ga K "BadName") "given" (wCons (wVar 0) wNil)) "given") wNil))))) (wName 1))
  (wSeq (wAsg (wOp wAdd (wVar 1) (wLst (wCons (wExF K (wMkV (He.ga K "BadPath") "given" (wCons (wVar 0) wNil)) "given") (wCons (wExF K (wMkV (He.ga K "BadText") "given" (wCons (wVar 0) wNil)) "given") (wCons (wExF K (wMkV (He.ga K "BadCount") "given" (wCons (wVar 0) wNil)) "given") wNil))))) (wName 1))
  (wSeq (wAsg (wOp wAdd (wVar 1) (wLst (wCons (wExF K (wMkV (He.ga K "BadEvent") "given" (wCons (wVar 0) wNil)) "given") (wCons (wExF K (wMkV (He.ga K "BadWay") "given" (wCons (wVar 0) wNil)) "given") (wCons (wExF K (wMkV (He.ga K "BadStep") "place" (wCons (wVar 0) wNil)) "place") wNil))))) (wName 1))
  (wSeq (wAsg (wOp wAdd (wVar 1) (wLst (wCons (wExF K (wMkV (He.ga K "BadParcel") "line" (wCons (wVar 0) wNil)) "line") (wCons (wExF K (wMkV (He.ga K "BadLock") "line" (wCons (wVar 0) wNil)) "line") (wCons (wExF K (wMkV (He.ga K "BadBase") "line" (wCons (wVar 0) wNil)) "line") wNil))))) (wName 1))
  (wSeq (wAsg (wOp wAdd (wVar 1) (wLst (wCons (wExF K (wMkV (He.ga K "NoChoice") "clash" (wCons (wVar 0) wNil)) "clash") (wCons (wExF K (wMkV (He.ga K "TooWide") "most" (wCons (wVar 0) wNil)) "most") (wCons (wExF K (wMkV (He.ga K "PathClash") "given" (wCons (wVar 0) wNil)) "given") wNil))))) (wName 1))
  (wSeq (wAsg (wOp wAdd (wVar 1) (wLst (wCons (wExF K (wMkV (He.ga K "Foreign") "given" (wCons (wVar 0) wNil)) "given") (wCons (wExF K (wMkV (He.ga K "NoRoom") "wanted" (wCons (wVar 0) wNil)) "wanted") (wCons (wExF K (wMkV (He.ga K "Damaged") "found" (wCons (wVar 0) wNil)) "found") wNil))))) (wName 1))
  (wSeq (wAsg (wOp wAdd (wVar 1) (wLst (wCons (wExF K (wMkV (He.ga K "Pending") "begun" (wCons (wVar 0) wNil)) "begun") (wCons (wExF K (wMkV (He.ga K "PowerCut") "done" (wCons (wVar 0) wNil)) "done") (wCons (wExF K (wMkV (He.ga K "WrongSum") "given" (wCons (wVar 0) wNil)) "given") wNil))))) (wName 1))
  (wSeq (wAsg (wOp wAdd (wVar 1) (wLst (wCons (wExF K (wMkV (He.ga K "NotClosed") "given" (wCons (wVar 0) wNil)) "given") (wCons (wExF K (wMkV (He.ga K "NoRepair") "given" (wCons (wVar 0) wNil)) "given") (wCons (wExF K (wMkV (He.ga K "Taken") "given" (wCons (wVar 0) wNil)) "given") wNil))))) (wName 1))
  (wSeq (wAsg (wOp wAdd (wVar 1) (wLst (wCons (wExF K (wMkV (He.ga K "NoName") "given" (wCons (wVar 0) wNil)) "given") (wCons (wExF K (wMkV (He.ga K "NoRelease") "given" (wCons (wVar 0) wNil)) "given") (wCons (wExF K (wMkV (He.ga K "NoParcel") "given" (wCons (wVar 0) wNil)) "given") wNil))))) (wName 1))
  (wSeq (wAsg (wOp wAdd (wVar 1) (wLst (wCons (wExF K (wMkV (He.ga K "NoRequest") "given" (wCons (wVar 0) wNil)) "given") (wCons (wExF K (wMkV (He.ga K "NoPath") "given" (wCons (wVar 0) wNil)) "given") (wCons (wExF K (wMkV (He.ga K "NoPast") "given" (wCons (wVar 0) wNil)) "given") wNil))))) (wName 1))
  (wRet (wOp wAdd (wVar 1) (wLst (wCons (wExF K (wMkV (He.ga K "NoMark") "given" (wCons (wVar 0) wNil)) "given") (wCons (wExF K (wMkV (He.ga K "NoSection") "given" (wCons (wVar 0) wNil)) "given") wNil))))))))))))))))
theorem g_exfN {K : Frag} [c : CV K] {x f : Str} {d : D} {M : Mem} {Z : WK} (hp : (x, f) ∈ exA) (k : Z d M) : exFP K f Z (.exn (He.ga K x) [f] [d]) M := ⟨_, _, _, _, rfl, c.exf (x, f) hp, by simp [List.lookup], k⟩
theorem pure__law_named {K : Frag} [c : CV K] : ∀ ds M Qd Ed, ds.length = 1 → S__law_named K ds M Qd Ed → w__law_named K (weakX Ed) { nx := fun _ M => weakK Qd .non M, rt := weakK Qd } (startD ["_law_what", "_law_told"] ds) M := by
  rintro ds M Qd Ed - ⟨d, rfl, k⟩
  walk_at "s0"
  walk_at "go"
  refine g_exfN (x := "BadVersion") (f := "given") (by decide +kernel) ?_
  walk_at "go"
  refine g_exfN (x := "BadRange") (f := "given") (by decide +kernel) ?_
  walk_at "go"
  refine g_exfN (x := "BadEnvironment") (f := "given") (by decide +kernel) ?_
  walk_at "go"
  walk_at "go"
  refine g_exfN (x := "BadMarker") (f := "given") (by decide +kernel) ?_
  walk_at "go"
  refine g_exfN (x := "BadRequirement") (f := "given") (by decide +kernel) ?_
  walk_at "go"
  refine g_exfN (x := "BadName") (f := "given") (by decide +kernel) ?_
  walk_at "go"
  refine g_addl (show 3 + 3 ≤ 1000000 from by decide) ?_
  walk_at "go"
  refine g_exfN (x := "BadPath") (f := "given") (by decide +kernel) ?_
  walk_at "go"
  refine g_exfN (x := "BadText") (f := "given") (by decide +kernel) ?_
  walk_at "go"
  refine g_exfN (x := "BadCount") (f := "given") (by decide +kernel) ?_
  walk_at "go"
  refine g_addl (show 6 + 3 ≤ 1000000 from by decide) ?_
  walk_at "go"
  refine g_exfN (x := "BadEvent") (f := "given") (by decide +kernel) ?_
  walk_at "go"
  refine g_exfN (x := "BadWay") (f := "given") (by decide +kernel) ?_
  walk_at "go"
  refine g_exfN (x := "BadStep") (f := "place") (by decide +kernel) ?_
  walk_at "go"
  refine g_addl (show 9 + 3 ≤ 1000000 from by decide) ?_
  walk_at "go"
  refine g_exfN (x := "BadParcel") (f := "line") (by decide +kernel) ?_
  walk_at "go"
  refine g_exfN (x := "BadLock") (f := "line") (by decide +kernel) ?_
  walk_at "go"
  refine g_exfN (x := "BadBase") (f := "line") (by decide +kernel) ?_
  walk_at "go"
  refine g_addl (show 12 + 3 ≤ 1000000 from by decide) ?_
  walk_at "go"
  refine g_exfN (x := "NoChoice") (f := "clash") (by decide +kernel) ?_
  walk_at "go"
  refine g_exfN (x := "TooWide") (f := "most") (by decide +kernel) ?_
  walk_at "go"
  refine g_exfN (x := "PathClash") (f := "given") (by decide +kernel) ?_
  walk_at "go"
  refine g_addl (show 15 + 3 ≤ 1000000 from by decide) ?_
  walk_at "go"
  refine g_exfN (x := "Foreign") (f := "given") (by decide +kernel) ?_
  walk_at "go"
  refine g_exfN (x := "NoRoom") (f := "wanted") (by decide +kernel) ?_
  walk_at "go"
  refine g_exfN (x := "Damaged") (f := "found") (by decide +kernel) ?_
  walk_at "go"
  refine g_addl (show 18 + 3 ≤ 1000000 from by decide) ?_
  walk_at "go"
  refine g_exfN (x := "Pending") (f := "begun") (by decide +kernel) ?_
  walk_at "go"
  refine g_exfN (x := "PowerCut") (f := "done") (by decide +kernel) ?_
  walk_at "go"
  refine g_exfN (x := "WrongSum") (f := "given") (by decide +kernel) ?_
  walk_at "go"
  refine g_addl (show 21 + 3 ≤ 1000000 from by decide) ?_
  walk_at "go"
  refine g_exfN (x := "NotClosed") (f := "given") (by decide +kernel) ?_
  walk_at "go"
  refine g_exfN (x := "NoRepair") (f := "given") (by decide +kernel) ?_
  walk_at "go"
  refine g_exfN (x := "Taken") (f := "given") (by decide +kernel) ?_
  walk_at "go"
  refine g_addl (show 24 + 3 ≤ 1000000 from by decide) ?_
  walk_at "go"
  refine g_exfN (x := "NoName") (f := "given") (by decide +kernel) ?_
  walk_at "go"
  refine g_exfN (x := "NoRelease") (f := "given") (by decide +kernel) ?_
  walk_at "go"
  refine g_exfN (x := "NoParcel") (f := "given") (by decide +kernel) ?_
  walk_at "go"
  refine g_addl (show 27 + 3 ≤ 1000000 from by decide) ?_
  walk_at "go"
  refine g_exfN (x := "NoRequest") (f := "given") (by decide +kernel) ?_
  walk_at "go"
  refine g_exfN (x := "NoPath") (f := "given") (by decide +kernel) ?_
  walk_at "go"
  refine g_exfN (x := "NoPast") (f := "given") (by decide +kernel) ?_
  walk_at "go"
  refine g_addl (show 30 + 3 ≤ 1000000 from by decide) ?_
  walk_at "go"
  refine g_exfN (x := "NoMark") (f := "given") (by decide +kernel) ?_
  walk_at "go"
  refine g_exfN (x := "NoSection") (f := "given") (by decide +kernel) ?_
  walk_at "go"
  refine g_addl (show 33 + 2 ≤ 1000000 from by decide) ?_
  exact weakK_of k
theorem ok__law_named {P : Program} {w : World} {K : Frag} {mg : Str → Option Value} {base : Heap} (D : Def1 K mg "_law_named" s__law_named) (EW_BadEnvironment : ExcW P w K mg base (He.ga K "BadEnvironment") "given" "given") (g_BadEnvironment : mg "BadEnvironment" = some (.ref (He.ga K "BadEnvironment"))) (EW_BadRange : ExcW P w K mg base (He.ga K "BadRange") "given" "given") (g_BadRange : mg "BadRange" = some (.ref (He.ga K "BadRange"))) (EW_BadVersion : ExcW P w K mg base (He.ga K "BadVersion") "given" "given") (g_BadVersion : mg "BadVersion" = some (.ref (He.ga K "BadVersion"))) (EW_BadName : ExcW P w K mg base (He.ga K "BadName") "given" "given") (g_BadName : mg "BadName" = some (.ref (He.ga K "BadName"))) (EW_BadRequirement : ExcW P w K mg base (He.ga K "BadRequirement") "given" "given") (g_BadRequirement : mg "BadRequirement" = some (.ref (He.ga K "BadRequirement"))) (EW_BadMarker : ExcW P w K mg base (He.ga K "BadMarker") "given" "given") (g_BadMarker : mg "BadMarker" = some (.ref (He.ga K "BadMarker"))) (EW_BadCount : ExcW P w K mg base (He.ga K "BadCount") "given" "given") (g_BadCount : mg "BadCount" = some (.ref (He.ga K "BadCount"))) (EW_BadText : ExcW P w K mg base (He.ga K "BadText") "given" "given") (g_BadText : mg "BadText" = some (.ref (He.ga K "BadText"))) (EW_BadPath : ExcW P w K mg base (He.ga K "BadPath") "given" "given") (g_BadPath : mg "BadPath" = some (.ref (He.ga K "BadPath"))) (EW_BadStep : ExcW P w K mg base (He.ga K "BadStep") "place" "place") (g_BadStep : mg "BadStep" = some (.ref (He.ga K "BadStep"))) (EW_BadWay : ExcW P w K mg base (He.ga K "BadWay") "given" "given") (g_BadWay : mg "BadWay" = some (.ref (He.ga K "BadWay"))) (EW_BadEvent : ExcW P w K mg base (He.ga K "BadEvent") "given" "given") (g_BadEvent : mg "BadEvent" = some (.ref (He.ga K "BadEvent"))) (EW_BadBase : ExcW P w K mg base (He.ga K "BadBase") "line" "line") (g_BadBase : mg "BadBase" = some (.ref (He.ga K "BadBase"))) (EW_BadLock : ExcW P w K mg base (He.ga K "BadLock") "line" "line") (g_BadLock : mg "BadLock" = some (.ref (He.ga K "BadLock"))) (EW_BadParcel : ExcW P w K mg base (He.ga K "BadParcel") "line" "line") (g_BadParcel : mg "BadParcel" = some (.ref (He.ga K "BadParcel"))) (EW_PathClash : ExcW P w K mg base (He.ga K "PathClash") "given" "given") (g_PathClash : mg "PathClash" = some (.ref (He.ga K "PathClash"))) (EW_TooWide : ExcW P w K mg base (He.ga K "TooWide") "most" "most") (g_TooWide : mg "TooWide" = some (.ref (He.ga K "TooWide"))) (EW_NoChoice : ExcW P w K mg base (He.ga K "NoChoice") "clash" "clash") (g_NoChoice : mg "NoChoice" = some (.ref (He.ga K "NoChoice"))) (EW_Damaged : ExcW P w K mg base (He.ga K "Damaged") "found" "found") (g_Damaged : mg "Damaged" = some (.ref (He.ga K "Damaged"))) (EW_NoRoom : ExcW P w K mg base (He.ga K "NoRoom") "wanted" "wanted") (g_NoRoom : mg "NoRoom" = some (.ref (He.ga K "NoRoom"))) (EW_Foreign : ExcW P w K mg base (He.ga K "Foreign") "given" "given") (g_Foreign : mg "Foreign" = some (.ref (He.ga K "Foreign"))) (EW_WrongSum : ExcW P w K mg base (He.ga K "WrongSum") "given" "given") (g_WrongSum : mg "WrongSum" = some (.ref (He.ga K "WrongSum"))) (EW_PowerCut : ExcW P w K mg base (He.ga K "PowerCut") "done" "done") (g_PowerCut : mg "PowerCut" = some (.ref (He.ga K "PowerCut"))) (EW_Pending : ExcW P w K mg base (He.ga K "Pending") "begun" "begun") (g_Pending : mg "Pending" = some (.ref (He.ga K "Pending"))) (EW_Taken : ExcW P w K mg base (He.ga K "Taken") "given" "given") (g_Taken : mg "Taken" = some (.ref (He.ga K "Taken"))) (EW_NoRepair : ExcW P w K mg base (He.ga K "NoRepair") "given" "given") (g_NoRepair : mg "NoRepair" = some (.ref (He.ga K "NoRepair"))) (EW_NotClosed : ExcW P w K mg base (He.ga K "NotClosed") "given" "given") (g_NotClosed : mg "NotClosed" = some (.ref (He.ga K "NotClosed"))) (EW_NoParcel : ExcW P w K mg base (He.ga K "NoParcel") "given" "given") (g_NoParcel : mg "NoParcel" = some (.ref (He.ga K "NoParcel"))) (EW_NoRelease : ExcW P w K mg base (He.ga K "NoRelease") "given" "given") (g_NoRelease : mg "NoRelease" = some (.ref (He.ga K "NoRelease"))) (EW_NoName : ExcW P w K mg base (He.ga K "NoName") "given" "given") (g_NoName : mg "NoName" = some (.ref (He.ga K "NoName"))) (EW_NoPast : ExcW P w K mg base (He.ga K "NoPast") "given" "given") (g_NoPast : mg "NoPast" = some (.ref (He.ga K "NoPast"))) (EW_NoPath : ExcW P w K mg base (He.ga K "NoPath") "given" "given") (g_NoPath : mg "NoPath" = some (.ref (He.ga K "NoPath"))) (EW_NoRequest : ExcW P w K mg base (He.ga K "NoRequest") "given" "given") (g_NoRequest : mg "NoRequest" = some (.ref (He.ga K "NoRequest"))) (EW_NoSection : ExcW P w K mg base (He.ga K "NoSection") "given" "given") (g_NoSection : mg "NoSection" = some (.ref (He.ga K "NoSection"))) (EW_NoMark : ExcW P w K mg base (He.ga K "NoMark") "given" "given") (g_NoMark : mg "NoMark" = some (.ref (He.ga K "NoMark"))) [CV K] : Fn1 P w K mg base 3 "_law_named" s__law_named ["_law_what"] 1 (S__law_named K) :=
  fn1 D sc__law_named rfl (fun _ _ _ _ _ _ us hl => match us, hl with | [_], _ => rfl) (W := fun Ξ => w__law_named K Ξ) (fun f cdv A outer s H E hr => ⟨_, (pss_cons (ps_set (i := 1) sc__law_named.nd rfl (Or.inl rfl) (pe_lst (pa_cons (pe_exfK (K := K) (pe_mkXk (K := K) EW_BadVersion hr (by decide) g_BadVersion (pk_cons (pv 0) pk_nil))) (pa_cons (pe_exfK (K := K) (pe_mkXk (K := K) EW_BadRange hr (by decide) g_BadRange (pk_cons (pv 0) pk_nil))) (pa_cons (pe_exfK (K := K) (pe_mkXk (K := K) EW_BadEnvironment hr (by decide) g_BadEnvironment (pk_cons (pv 0) pk_nil))) pa_nil)))))
  (pss_cons (ps_set (i := 1) sc__law_named.nd rfl (Or.inl rfl) (pe_op (k_add (K := K)) (pv 1) (pe_lst (pa_cons (pe_exfK (K := K) (pe_mkXk (K := K) EW_BadMarker hr (by decide) g_BadMarker (pk_cons (pv 0) pk_nil))) (pa_cons (pe_exfK (K := K) (pe_mkXk (K := K) EW_BadRequirement hr (by decide) g_BadRequirement (pk_cons (pv 0) pk_nil))) (pa_cons (pe_exfK (K := K) (pe_mkXk (K := K) EW_BadName hr (by decide) g_BadName (pk_cons (pv 0) pk_nil))) pa_nil))))))
  (pss_cons (ps_set (i := 1) sc__law_named.nd rfl (Or.inl rfl) (pe_op (k_add (K := K)) (pv 1) (pe_lst (pa_cons (pe_exfK (K := K) (pe_mkXk (K := K) EW_BadPath hr (by decide) g_BadPath (pk_cons (pv 0) pk_nil))) (pa_cons (pe_exfK (K := K) (pe_mkXk (K := K) EW_BadText hr (by decide) g_BadText (pk_cons (pv 0) pk_nil))) (pa_cons (pe_exfK (K := K) (pe_mkXk (K := K) EW_BadCount hr (by decide) g_BadCount (pk_cons (pv 0) pk_nil))) pa_nil))))))
  (pss_cons (ps_set (i := 1) sc__law_named.nd rfl (Or.inl rfl) (pe_op (k_add (K := K)) (pv 1) (pe_lst (pa_cons (pe_exfK (K := K) (pe_mkXk (K := K) EW_BadEvent hr (by decide) g_BadEvent (pk_cons (pv 0) pk_nil))) (pa_cons (pe_exfK (K := K) (pe_mkXk (K := K) EW_BadWay hr (by decide) g_BadWay (pk_cons (pv 0) pk_nil))) (pa_cons (pe_exfK (K := K) (pe_mkXk (K := K) EW_BadStep hr (by decide) g_BadStep (pk_cons (pv 0) pk_nil))) pa_nil))))))
  (pss_cons (ps_set (i := 1) sc__law_named.nd rfl (Or.inl rfl) (pe_op (k_add (K := K)) (pv 1) (pe_lst (pa_cons (pe_exfK (K := K) (pe_mkXk (K := K) EW_BadParcel hr (by decide) g_BadParcel (pk_cons (pv 0) pk_nil))) (pa_cons (pe_exfK (K := K) (pe_mkXk (K := K) EW_BadLock hr (by decide) g_BadLock (pk_cons (pv 0) pk_nil))) (pa_cons (pe_exfK (K := K) (pe_mkXk (K := K) EW_BadBase hr (by decide) g_BadBase (pk_cons (pv 0) pk_nil))) pa_nil))))))
  (pss_cons (ps_set (i := 1) sc__law_named.nd rfl (Or.inl rfl) (pe_op (k_add (K := K)) (pv 1) (pe_lst (pa_cons (pe_exfK (K := K) (pe_mkXk (K := K) EW_NoChoice hr (by decide) g_NoChoice (pk_cons (pv 0) pk_nil))) (pa_cons (pe_exfK (K := K) (pe_mkXk (K := K) EW_TooWide hr (by decide) g_TooWide (pk_cons (pv 0) pk_nil))) (pa_cons (pe_exfK (K := K) (pe_mkXk (K := K) EW_PathClash hr (by decide) g_PathClash (pk_cons (pv 0) pk_nil))) pa_nil))))))
  (pss_cons (ps_set (i := 1) sc__law_named.nd rfl (Or.inl rfl) (pe_op (k_add (K := K)) (pv 1) (pe_lst (pa_cons (pe_exfK (K := K) (pe_mkXk (K := K) EW_Foreign hr (by decide) g_Foreign (pk_cons (pv 0) pk_nil))) (pa_cons (pe_exfK (K := K) (pe_mkXk (K := K) EW_NoRoom hr (by decide) g_NoRoom (pk_cons (pv 0) pk_nil))) (pa_cons (pe_exfK (K := K) (pe_mkXk (K := K) EW_Damaged hr (by decide) g_Damaged (pk_cons (pv 0) pk_nil))) pa_nil))))))
  (pss_cons (ps_set (i := 1) sc__law_named.nd rfl (Or.inl rfl) (pe_op (k_add (K := K)) (pv 1) (pe_lst (pa_cons (pe_exfK (K := K) (pe_mkXk (K := K) EW_Pending hr (by decide) g_Pending (pk_cons (pv 0) pk_nil))) (pa_cons (pe_exfK (K := K) (pe_mkXk (K := K) EW_PowerCut hr (by decide) g_PowerCut (pk_cons (pv 0) pk_nil))) (pa_cons (pe_exfK (K := K) (pe_mkXk (K := K) EW_WrongSum hr (by decide) g_WrongSum (pk_cons (pv 0) pk_nil))) pa_nil))))))
  (pss_cons (ps_set (i := 1) sc__law_named.nd rfl (Or.inl rfl) (pe_op (k_add (K := K)) (pv 1) (pe_lst (pa_cons (pe_exfK (K := K) (pe_mkXk (K := K) EW_NotClosed hr (by decide) g_NotClosed (pk_cons (pv 0) pk_nil))) (pa_cons (pe_exfK (K := K) (pe_mkXk (K := K) EW_NoRepair hr (by decide) g_NoRepair (pk_cons (pv 0) pk_nil))) (pa_cons (pe_exfK (K := K) (pe_mkXk (K := K) EW_Taken hr (by decide) g_Taken (pk_cons (pv 0) pk_nil))) pa_nil))))))
  (pss_cons (ps_set (i := 1) sc__law_named.nd rfl (Or.inl rfl) (pe_op (k_add (K := K)) (pv 1) (pe_lst (pa_cons (pe_exfK (K := K) (pe_mkXk (K := K) EW_NoName hr (by decide) g_NoName (pk_cons (pv 0) pk_nil))) (pa_cons (pe_exfK (K := K) (pe_mkXk (K := K) EW_NoRelease hr (by decide) g_NoRelease (pk_cons (pv 0) pk_nil))) (pa_cons (pe_exfK (K := K) (pe_mkXk (K := K) EW_NoParcel hr (by decide) g_NoParcel (pk_cons (pv 0) pk_nil))) pa_nil))))))
  (pss_cons (ps_set (i := 1) sc__law_named.nd rfl (Or.inl rfl) (pe_op (k_add (K := K)) (pv 1) (pe_lst (pa_cons (pe_exfK (K := K) (pe_mkXk (K := K) EW_NoRequest hr (by decide) g_NoRequest (pk_cons (pv 0) pk_nil))) (pa_cons (pe_exfK (K := K) (pe_mkXk (K := K) EW_NoPath hr (by decide) g_NoPath (pk_cons (pv 0) pk_nil))) (pa_cons (pe_exfK (K := K) (pe_mkXk (K := K) EW_NoPast hr (by decide) g_NoPast (pk_cons (pv 0) pk_nil))) pa_nil))))))
  (pss_one (ps_ret (pe_op (k_add (K := K)) (pv 1) (pe_lst (pa_cons (pe_exfK (K := K) (pe_mkXk (K := K) EW_NoMark hr (by decide) g_NoMark (pk_cons (pv 0) pk_nil))) (pa_cons (pe_exfK (K := K) (pe_mkXk (K := K) EW_NoSection hr (by decide) g_NoSection (pk_cons (pv 0) pk_nil))) pa_nil))))))))))))))))),
  fun Ξ => (lf_seqT inferInstance (lf_seqT inferInstance (lf_seqT inferInstance (lf_seqT inferInstance (lf_seqT inferInstance (lf_seqT inferInstance (lf_seqT inferInstance (lf_seqT inferInstance (lf_seqT inferInstance (lf_seqT inferInstance (lf_seqT inferInstance inferInstance)))))))))))⟩) (pure__law_named)
def S__law_mixed : DSp := fun ds M Q _ => ∃ c k : Int, ds = [.int c, .int k] ∧ 0 ≤ k ∧ k < 2 ^ 62 ∧ ∀ r : Int, 0 ≤ r → Q (.int r) M
abbrev w__law_mixed (Ξ : DL.WX) : WS :=
  (wSeq (wAsg (wOp (wII (fun _ j => 0 < j) fun i j => .int (i % j)) (wOp wAdd (wOp wAdd (wOp wAdd (wOp (wII (fun _ j => 0 < j) fun i j => .int (i % j)) (wVar 0) (wC (.int 1000000007))) (wOp (wII CMulW fun i j => .int (i * j)) (wOp (wII CMulW fun i j => .int (i * j)) (wC (.int 7919)) (wVar 1)) (wVar 1))) (wOp (wII CMulW fun i j => .int (i * j)) (wC (.int 31)) (wVar 1))) (wC (.int 7))) (wC (.int 2147483647))) (wName 2))
  (wSeq (wAsg (wOp (wII (fun _ j => 0 < j) fun i j => .int (i % j)) (wOp (wII CMulW fun i j => .int (i * j)) (wOp (wII (fun _ j => 0 < j) fun i j => .int (i % j)) (wOp (wII CMulW fun i j => .int (i * j)) (wVar 2) (wVar 2)) (wC (.int 2147483647))) (wVar 2)) (wC (.int 2147483629))) (wName 2))
  (wRet (wOp (wII CDivW fun i j => .int (i / j)) (wOp (wII (fun _ j => 0 < j) fun i j => .int (i % j)) (wOp (wII CMulW fun i j => .int (i * j)) (wVar 2) (wOp wAdd (wC (.int 69621)) (wOp (wII CMulW fun i j => .int (i * j)) (wC (.int 2)) (wOp (wII (fun _ j => 0 < j) fun i j => .int (i % j)) (wVar 1) (wC (.int 1000)))))) (wC (.int 2147483647))) (wC (.int 7))))))
theorem natAbs_mul_lt {i j : Int} {a b : Nat} (hi : i.natAbs < a) (hj : j.natAbs < b) : (i * j).natAbs < a * b := by
  rw [Int.natAbs_mul]
  exact Nat.mul_lt_mul_of_lt_of_le hi (Nat.le_of_lt hj) (Nat.lt_of_le_of_lt (Nat.zero_le _) hj)
theorem pure__law_mixed : ∀ ds M Qd Ed, ds.length = 2 → S__law_mixed ds M Qd Ed → w__law_mixed (weakX Ed) { nx := fun _ M => weakK Qd .non M, rt := weakK Qd } (startD ["_law_cell", "_law_k", "_law_mixed_here"] ds) M := by
  rintro ds M Qd Ed - ⟨c, k, rfl, k0, k1, q⟩
  walk_at "ws"
  have hk : k.natAbs < 2 ^ 62 := by omega
  have b1 : (7919 * k).natAbs < 2 ^ 400 := Nat.lt_of_lt_of_le (natAbs_mul_lt (a := 7920) (by decide) hk) (by decide)
  refine ⟨by decide, cmulW (by decide) (Nat.lt_of_lt_of_le hk (by decide)), cmulW b1 (Nat.lt_of_lt_of_le hk (by decide)), cmulW (by decide) (Nat.lt_of_lt_of_le hk (by decide)), by decide, ?_⟩
  generalize eh : (c % 1000000007 + 7919 * k * k + 31 * k + 7) % 2147483647 = h
  have h0 : 0 ≤ h := by rw [← eh]; exact Int.emod_nonneg _ (by decide)
  have h1 : h < 2147483647 := by rw [← eh]; exact Int.emod_lt_of_pos _ (by decide)
  walk_at "wn"
  generalize eg : h * h % 2147483647 = g
  have g0 : 0 ≤ g := by rw [← eg]; exact Int.emod_nonneg _ (by decide)
  have g1 : g < 2147483647 := by rw [← eg]; exact Int.emod_lt_of_pos _ (by decide)
  refine ⟨cmulW (by omega) (by omega), by decide, cmulW (by omega) (by omega), by decide, ?_⟩
  generalize ef : g * h % 2147483629 = f
  have f0 : 0 ≤ f := by rw [← ef]; exact Int.emod_nonneg _ (by decide)
  have f1 : f < 2147483629 := by rw [← ef]; exact Int.emod_lt_of_pos _ (by decide)
  have m0 : 0 ≤ k % 1000 := Int.emod_nonneg _ (by decide)
  have m1 : k % 1000 < 1000 := Int.emod_lt_of_pos _ (by decide)
  walk_at "wn"
  refine ⟨by decide, cmulW (by decide) (by omega), cmulW (by omega) (by omega), by decide, cdivW (by decide) (by decide), weakK_of (q _ ?_)⟩
  exact Int.ediv_nonneg (Int.emod_nonneg _ (by decide)) (by decide)
theorem ok__law_mixed {P : Program} {w : World} {K : Frag} {mg : Str → Option Value} {base : Heap} (D : Def1 K mg "_law_mixed" s__law_mixed)  [CV K] : Fn1 P w K mg base 1 "_law_mixed" s__law_mixed ["_law_cell", "_law_k"] 2 S__law_mixed :=
  fn1 D sc__law_mixed rfl (fun _ _ _ _ _ _ us hl => match us, hl with | [_, _], _ => rfl) (W := fun Ξ => w__law_mixed Ξ) (fun f cdv A outer s H E hr => ⟨_, (pss_cons (ps_set (i := 2) sc__law_mixed.nd rfl (Or.inl rfl) (pe_op k_mod (pe_op (k_add (K := K)) (pe_op (k_add (K := K)) (pe_op (k_add (K := K)) (pe_op k_mod (pv 0) pe_int) (pe_op k_mul (pe_op k_mul pe_int (pv 1)) (pv 1))) (pe_op k_mul pe_int (pv 1))) pe_int) pe_int))
  (pss_cons (ps_set (i := 2) sc__law_mixed.nd rfl (Or.inl rfl) (pe_op k_mod (pe_op k_mul (pe_op k_mod (pe_op k_mul (pv 2) (pv 2)) pe_int) (pv 2)) pe_int))
  (pss_one (ps_ret (pe_op k_div (pe_op k_mod (pe_op k_mul (pv 2) (pe_op (k_add (K := K)) pe_int (pe_op k_mul pe_int (pe_op k_mod (pv 1) pe_int)))) pe_int) pe_int))))),
  fun Ξ => (lf_seqT inferInstance (lf_seqT inferInstance inferInstance))⟩) (pure__law_mixed)
def S__law_next : DSp := fun ds M Q _ => ∃ (p : Addr) (b : Int) (n : Nat), ds = [.ref p, .int b] ∧ M p = some (Draw n) ∧ 0 < b ∧ b < 2 ^ 64 ∧ n < 2 ^ 60 ∧ ∀ r : Int, 0 ≤ r → r < b → Q (.int r) (mset M p (Draw (n + 1)))
abbrev w__law_next (Ξ : DL.WX) : WS :=
  (wSeq (wIfS (wTest (wOp (wCmp (fun i j => decide (j < i)) fun i j => ltS j i) (wOp wIx (wVar 0) (wC (.str "left"))) (wC (.int 0))))
  (wSeq (wAsg (wOp (wII (fun _ j => 0 < j) fun i j => .int (i % j)) (wOp wIx (wVar 0) (wC (.str "left"))) (wVar 1)) (wName 4))
  (wSeq (wAsg (wOp (wII CDivW fun i j => .int (i / j)) (wOp wIx (wVar 0) (wC (.str "left"))) (wVar 1)) (wGSub (wVar 0) (wC (.str "left")) wSet))
  (wRet (wVar 4)))) wNext)
  (wSeq (wAsg (wOp wIx (wVar 0) (wC (.str "cells"))) (wName 2))
  (wSeq (wAsg (wOp wIx (wVar 2) (wOp (wII (fun _ j => 0 < j) fun i j => .int (i % j)) (wOp wIx (wVar 0) (wC (.str "at"))) (wCB wLen (wCons (wVar 2) wNil)))) (wName 3))
  (wSeq (wAsg (wOp wAdd (wOp wIx (wVar 0) (wC (.str "at"))) (wC (.int 1))) (wGSub (wVar 0) (wC (.str "at")) wSet))
  (wSeq (wIfS (wAnd (wTest (wOp (wCmp (fun i j => decide (j ≤ i)) fun i j => !ltS i j) (wVar 3) (wOp (wII CPow fun i j => .int (i ^ j.toNat)) (wC (.int 10)) (wC (.int 18))))) (wTest (wOp (wCmp (fun i j => decide (i ≤ j)) fun i j => !ltS j i) (wOp wIx (wVar 0) (wC (.str "at"))) (wCB wLen (wCons (wVar 2) wNil)))))
  (wSeq (wAsg (wOp (wII CDivW fun i j => .int (i / j)) (wVar 3) (wVar 1)) (wGSub (wVar 0) (wC (.str "left")) wSet))
  (wRet (wOp (wII (fun _ j => 0 < j) fun i j => .int (i % j)) (wVar 3) (wVar 1)))) wNext)
  (wSeq (wAsg (wOp wAdd (wOp wIx (wVar 0) (wC (.str "used"))) (wC (.int 1))) (wGSub (wVar 0) (wC (.str "used")) wSet))
  (wRet (wOp (wII (fun _ j => 0 < j) fun i j => .int (i % j)) (wCall 2 S__law_mixed [] noX (wCons (wCall 2 S__law_mixed [] noX (wCons (wVar 3) (wCons (wOp wIx (wVar 0) (wC (.str "at"))) wNil))) (wCons (wOp wIx (wVar 0) (wC (.str "used"))) wNil))) (wVar 1)))))))))
theorem draw_end {M : Mem} {p : Addr} {Q : WK} {n : Nat} {cs : List Int} {a l u r : Int} (h : Q (.int r) (mset M p (Draw n))) (c0 : cs ≠ []) (c1 : cs.length ≤ 64) (a0 : 0 ≤ a) (a1 : a ≤ n) (l0 : 0 ≤ l) (u0 : 0 ≤ u) (u1 : u ≤ n) :
    weakK Q (.int r) (mset M p (· = .dic (drawKvs cs a l u))) := ⟨_, Wk.set Wk.refl fun _ e => ⟨cs, a, l, u, e, c0, c1, a0, a1, l0, u0, u1⟩, h⟩
theorem pure__law_next : ∀ ds M Qd Ed, ds.length = 2 → S__law_next ds M Qd Ed → w__law_next (weakX Ed) { nx := fun _ M => weakK Qd .non M, rt := weakK Qd } (startD ["_law_draw", "_law_bound", "_law_every", "_law_cell", "_law_got"] ds) M := by
  rintro ds M Qd Ed - ⟨p, b, n, rfl, hp, b0, b1, hn, q⟩
  walk_at "ws"
  refine ⟨_, hp, ?_⟩
  rintro mb ⟨cs, a, l, u, rfl, c0, c1, a0, a1, l0, u0, u1⟩
  walk_at "ws"
  have mod (x : Int) : 0 ≤ x % b ∧ x % b < b := ⟨Int.emod_nonneg _ (by omega), Int.emod_lt_of_pos _ b0⟩
  have dv : CDivW l b := cdivW b0 (by omega)
  refine ite2 (fun h => ?_) (fun h => ?_)
  · refine ⟨b0, ?_⟩
    walk_at "wn"
    refine ⟨cdivW b0 (by omega), ?_⟩
    walk_at "wn"
    exact draw_end (q _ (mod l).1 (mod l).2) c0 c1 a0 (by omega) (Int.ediv_nonneg l0 (by omega)) u0 (by omega)
  · walk_at "wn"
    walk_at "wn"
    have cl : 0 < ((cs.map D.int).length : Int) := by
      rw [List.length_map]
      have := List.length_pos_iff.mpr c0
      omega
    obtain ⟨x, e, hx⟩ := atI_some (l := cs.map D.int) (i := a % ((cs.map D.int).length : Int)) (Int.emod_nonneg _ (by omega)) (Int.emod_lt_of_pos _ cl)
    obtain ⟨c, _, rfl⟩ := List.mem_map.mp hx
    refine ⟨cl, _, e, ?_⟩
    walk_at "wn"
    walk_at "wn"
    have tail : ∀ {D : WEnds} {δ : DE}, D.rt = weakK Qd → wHold (wSeq (wAsg (wOp wAdd (wOp wIx (wVar 0) (wC (.str "used"))) (wC (.int 1))) (wGSub (wVar 0) (wC (.str "used")) wSet))
        (wRet (wOp (wII (fun _ j => 0 < j) fun i j => .int (i % j)) (wCall 2 S__law_mixed [] noX (wCons (wCall 2 S__law_mixed [] noX (wCons (wVar 3) (wCons (wOp wIx (wVar 0) (wC (.str "at"))) wNil))) (wCons (wOp wIx (wVar 0) (wC (.str "used"))) wNil))) (wVar 1)))) D
        [some (.ref p), some (.int b), some (.lst (cs.map .int)), some (.int c), none] (mset M p (· = .dic (drawKvs cs (a + 1) l u))) := by
      intro D δ hD
      walk_at "wn"
      walk_at "wn"
      rw [hD]
      refine ⟨_, _, rfl, by omega, by omega, fun r r0 => ?_⟩
      walk_at "ws"
      refine ⟨_, _, rfl, by omega, by omega, fun r2 r3 => ?_⟩
      refine ⟨b0, draw_end (q _ (mod _).1 (mod _).2) c0 c1 (by omega) (by omega) l0 (by omega) (by omega)⟩
    refine ⟨⟨by decide, by decide, by decide⟩, ite2 (fun h1 => ite2 (fun h2 => ⟨cdivW b0 (by omega), ?_⟩) fun h2 => tail (δ := []) rfl) fun h1 => tail (δ := []) rfl⟩
    walk_at "wn"
    have c3 : 0 ≤ c := by
      have h1 : decide ((10 : Int) ^ (18 : Int).toNat ≤ c) = true := h1
      have h3 := of_decide_eq_true h1
      have : (0 : Int) ≤ 10 ^ (18 : Int).toNat := by decide
      omega
    exact ⟨b0, draw_end (q _ (mod c).1 (mod c).2) c0 c1 (by omega) (by omega) (Int.ediv_nonneg c3 (by omega)) u0 (by omega)⟩
theorem ok__law_next {P : Program} {w : World} {K : Frag} {mg : Str → Option Value} {base : Heap} (D : Def1 K mg "_law_next" s__law_next) (z_len : mg "len" = none) (H__law_mixed : Fn1 P w K mg base 1 "_law_mixed" s__law_mixed ["_law_cell", "_law_k"] 2 S__law_mixed) [CV K] : Fn1 P w K mg base 2 "_law_next" s__law_next ["_law_draw", "_law_bound"] 2 S__law_next :=
  fn1 D sc__law_next rfl (fun _ _ _ _ _ _ us hl => match us, hl with | [_, _], _ => rfl) (W := fun Ξ => w__law_next Ξ) (fun f cdv A outer s H E hr => ⟨_, (pss_cons (ps_if (pt_cmpR op_gtA (pe_ixK (K := K) hr (pv 0) pe_str) pe_int (nomark _))
  (pss_cons (ps_set (i := 4) sc__law_next.nd rfl (Or.inl rfl) (pe_op k_mod (pe_ixK (K := K) hr (pv 0) pe_str) (pv 1)))
  (pss_cons (ps_asg (pe_op k_div (pe_ixK (K := K) hr (pv 0) pe_str) (pv 1)) (pg_sub (pv 0) pe_str (set_all (hu_of hr))))
  (pss_one (ps_ret (pv 4))))) pss_nil)
  (pss_cons (ps_set (i := 2) sc__law_next.nd rfl (Or.inl rfl) (pe_ixK (K := K) hr (pv 0) pe_str))
  (pss_cons (ps_set (i := 3) sc__law_next.nd rfl (Or.inl rfl) (pe_ixK (K := K) hr (pv 2) (pe_op k_mod (pe_ixK (K := K) hr (pv 0) pe_str) (pe_callB (b_len (K := K)) (by rfl) z_len PySem.boot_len (pa_cons (pv 2) pa_nil)))))
  (pss_cons (ps_asg (pe_op (k_add (K := K)) (pe_ixK (K := K) hr (pv 0) pe_str) pe_int) (pg_sub (pv 0) pe_str (set_all (hu_of hr))))
  (pss_cons (ps_if (PW.pt (pw_and (pt_cmpR op_geA (pv 3) (pe_op k_pow pe_int pe_int) (nomark _)) (pw_and1 (pt_cmpR op_leA (pe_ixK (K := K) hr (pv 0) pe_str) (pe_callB (b_len (K := K)) (by rfl) z_len PySem.boot_len (pa_cons (pv 2) pa_nil)) (nomark _)))))
  (pss_cons (ps_asg (pe_op k_div (pv 3) (pv 1)) (pg_sub (pv 0) pe_str (set_all (hu_of hr))))
  (pss_one (ps_ret (pe_op k_mod (pv 3) (pv 1))))) pss_nil)
  (pss_cons (ps_asg (pe_op (k_add (K := K)) (pe_ixK (K := K) hr (pv 0) pe_str) pe_int) (pg_sub (pv 0) pe_str (set_all (hu_of hr))))
  (pss_one (ps_ret (pe_op k_mod (pe_fnK (K := K) H__law_mixed hr (by decide) passLS (pa_cons (pe_fnK (K := K) H__law_mixed hr (by decide) passLS (pa_cons (pv 3) (pa_cons (pe_ixK (K := K) hr (pv 0) pe_str) pa_nil))) (pa_cons (pe_ixK (K := K) hr (pv 0) pe_str) pa_nil))) (pv 1)))))))))),
  fun Ξ => (lf_seqT inferInstance (lf_seqT inferInstance (lf_seqT inferInstance (lf_seqT inferInstance (lf_seqT inferInstance (lf_seqT inferInstance inferInstance))))))⟩) (pure__law_next)
def S_law (K : Frag) : DSp := fun ds M Q _ => ∃ ns : List Int, ds = [.lst (ns.map .int)] ∧ ns.length ≤ 63 ∧ ∀ M, Q (.bl true) M
abbrev w_law (K : Frag) (Ξ : DL.WX) : WS :=
  (wSeq (wAsg (wCall 1 S__law_begin [] noX (wCons (wVar 0) wNil)) (wName 1))
  (wSeq (wFor (wRng1 (wCons (wCB wMin2 (wCons (wC (.int 12)) (wCons (wOp wAdd (wC (.int 3)) (wCB wLen (wCons (wVar 0) wNil))) wNil))) wNil)) (wName 2)
  (wSeq (wAsg (wOp (wII0 fun i j => .int (i - j)) (wCall 2 S__law_next [] noX (wCons (wVar 1) (wCons (wC (.int 2001)) wNil))) (wC (.int 1000))) (wName 3))
  (wSeq (wAsg (wOp wIx (wLst (wCons (wC .non) (wCons (wVar 3) (wCons (wC (.str "tea")) (wCons (wTup (wCons (wVar 3) (wCons (wC (.int 7)) wNil))) (wCons (wLst (wCons (wVar 3) wNil)) (wCons (wTup (wCons (wC (.str "a")) (wCons (wTup wNil) wNil))) (wCons (wC (.dic [] [])) (wCons (wC (.bl true)) wNil))))))))) (wCall 2 S__law_next [] noX (wCons (wVar 1) (wCons (wC (.int 8)) wNil)))) (wName 4))
  (wSeq (wIfS (wNot (wTruth (wCall 1 (S__law_families_right K) [] noX (wCons (wCall 1 (S__law_made K) [] noX (wCons (wVar 4) wNil)) wNil))))
  (wRet (wC (.bl false))) wNext)
  (wIfS (wOr (wTest (wOp (eqW true) (wCB (wReprE wRepr) (wCons (wCall 1 (S__law_fields K) [] noX (wCons (wCall 1 (S__law_made K) [] noX (wCons (wVar 4) wNil)) wNil)) wNil)) (wCB (wReprE wRepr) (wCons (wOp wRep (wLstC (wCons (wVar 4) wNil)) (wC (.int 35))) wNil)))) (wTest (wOp (eqW true) (wCB (wReprE wRepr) (wCons (wCall 1 (S__law_named K) [] noX (wCons (wVar 4) wNil)) wNil)) (wCB (wReprE wRepr) (wCons (wOp wRep (wLstC (wCons (wVar 4) wNil)) (wC (.int 35))) wNil)))))
  (wRet (wC (.bl false))) wNext)))))
  (wRet (wC (.bl true)))))
def what8 (a : Int) : List D := [.non, .int a, .str "tea", .tup [.int a, .int 7], .lst [.int a], .tup [.str "a", .tup []], .dic [] [], .bl true]
theorem shl_rep {n w : Nat} {d : D} {p : PyData} (h : Sh n w d p) : ∀ k : Nat, ShL n (k * (w + 2)) (List.replicate k d) (List.replicate k p)
  | 0 => by rw [Nat.zero_mul]; exact shl_nil
  | k + 1 => by
    have := shl_cons h (shl_rep h k)
    rw [show w + k * (w + 2) + 2 = (k + 1) * (w + 2) by rw [Nat.succ_mul]; omega] at this
    exact this
theorem lfl_rep {w : Nat} {d : D} {p : PyData} (h : Sh 0 w d p) (hf : leafP p = true) : ∀ k : Nat, LfL (k * (w + 2)) (List.replicate k d) (List.replicate k p)
  | 0 => by rw [Nat.zero_mul]; exact lfl_nil
  | k + 1 => by
    have := lfl_cons h hf (lfl_rep h hf k)
    rw [show w + k * (w + 2) + 2 = (k + 1) * (w + 2) by rw [Nat.succ_mul]; omega] at this
    exact this
theorem lfl_reD : ∀ k : Nat, LfL (k * 4) (List.replicate k (.dic [] [])) (List.replicate k (.dict []))
  | 0 => lfl_nil
  | k + 1 => by
    have := lfl_dic (lfl_reD k)
    rw [show 2 + k * 4 + 2 = (k + 1) * 4 by omega] at this
    exact this
/-- repr of 35 of them is one text -/
theorem rr8 {a : Int} (h0 : -1000 ≤ a) (h1 : a ≤ 1000) {x : D} (h : x ∈ what8 a) : ∃ t : Str, ∀ (M : Mem) (Z : WK), Z (.str t) M → wReprE wRepr [.lst (List.replicate 35 x)] M Z := by
  have ha : Sh 0 10 (.int a) (.int a) := sh_int (by
    have := Nat.log2_le_self a.natAbs
    omega) (by
    have h : ∀ j : Nat, j < 2001 → (PyData.shown (.int ((j : Int) - 1000))).length ≤ 10 := by decide +kernel
    have := h (a + 1000).toNat (by omega)
    rwa [show (((a + 1000).toNat : Nat) : Int) - 1000 = a by omega] at this)
  have h7 : Sh 0 60 (.int 7) (.int 7) := sh_nat (by decide) (by decide)
  have leaf : ∀ {p : PyData} {v : Nat}, Sh 0 v x p → leafP p = true → v ≤ 1000 → ∃ t : Str, ∀ (M : Mem) (Z : WK), Z (.str t) M → wReprE wRepr [.lst (List.replicate 35 x)] M Z := fun h1 h2 h3 => ⟨_, fun _ _ k => g_reprEL (lfl_rep h1 h2 35) (by omega) k⟩
  have seq : ∀ {p : PyData} {n v : Nat}, Sh n v x p → n ≤ 10 → v ≤ 1000 → ∃ t : Str, ∀ (M : Mem) (Z : WK), Z (.str t) M → wReprE wRepr [.lst (List.replicate 35 x)] M Z := fun h1 h2 h3 => ⟨_, fun _ _ k => g_reprES (sh_lst (shl_rep h1 35)) rfl (by omega) (by omega) k⟩
  unfold what8 at h
  simp only [List.mem_cons, List.not_mem_nil, or_false] at h
  rcases h with rfl | rfl | rfl | rfl | rfl | rfl | rfl | rfl
  · exact leaf sh_non rfl (by decide)
  · exact leaf ha rfl (by decide)
  · exact leaf (sh_str (by decide +kernel)) rfl (by decide +kernel)
  · exact seq (sh_tup (shl_cons ha (shl_cons h7 shl_nil))) (by decide) (by decide)
  · exact seq (sh_lst (shl_cons ha shl_nil)) (by decide) (by decide)
  · exact seq (sh_tup (shl_cons ((sh_str (by decide +kernel)).le (Nat.zero_le _) (Nat.le_refl _)) (shl_cons (sh_tup (n := 0) shl_nil) shl_nil))) (by decide) (by decide +kernel)
  · exact ⟨_, fun _ _ k => g_reprEL (lfl_reD 35) (by decide) k⟩
  · exact leaf sh_bl rfl (by decide)
theorem pure_law {K : Frag} [c : CV K] : ∀ ds M Qd Ed, ds.length = 1 → S_law K ds M Qd Ed → w_law K (weakX Ed) { nx := fun _ M => weakK Qd .non M, rt := weakK Qd } (startD ["_law_script", "_law_draw", "_law_turn", "_law_amount", "_law_what"] ds) M := by
  rintro ds M Qd Ed - ⟨ns, rfl, hl, k⟩
  walk_at "s0"
  walk_at "go"
  refine ⟨ns, rfl, hl, fun p hp => ?_⟩
  walk_at "go"
  refine ⟨_, rfl, by split <;> omega, by split <;> omega, ?_⟩
  refine ⟨fun i δ M' => ∃ x2 x3 x4 n, δ = [some (.lst (ns.map .int)), some (.ref p), x2, x3, x4] ∧ M' p = some (Draw n) ∧ n ≤ 2 * i, ⟨none, none, none, 0, rfl, mset_same, by omega⟩, ?_, ?_⟩
  · rintro i x δ M' hx ⟨x2, x3, x4, n, rfl, hp, hn⟩
    have hi : i < 12 := by
      have h1 := (List.getElem?_eq_some_iff.mp hx).1
      rw [DL.rngD_len] at h1
      split at h1 <;> omega
    walk_at "go"
    refine ⟨p, 2001, n, rfl, hp, by decide, by decide, by omega, fun a a0 a1 => ?_⟩
    walk_at "go"
    refine ⟨p, 8, n + 1, rfl, mset_same, by decide, by decide, by omega, fun t t0 t1 => ?_⟩
    rw [mset_mset]
    obtain ⟨y, ey, hy⟩ := atI_some (l := what8 (a - 1000)) t0 t1
    obtain ⟨tx, ht⟩ := rr8 (by omega) (by omega) hy
    refine g_ixl ey ?_
    walk_at "go"
    refine ⟨y, rfl, ?_⟩
    walk_at "go"
    refine ⟨y, rfl, ?_⟩
    walk_at "go"
    refine ⟨y, rfl, ?_⟩
    walk_at "go"
    refine ⟨y, rfl, ?_⟩
    walk_at "go"
    refine ht _ _ ?_
    walk_at "go"
    intro b hb
    have hpb : p ≠ b := fun h => by subst h; rw [mset_same] at hb; cases hb
    walk_at "go"
    refine ⟨b, _, 35, rfl, rfl, mset_same, by decide, by decide, by rw [sizeLine_eq]; show 1 * 35 ≤ 16777216; decide, ?_⟩
    dsimp only []
    walk_at "go"
    refine (show wReprE wRepr [.lst (List.replicate 35 y)] _ _ from ht _ _ ?_)
    walk_at "go"
    refine ⟨y, rfl, ?_⟩
    walk_at "go"
    refine ht _ _ ?_
    walk_at "go"
    intro b2 hb2
    have hpb2 : p ≠ b2 := fun h => by subst h; rw [mset_ne hpb, mset_same] at hb2; cases hb2
    walk_at "go"
    refine ⟨b2, _, 35, rfl, rfl, mset_same, by decide, by decide, by rw [sizeLine_eq]; show 1 * 35 ≤ 16777216; decide, ?_⟩
    dsimp only []
    walk_at "go"
    refine (show wReprE wRepr [.lst (List.replicate 35 y)] _ _ from ht _ _ ?_)
    walk_at "go"
    refine ⟨_, _, _, n + 1 + 1, rfl, ?_, by omega⟩
    rw [mset_ne hpb2, mset_ne hpb, mset_same]
  · rintro δ M' ⟨x2, x3, x4, n, rfl, hp, hn⟩
    walk_at "go"
    exact weakK_of (k _)
theorem law_end {K : Frag} : ∀ (M : Mem) (ns : List Int), ns.length ≤ 63 → (∀ a, M a = none) → S_law K [.lst (ns.map D.int)] M (fun v _ => v = .bl true) fun _ _ => False :=
  fun _ ns h _ => ⟨ns, rfl, h, fun _ => rfl⟩
theorem ok_law {P : Program} {w : World} {K : Frag} {mg : Str → Option Value} {base : Heap} (D : Def1 K mg "law" s_law) (H__law_begin : Fn1 P w K mg base 1 "_law_begin" s__law_begin ["_law_script"] 1 S__law_begin) (z_range : mg "range" = none) (z_min : mg "min" = none) (z_len : mg "len" = none) (H__law_next : Fn1 P w K mg base 2 "_law_next" s__law_next ["_law_draw", "_law_bound"] 2 S__law_next) (H__law_families_right : Fn1 P w K mg base 2 "_law_families_right" s__law_families_right ["_law_made_here"] 1 (S__law_families_right K)) (H__law_made : Fn1 P w K mg base 3 "_law_made" s__law_made ["_law_what"] 1 (S__law_made K)) (z_repr : mg "repr" = none) (H__law_named : Fn1 P w K mg base 3 "_law_named" s__law_named ["_law_what"] 1 (S__law_named K)) (H__law_fields : Fn1 P w K mg base 1 "_law_fields" s__law_fields ["_law_made_here"] 1 (S__law_fields K)) [CV K] : Fn1G P w K mg base 4 "law" s_law ["_law_script"] 1 (S_law K) :=
  fn1G D sc_law rfl (fun _ _ _ _ _ _ us hl => match us, hl with | [_], _ => rfl) (W := fun Ξ => w_law K Ξ) (fun f cdv A outer s H E hg hr => ⟨_, (pss_cons (ps_set (i := 1) sc_law.nd rfl (Or.inl rfl) (pe_fnK (K := K) H__law_begin hr (by decide) passLS (pa_cons (pv 0) pa_nil)))
  (pss_cons (ps_for (passes_of rfl) rfl (pi_range1 rfl z_range (pa_cons (pe_callB b_min (by rfl) z_min (by decide +kernel) (pa_cons pe_int (pa_cons (pe_op (k_add (K := K)) pe_int (pe_callB (b_len (K := K)) (by rfl) z_len PySem.boot_len (pa_cons (pv 0) pa_nil))) pa_nil))) pa_nil)) (pg_name (i := 2) sc_law.nd rfl (by first | exact Or.inl rfl | exact Or.inr rfl))
  (pss_cons (ps_set (i := 3) sc_law.nd rfl (Or.inl rfl) (pe_op k_sub (pe_fnK (K := K) H__law_next hr (by decide) passLS (pa_cons (pv 1) (pa_cons pe_int pa_nil))) pe_int))
  (pss_cons (ps_set (i := 4) sc_law.nd rfl (Or.inl rfl) (pe_ixK (K := K) hr (pe_lst (pa_cons pe_non (pa_cons (pv 3) (pa_cons pe_str (pa_cons (pe_tup (pa_cons (pv 3) (pa_cons pe_int pa_nil))) (pa_cons (pe_lst (pa_cons (pv 3) pa_nil)) (pa_cons (pe_tup (pa_cons pe_str (pa_cons (pe_tup pa_nil) pa_nil))) (pa_cons (pe_frz pe_dnewK) (pa_cons pe_bl pa_nil))))))))) (pe_fnK (K := K) H__law_next hr (by decide) passLS (pa_cons (pv 1) (pa_cons pe_int pa_nil)))))
  (pss_cons (ps_if (pt_not (pt_trK (K := K) (pe_fnK (K := K) H__law_families_right hr (by decide) passLS (pa_cons (pe_fnK (K := K) H__law_made hr (by decide) passLS (pa_cons (pv 4) pa_nil)) pa_nil))))
  (pss_one (ps_ret pe_bl)) pss_nil)
  (pss_one (ps_if (PW.pt (pw_or (pt_cmpR (k_ne (K := K) hr) (pe_callB (b_reprE (K := K) hg hr (b_repr (K := K) hg hr)) (by rfl) z_repr (by decide +kernel) (pa_cons (pe_fnK (K := K) H__law_fields hr (by decide) passLS (pa_cons (pe_fnK (K := K) H__law_made hr (by decide) passLS (pa_cons (pv 4) pa_nil)) pa_nil)) pa_nil)) (pe_callB (b_reprE (K := K) hg hr (b_repr (K := K) hg hr)) (by rfl) z_repr (by decide +kernel) (pa_cons (pe_op k_rep (pe_lstC (pe_lst (pa_cons (pv 4) pa_nil))) pe_int) pa_nil)) (nomark _)) (pw_or1 (pt_cmpR (k_ne (K := K) hr) (pe_callB (b_reprE (K := K) hg hr (b_repr (K := K) hg hr)) (by rfl) z_repr (by decide +kernel) (pa_cons (pe_fnK (K := K) H__law_named hr (by decide) passLS (pa_cons (pv 4) pa_nil)) pa_nil)) (pe_callB (b_reprE (K := K) hg hr (b_repr (K := K) hg hr)) (by rfl) z_repr (by decide +kernel) (pa_cons (pe_op k_rep (pe_lstC (pe_lst (pa_cons (pv 4) pa_nil))) pe_int) pa_nil)) (nomark _)))))
  (pss_one (ps_ret pe_bl)) pss_nil))))))
  (pss_one (ps_ret pe_bl)))),
  fun Ξ => (lf_seqT inferInstance (lf_seqT inferInstance inferInstance))⟩) (pure_law)
end PK
set_option maxRecDepth 1000000
set_option maxHeartbeats 0
namespace PK
open PySem PySem.Spec PyProof.Rows L2 DL
theorem facts {P : Program} {w : World} {K : Frag} {h : Heap} {mg : Str → Option Value} {f : Addr} (X : K.In h) (G : h.Ns mainGlobals mg) (hfa : mg ("law" : Str) = some (.ref f)) (c : SaysZ faL exL fnL xsL K) (hfile : ((P.main.file : Str) == ("/claim/cut.py" : Str)) = true) (htop : (P.main.scope.names.lookup ("super" : Str)).isSome = false) :
    ∃ fd : FuncData, (∀ (s : Shared) (v : Value), BindsTo s fd ⟨[v], []⟩ [("_law_script", v)]) ∧ ∀ base : Heap, K.In base → base.Ns mainGlobals mg → FnG P w K mg base (L2.CX P w) 4 f fd ["_law_script"] (toSp K 1 (S_law K)) := by
  have D__law_begin : Def1 K mg "_law_begin" s__law_begin := by
    obtain ⟨fd, F⟩ := c.def_ 0 (d := d__law_begin) rfl
    exact ⟨_, fd, He.glo_ok X G (c.fact 0 (f := .glo "_law_begin") rfl), F⟩
  have D__law_kinds : Def1 K mg "_law_kinds" s__law_kinds := by
    obtain ⟨fd, F⟩ := c.def_ 1 (d := d__law_kinds) rfl
    exact ⟨_, fd, He.glo_ok X G (c.fact 1 (f := .glo "_law_kinds") rfl), F⟩
  have D__law_families_right : Def1 K mg "_law_families_right" s__law_families_right := by
    obtain ⟨fd, F⟩ := c.def_ 2 (d := d__law_families_right) rfl
    exact ⟨_, fd, He.glo_ok X G (c.fact 2 (f := .glo "_law_families_right") rfl), F⟩
  have D__law_fields : Def1 K mg "_law_fields" s__law_fields := by
    obtain ⟨fd, F⟩ := c.def_ 3 (d := d__law_fields) rfl
    exact ⟨_, fd, He.glo_ok X G (c.fact 3 (f := .glo "_law_fields") rfl), F⟩
  have D__law_made : Def1 K mg "_law_made" s__law_made := by
    obtain ⟨fd, F⟩ := c.def_ 4 (d := d__law_made) rfl
    exact ⟨_, fd, He.glo_ok X G (c.fact 4 (f := .glo "_law_made") rfl), F⟩
  have D__law_named : Def1 K mg "_law_named" s__law_named := by
    obtain ⟨fd, F⟩ := c.def_ 5 (d := d__law_named) rfl
    exact ⟨_, fd, He.glo_ok X G (c.fact 5 (f := .glo "_law_named") rfl), F⟩
  have D__law_mixed : Def1 K mg "_law_mixed" s__law_mixed := by
    obtain ⟨fd, F⟩ := c.def_ 6 (d := d__law_mixed) rfl
    exact ⟨_, fd, He.glo_ok X G (c.fact 6 (f := .glo "_law_mixed") rfl), F⟩
  have D__law_next : Def1 K mg "_law_next" s__law_next := by
    obtain ⟨fd, F⟩ := c.def_ 7 (d := d__law_next) rfl
    exact ⟨_, fd, He.glo_ok X G (c.fact 7 (f := .glo "_law_next") rfl), F⟩
  have D_law : Def1 K mg "law" s_law := by
    obtain ⟨fd, F⟩ := c.def_ 8 (d := d_law) rfl
    exact ⟨_, fd, He.glo_ok X G (c.fact 8 (f := .glo "law") rfl), F⟩
  haveI cv : CV K := ⟨exTabB_ok (c.own 0 (f := exTabB ((["BadVersion", "BadRange", "BadEnvironment", "BadMarker", "BadRequirement", "BadName", "BadPath", "BadText", "BadCount", "BadEvent", "BadWay", "BadStep", "BadParcel", "BadLock", "BadBase"] : List Str) ++ (["NoChoice", "TooWide", "PathClash", "Foreign", "NoRoom", "Damaged", "Pending", "PowerCut", "WrongSum", "NotClosed", "NoRepair", "Taken"] : List Str) ++ (["NoName", "NoRelease", "NoParcel", "NoRequest", "NoPath", "NoPast", "NoMark", "NoSection"] : List Str))) rfl),
    exiAllB_ok (c.own 1 (f := exiAllB ((["BadVersion", "BadRange", "BadEnvironment", "BadMarker", "BadRequirement", "BadName", "BadPath", "BadText", "BadCount", "BadEvent", "BadWay", "BadStep", "BadParcel", "BadLock", "BadBase"] : List Str) ++ (["NoChoice", "TooWide", "PathClash", "Foreign", "NoRoom", "Damaged", "Pending", "PowerCut", "WrongSum", "NotClosed", "NoRepair", "Taken"] : List Str) ++ (["NoName", "NoRelease", "NoParcel", "NoRequest", "NoPath", "NoPast", "NoMark", "NoSection"] : List Str))) rfl),
    exfAllB_ok (c.own 2 (f := exfAllB (([("BadVersion", "given"), ("BadRange", "given"), ("BadEnvironment", "given"), ("BadMarker", "given"), ("BadRequirement", "given"), ("BadName", "given"), ("BadPath", "given"), ("BadText", "given"), ("BadCount", "given"), ("BadEvent", "given"), ("BadWay", "given"), ("BadStep", "place"), ("BadParcel", "line"), ("BadLock", "line"), ("BadBase", "line")] : List (Str × Str)) ++ ([("NoChoice", "clash"), ("TooWide", "most"), ("PathClash", "given"), ("Foreign", "given"), ("NoRoom", "wanted"), ("Damaged", "found"), ("Pending", "begun"), ("PowerCut", "done"), ("WrongSum", "given"), ("NotClosed", "given"), ("NoRepair", "given"), ("Taken", "given")] : List (Str × Str)) ++ ([("NoName", "given"), ("NoRelease", "given"), ("NoParcel", "given"), ("NoRequest", "given"), ("NoPath", "given"), ("NoPast", "given"), ("NoMark", "given"), ("NoSection", "given")] : List (Str × Str)))) rfl),
    exGrpB_c (c.own 3 (f := exGrpB (([("BadVersion", 0), ("BadRange", 0), ("BadEnvironment", 0), ("BadMarker", 0), ("BadRequirement", 0), ("BadName", 0), ("BadPath", 0), ("BadText", 0), ("BadCount", 0), ("BadEvent", 0), ("BadWay", 0), ("BadStep", 0), ("BadParcel", 0), ("BadLock", 0), ("BadBase", 0)] : List (Str × Nat)) ++ ([("NoChoice", 1), ("TooWide", 1), ("PathClash", 1), ("Foreign", 1), ("NoRoom", 1), ("Damaged", 1), ("Pending", 1), ("PowerCut", 1), ("WrongSum", 1), ("NotClosed", 1), ("NoRepair", 1), ("Taken", 1)] : List (Str × Nat)) ++ ([("NoName", 2), ("NoRelease", 2), ("NoParcel", 2), ("NoRequest", 2), ("NoPath", 2), ("NoPast", 2), ("NoMark", 2), ("NoSection", 2)] : List (Str × Nat))) [("ParcelError", 0), ("ChoiceError", 1), ("AbsentError", 2)] [("ValueError", 0), ("RuntimeError", 1), ("LookupError", 2)]) rfl),
    exGrpB_t (c.own 3 (f := exGrpB (([("BadVersion", 0), ("BadRange", 0), ("BadEnvironment", 0), ("BadMarker", 0), ("BadRequirement", 0), ("BadName", 0), ("BadPath", 0), ("BadText", 0), ("BadCount", 0), ("BadEvent", 0), ("BadWay", 0), ("BadStep", 0), ("BadParcel", 0), ("BadLock", 0), ("BadBase", 0)] : List (Str × Nat)) ++ ([("NoChoice", 1), ("TooWide", 1), ("PathClash", 1), ("Foreign", 1), ("NoRoom", 1), ("Damaged", 1), ("Pending", 1), ("PowerCut", 1), ("WrongSum", 1), ("NotClosed", 1), ("NoRepair", 1), ("Taken", 1)] : List (Str × Nat)) ++ ([("NoName", 2), ("NoRelease", 2), ("NoParcel", 2), ("NoRequest", 2), ("NoPath", 2), ("NoPast", 2), ("NoMark", 2), ("NoSection", 2)] : List (Str × Nat))) [("ParcelError", 0), ("ChoiceError", 1), ("AbsentError", 2)] [("ValueError", 0), ("RuntimeError", 1), ("LookupError", 2)]) rfl),
    exNoB_ok (c.own 4 (f := exNoB ((["BadVersion", "BadRange", "BadEnvironment", "BadMarker", "BadRequirement", "BadName", "BadPath", "BadText", "BadCount", "BadEvent", "BadWay", "BadStep", "BadParcel", "BadLock", "BadBase"] : List Str) ++ (["NoChoice", "TooWide", "PathClash", "Foreign", "NoRoom", "Damaged", "Pending", "PowerCut", "WrongSum", "NotClosed", "NoRepair", "Taken"] : List Str) ++ (["NoName", "NoRelease", "NoParcel", "NoRequest", "NoPath", "NoPast", "NoMark", "NoSection"] : List Str)) ["KeyError", "IndexError", "NotImplementedError"]) rfl)⟩
  have z_isinstance : mg "isinstance" = none := He.free_ok X G (c.fact 9 (f := .free "isinstance") rfl)
  have g_BadEnvironment : mg "BadEnvironment" = some (.ref (He.ga K "BadEnvironment")) := He.glo_ok X G (c.fact 10 (f := .glo "BadEnvironment") rfl)
  have g_BadRange : mg "BadRange" = some (.ref (He.ga K "BadRange")) := He.glo_ok X G (c.fact 11 (f := .glo "BadRange") rfl)
  have g_BadVersion : mg "BadVersion" = some (.ref (He.ga K "BadVersion")) := He.glo_ok X G (c.fact 12 (f := .glo "BadVersion") rfl)
  have g_BadName : mg "BadName" = some (.ref (He.ga K "BadName")) := He.glo_ok X G (c.fact 13 (f := .glo "BadName") rfl)
  have g_BadRequirement : mg "BadRequirement" = some (.ref (He.ga K "BadRequirement")) := He.glo_ok X G (c.fact 14 (f := .glo "BadRequirement") rfl)
  have g_BadMarker : mg "BadMarker" = some (.ref (He.ga K "BadMarker")) := He.glo_ok X G (c.fact 15 (f := .glo "BadMarker") rfl)
  have g_BadEvent : mg "BadEvent" = some (.ref (He.ga K "BadEvent")) := He.glo_ok X G (c.fact 16 (f := .glo "BadEvent") rfl)
  have g_BadCount : mg "BadCount" = some (.ref (He.ga K "BadCount")) := He.glo_ok X G (c.fact 17 (f := .glo "BadCount") rfl)
  have g_BadText : mg "BadText" = some (.ref (He.ga K "BadText")) := He.glo_ok X G (c.fact 18 (f := .glo "BadText") rfl)
  have g_BadPath : mg "BadPath" = some (.ref (He.ga K "BadPath")) := He.glo_ok X G (c.fact 19 (f := .glo "BadPath") rfl)
  have g_BadLock : mg "BadLock" = some (.ref (He.ga K "BadLock")) := He.glo_ok X G (c.fact 20 (f := .glo "BadLock") rfl)
  have g_BadParcel : mg "BadParcel" = some (.ref (He.ga K "BadParcel")) := He.glo_ok X G (c.fact 21 (f := .glo "BadParcel") rfl)
  have g_BadStep : mg "BadStep" = some (.ref (He.ga K "BadStep")) := He.glo_ok X G (c.fact 22 (f := .glo "BadStep") rfl)
  have g_BadWay : mg "BadWay" = some (.ref (He.ga K "BadWay")) := He.glo_ok X G (c.fact 23 (f := .glo "BadWay") rfl)
  have g_PathClash : mg "PathClash" = some (.ref (He.ga K "PathClash")) := He.glo_ok X G (c.fact 24 (f := .glo "PathClash") rfl)
  have g_TooWide : mg "TooWide" = some (.ref (He.ga K "TooWide")) := He.glo_ok X G (c.fact 25 (f := .glo "TooWide") rfl)
  have g_NoChoice : mg "NoChoice" = some (.ref (He.ga K "NoChoice")) := He.glo_ok X G (c.fact 26 (f := .glo "NoChoice") rfl)
  have g_BadBase : mg "BadBase" = some (.ref (He.ga K "BadBase")) := He.glo_ok X G (c.fact 27 (f := .glo "BadBase") rfl)
  have g_Pending : mg "Pending" = some (.ref (He.ga K "Pending")) := He.glo_ok X G (c.fact 28 (f := .glo "Pending") rfl)
  have g_Damaged : mg "Damaged" = some (.ref (He.ga K "Damaged")) := He.glo_ok X G (c.fact 29 (f := .glo "Damaged") rfl)
  have g_NoRoom : mg "NoRoom" = some (.ref (He.ga K "NoRoom")) := He.glo_ok X G (c.fact 30 (f := .glo "NoRoom") rfl)
  have g_Foreign : mg "Foreign" = some (.ref (He.ga K "Foreign")) := He.glo_ok X G (c.fact 31 (f := .glo "Foreign") rfl)
  have g_NoRepair : mg "NoRepair" = some (.ref (He.ga K "NoRepair")) := He.glo_ok X G (c.fact 32 (f := .glo "NoRepair") rfl)
  have g_NotClosed : mg "NotClosed" = some (.ref (He.ga K "NotClosed")) := He.glo_ok X G (c.fact 33 (f := .glo "NotClosed") rfl)
  have g_WrongSum : mg "WrongSum" = some (.ref (He.ga K "WrongSum")) := He.glo_ok X G (c.fact 34 (f := .glo "WrongSum") rfl)
  have g_PowerCut : mg "PowerCut" = some (.ref (He.ga K "PowerCut")) := He.glo_ok X G (c.fact 35 (f := .glo "PowerCut") rfl)
  have g_NoParcel : mg "NoParcel" = some (.ref (He.ga K "NoParcel")) := He.glo_ok X G (c.fact 36 (f := .glo "NoParcel") rfl)
  have g_NoRelease : mg "NoRelease" = some (.ref (He.ga K "NoRelease")) := He.glo_ok X G (c.fact 37 (f := .glo "NoRelease") rfl)
  have g_NoName : mg "NoName" = some (.ref (He.ga K "NoName")) := He.glo_ok X G (c.fact 38 (f := .glo "NoName") rfl)
  have g_Taken : mg "Taken" = some (.ref (He.ga K "Taken")) := He.glo_ok X G (c.fact 39 (f := .glo "Taken") rfl)
  have g_NoMark : mg "NoMark" = some (.ref (He.ga K "NoMark")) := He.glo_ok X G (c.fact 40 (f := .glo "NoMark") rfl)
  have g_NoPast : mg "NoPast" = some (.ref (He.ga K "NoPast")) := He.glo_ok X G (c.fact 41 (f := .glo "NoPast") rfl)
  have g_NoPath : mg "NoPath" = some (.ref (He.ga K "NoPath")) := He.glo_ok X G (c.fact 42 (f := .glo "NoPath") rfl)
  have g_NoRequest : mg "NoRequest" = some (.ref (He.ga K "NoRequest")) := He.glo_ok X G (c.fact 43 (f := .glo "NoRequest") rfl)
  have g_NoSection : mg "NoSection" = some (.ref (He.ga K "NoSection")) := He.glo_ok X G (c.fact 44 (f := .glo "NoSection") rfl)
  have z_enumerate : mg "enumerate" = none := He.free_ok X G (c.fact 45 (f := .free "enumerate") rfl)
  have g_AbsentError : mg "AbsentError" = some (.ref (He.ga K "AbsentError")) := He.glo_ok X G (c.fact 46 (f := .glo "AbsentError") rfl)
  have g_ChoiceError : mg "ChoiceError" = some (.ref (He.ga K "ChoiceError")) := He.glo_ok X G (c.fact 47 (f := .glo "ChoiceError") rfl)
  have g_ParcelError : mg "ParcelError" = some (.ref (He.ga K "ParcelError")) := He.glo_ok X G (c.fact 48 (f := .glo "ParcelError") rfl)
  have z_LookupError : mg "LookupError" = none := He.free_ok X G (c.fact 49 (f := .free "LookupError") rfl)
  have z_RuntimeError : mg "RuntimeError" = none := He.free_ok X G (c.fact 50 (f := .free "RuntimeError") rfl)
  have z_ValueError : mg "ValueError" = none := He.free_ok X G (c.fact 51 (f := .free "ValueError") rfl)
  have z_range : mg "range" = none := He.free_ok X G (c.fact 52 (f := .free "range") rfl)
  have z_NotImplementedError : mg "NotImplementedError" = none := He.free_ok X G (c.fact 53 (f := .free "NotImplementedError") rfl)
  have z_IndexError : mg "IndexError" = none := He.free_ok X G (c.fact 54 (f := .free "IndexError") rfl)
  have z_KeyError : mg "KeyError" = none := He.free_ok X G (c.fact 55 (f := .free "KeyError") rfl)
  have z_len : mg "len" = none := He.free_ok X G (c.fact 56 (f := .free "len") rfl)
  have z_min : mg "min" = none := He.free_ok X G (c.fact 57 (f := .free "min") rfl)
  have z_repr : mg "repr" = none := He.free_ok X G (c.fact 58 (f := .free "repr") rfl)
  have hms : mg "super" = none := He.free_ok X G (c.fact 59 (f := .free "super") rfl)
  have E_BadBase : ∀ base : Heap, ExcW P w K mg base (He.ga K "BadBase") "line" "line" := fun base => excW_of (d := dx_BadBase) (file := "/claim/cut.py") PySem.F.excBase_ValueError PySem.W.kxs_ValueError PySem.F.store_ValueError (c.own 5 (f := excB1 "ValueError" "ValueError.__init__" "ValueError.__new__" [.type "ValueError", .type "Exception", .type "BaseException", .type "object"] "BadBase" "line") rfl) (c.own 6 (f := excB2 "/claim/cut.py" "BadBase.__init__" "BadBase") rfl) (c.exc 0 (d := dx_BadBase) rfl) rfl (NdefX.nscope_by (by decide +kernel)) rfl rfl
    (fun _ _ _ _ _ _ _ us hl => match us, hl with | [_, _], _ => rfl) (fun _ _ _ _ _ _ _ _ _ => rfl) hfile rfl htop hms (by decide) (by decide) (fun _ _ _ _ => rfl)
  have E_BadCount : ∀ base : Heap, ExcW P w K mg base (He.ga K "BadCount") "given" "given" := fun base => excW_of (d := dx_BadCount) (file := "/claim/cut.py") PySem.F.excBase_ValueError PySem.W.kxs_ValueError PySem.F.store_ValueError (c.own 7 (f := excB1 "ValueError" "ValueError.__init__" "ValueError.__new__" [.type "ValueError", .type "Exception", .type "BaseException", .type "object"] "BadCount" "given") rfl) (c.own 8 (f := excB2 "/claim/cut.py" "BadCount.__init__" "BadCount") rfl) (c.exc 1 (d := dx_BadCount) rfl) rfl (NdefX.nscope_by (by decide +kernel)) rfl rfl
    (fun _ _ _ _ _ _ _ us hl => match us, hl with | [_, _], _ => rfl) (fun _ _ _ _ _ _ _ _ _ => rfl) hfile rfl htop hms (by decide) (by decide) (fun _ _ _ _ => rfl)
  have E_BadEnvironment : ∀ base : Heap, ExcW P w K mg base (He.ga K "BadEnvironment") "given" "given" := fun base => excW_of (d := dx_BadEnvironment) (file := "/claim/cut.py") PySem.F.excBase_ValueError PySem.W.kxs_ValueError PySem.F.store_ValueError (c.own 9 (f := excB1 "ValueError" "ValueError.__init__" "ValueError.__new__" [.type "ValueError", .type "Exception", .type "BaseException", .type "object"] "BadEnvironment" "given") rfl) (c.own 10 (f := excB2 "/claim/cut.py" "BadEnvironment.__init__" "BadEnvironment") rfl) (c.exc 2 (d := dx_BadEnvironment) rfl) rfl (NdefX.nscope_by (by decide +kernel)) rfl rfl
    (fun _ _ _ _ _ _ _ us hl => match us, hl with | [_, _], _ => rfl) (fun _ _ _ _ _ _ _ _ _ => rfl) hfile rfl htop hms (by decide) (by decide) (fun _ _ _ _ => rfl)
  have E_BadEvent : ∀ base : Heap, ExcW P w K mg base (He.ga K "BadEvent") "given" "given" := fun base => excW_of (d := dx_BadEvent) (file := "/claim/cut.py") PySem.F.excBase_ValueError PySem.W.kxs_ValueError PySem.F.store_ValueError (c.own 11 (f := excB1 "ValueError" "ValueError.__init__" "ValueError.__new__" [.type "ValueError", .type "Exception", .type "BaseException", .type "object"] "BadEvent" "given") rfl) (c.own 12 (f := excB2 "/claim/cut.py" "BadEvent.__init__" "BadEvent") rfl) (c.exc 3 (d := dx_BadEvent) rfl) rfl (NdefX.nscope_by (by decide +kernel)) rfl rfl
    (fun _ _ _ _ _ _ _ us hl => match us, hl with | [_, _], _ => rfl) (fun _ _ _ _ _ _ _ _ _ => rfl) hfile rfl htop hms (by decide) (by decide) (fun _ _ _ _ => rfl)
  have E_BadLock : ∀ base : Heap, ExcW P w K mg base (He.ga K "BadLock") "line" "line" := fun base => excW_of (d := dx_BadLock) (file := "/claim/cut.py") PySem.F.excBase_ValueError PySem.W.kxs_ValueError PySem.F.store_ValueError (c.own 13 (f := excB1 "ValueError" "ValueError.__init__" "ValueError.__new__" [.type "ValueError", .type "Exception", .type "BaseException", .type "object"] "BadLock" "line") rfl) (c.own 14 (f := excB2 "/claim/cut.py" "BadLock.__init__" "BadLock") rfl) (c.exc 4 (d := dx_BadLock) rfl) rfl (NdefX.nscope_by (by decide +kernel)) rfl rfl
    (fun _ _ _ _ _ _ _ us hl => match us, hl with | [_, _], _ => rfl) (fun _ _ _ _ _ _ _ _ _ => rfl) hfile rfl htop hms (by decide) (by decide) (fun _ _ _ _ => rfl)
  have E_BadMarker : ∀ base : Heap, ExcW P w K mg base (He.ga K "BadMarker") "given" "given" := fun base => excW_of (d := dx_BadMarker) (file := "/claim/cut.py") PySem.F.excBase_ValueError PySem.W.kxs_ValueError PySem.F.store_ValueError (c.own 15 (f := excB1 "ValueError" "ValueError.__init__" "ValueError.__new__" [.type "ValueError", .type "Exception", .type "BaseException", .type "object"] "BadMarker" "given") rfl) (c.own 16 (f := excB2 "/claim/cut.py" "BadMarker.__init__" "BadMarker") rfl) (c.exc 5 (d := dx_BadMarker) rfl) rfl (NdefX.nscope_by (by decide +kernel)) rfl rfl
    (fun _ _ _ _ _ _ _ us hl => match us, hl with | [_, _], _ => rfl) (fun _ _ _ _ _ _ _ _ _ => rfl) hfile rfl htop hms (by decide) (by decide) (fun _ _ _ _ => rfl)
  have E_BadName : ∀ base : Heap, ExcW P w K mg base (He.ga K "BadName") "given" "given" := fun base => excW_of (d := dx_BadName) (file := "/claim/cut.py") PySem.F.excBase_ValueError PySem.W.kxs_ValueError PySem.F.store_ValueError (c.own 17 (f := excB1 "ValueError" "ValueError.__init__" "ValueError.__new__" [.type "ValueError", .type "Exception", .type "BaseException", .type "object"] "BadName" "given") rfl) (c.own 18 (f := excB2 "/claim/cut.py" "BadName.__init__" "BadName") rfl) (c.exc 6 (d := dx_BadName) rfl) rfl (NdefX.nscope_by (by decide +kernel)) rfl rfl
    (fun _ _ _ _ _ _ _ us hl => match us, hl with | [_, _], _ => rfl) (fun _ _ _ _ _ _ _ _ _ => rfl) hfile rfl htop hms (by decide) (by decide) (fun _ _ _ _ => rfl)
  have E_BadParcel : ∀ base : Heap, ExcW P w K mg base (He.ga K "BadParcel") "line" "line" := fun base => excW_of (d := dx_BadParcel) (file := "/claim/cut.py") PySem.F.excBase_ValueError PySem.W.kxs_ValueError PySem.F.store_ValueError (c.own 19 (f := excB1 "ValueError" "ValueError.__init__" "ValueError.__new__" [.type "ValueError", .type "Exception", .type "BaseException", .type "object"] "BadParcel" "line") rfl) (c.own 20 (f := excB2 "/claim/cut.py" "BadParcel.__init__" "BadParcel") rfl) (c.exc 7 (d := dx_BadParcel) rfl) rfl (NdefX.nscope_by (by decide +kernel)) rfl rfl
    (fun _ _ _ _ _ _ _ us hl => match us, hl with | [_, _], _ => rfl) (fun _ _ _ _ _ _ _ _ _ => rfl) hfile rfl htop hms (by decide) (by decide) (fun _ _ _ _ => rfl)
  have E_BadPath : ∀ base : Heap, ExcW P w K mg base (He.ga K "BadPath") "given" "given" := fun base => excW_of (d := dx_BadPath) (file := "/claim/cut.py") PySem.F.excBase_ValueError PySem.W.kxs_ValueError PySem.F.store_ValueError (c.own 21 (f := excB1 "ValueError" "ValueError.__init__" "ValueError.__new__" [.type "ValueError", .type "Exception", .type "BaseException", .type "object"] "BadPath" "given") rfl) (c.own 22 (f := excB2 "/claim/cut.py" "BadPath.__init__" "BadPath") rfl) (c.exc 8 (d := dx_BadPath) rfl) rfl (NdefX.nscope_by (by decide +kernel)) rfl rfl
    (fun _ _ _ _ _ _ _ us hl => match us, hl with | [_, _], _ => rfl) (fun _ _ _ _ _ _ _ _ _ => rfl) hfile rfl htop hms (by decide) (by decide) (fun _ _ _ _ => rfl)
  have E_BadRange : ∀ base : Heap, ExcW P w K mg base (He.ga K "BadRange") "given" "given" := fun base => excW_of (d := dx_BadRange) (file := "/claim/cut.py") PySem.F.excBase_ValueError PySem.W.kxs_ValueError PySem.F.store_ValueError (c.own 23 (f := excB1 "ValueError" "ValueError.__init__" "ValueError.__new__" [.type "ValueError", .type "Exception", .type "BaseException", .type "object"] "BadRange" "given") rfl) (c.own 24 (f := excB2 "/claim/cut.py" "BadRange.__init__" "BadRange") rfl) (c.exc 9 (d := dx_BadRange) rfl) rfl (NdefX.nscope_by (by decide +kernel)) rfl rfl
    (fun _ _ _ _ _ _ _ us hl => match us, hl with | [_, _], _ => rfl) (fun _ _ _ _ _ _ _ _ _ => rfl) hfile rfl htop hms (by decide) (by decide) (fun _ _ _ _ => rfl)
  have E_BadRequirement : ∀ base : Heap, ExcW P w K mg base (He.ga K "BadRequirement") "given" "given" := fun base => excW_of (d := dx_BadRequirement) (file := "/claim/cut.py") PySem.F.excBase_ValueError PySem.W.kxs_ValueError PySem.F.store_ValueError (c.own 25 (f := excB1 "ValueError" "ValueError.__init__" "ValueError.__new__" [.type "ValueError", .type "Exception", .type "BaseException", .type "object"] "BadRequirement" "given") rfl) (c.own 26 (f := excB2 "/claim/cut.py" "BadRequirement.__init__" "BadRequirement") rfl) (c.exc 10 (d := dx_BadRequirement) rfl) rfl (NdefX.nscope_by (by decide +kernel)) rfl rfl
    (fun _ _ _ _ _ _ _ us hl => match us, hl with | [_, _], _ => rfl) (fun _ _ _ _ _ _ _ _ _ => rfl) hfile rfl htop hms (by decide) (by decide) (fun _ _ _ _ => rfl)
  have E_BadStep : ∀ base : Heap, ExcW P w K mg base (He.ga K "BadStep") "place" "place" := fun base => excW_of (d := dx_BadStep) (file := "/claim/cut.py") PySem.F.excBase_ValueError PySem.W.kxs_ValueError PySem.F.store_ValueError (c.own 27 (f := excB1 "ValueError" "ValueError.__init__" "ValueError.__new__" [.type "ValueError", .type "Exception", .type "BaseException", .type "object"] "BadStep" "place") rfl) (c.own 28 (f := excB2 "/claim/cut.py" "BadStep.__init__" "BadStep") rfl) (c.exc 11 (d := dx_BadStep) rfl) rfl (NdefX.nscope_by (by decide +kernel)) rfl rfl
    (fun _ _ _ _ _ _ _ us hl => match us, hl with | [_, _], _ => rfl) (fun _ _ _ _ _ _ _ _ _ => rfl) hfile rfl htop hms (by decide) (by decide) (fun _ _ _ _ => rfl)
  have E_BadText : ∀ base : Heap, ExcW P w K mg base (He.ga K "BadText") "given" "given" := fun base => excW_of (d := dx_BadText) (file := "/claim/cut.py") PySem.F.excBase_ValueError PySem.W.kxs_ValueError PySem.F.store_ValueError (c.own 29 (f := excB1 "ValueError" "ValueError.__init__" "ValueError.__new__" [.type "ValueError", .type "Exception", .type "BaseException", .type "object"] "BadText" "given") rfl) (c.own 30 (f := excB2 "/claim/cut.py" "BadText.__init__" "BadText") rfl) (c.exc 12 (d := dx_BadText) rfl) rfl (NdefX.nscope_by (by decide +kernel)) rfl rfl
    (fun _ _ _ _ _ _ _ us hl => match us, hl with | [_, _], _ => rfl) (fun _ _ _ _ _ _ _ _ _ => rfl) hfile rfl htop hms (by decide) (by decide) (fun _ _ _ _ => rfl)
  have E_BadVersion : ∀ base : Heap, ExcW P w K mg base (He.ga K "BadVersion") "given" "given" := fun base => excW_of (d := dx_BadVersion) (file := "/claim/cut.py") PySem.F.excBase_ValueError PySem.W.kxs_ValueError PySem.F.store_ValueError (c.own 31 (f := excB1 "ValueError" "ValueError.__init__" "ValueError.__new__" [.type "ValueError", .type "Exception", .type "BaseException", .type "object"] "BadVersion" "given") rfl) (c.own 32 (f := excB2 "/claim/cut.py" "BadVersion.__init__" "BadVersion") rfl) (c.exc 13 (d := dx_BadVersion) rfl) rfl (NdefX.nscope_by (by decide +kernel)) rfl rfl
    (fun _ _ _ _ _ _ _ us hl => match us, hl with | [_, _], _ => rfl) (fun _ _ _ _ _ _ _ _ _ => rfl) hfile rfl htop hms (by decide) (by decide) (fun _ _ _ _ => rfl)
  have E_BadWay : ∀ base : Heap, ExcW P w K mg base (He.ga K "BadWay") "given" "given" := fun base => excW_of (d := dx_BadWay) (file := "/claim/cut.py") PySem.F.excBase_ValueError PySem.W.kxs_ValueError PySem.F.store_ValueError (c.own 33 (f := excB1 "ValueError" "ValueError.__init__" "ValueError.__new__" [.type "ValueError", .type "Exception", .type "BaseException", .type "object"] "BadWay" "given") rfl) (c.own 34 (f := excB2 "/claim/cut.py" "BadWay.__init__" "BadWay") rfl) (c.exc 14 (d := dx_BadWay) rfl) rfl (NdefX.nscope_by (by decide +kernel)) rfl rfl
    (fun _ _ _ _ _ _ _ us hl => match us, hl with | [_, _], _ => rfl) (fun _ _ _ _ _ _ _ _ _ => rfl) hfile rfl htop hms (by decide) (by decide) (fun _ _ _ _ => rfl)
  have E_Damaged : ∀ base : Heap, ExcW P w K mg base (He.ga K "Damaged") "found" "found" := fun base => excW_of (d := dx_Damaged) (file := "/claim/cut.py") PySem.F.excBase_RuntimeError PySem.W.kxs_RuntimeError PySem.F.store_RuntimeError (c.own 35 (f := excB1 "RuntimeError" "RuntimeError.__init__" "RuntimeError.__new__" [.type "RuntimeError", .type "Exception", .type "BaseException", .type "object"] "Damaged" "found") rfl) (c.own 36 (f := excB2 "/claim/cut.py" "Damaged.__init__" "Damaged") rfl) (c.exc 15 (d := dx_Damaged) rfl) rfl (NdefX.nscope_by (by decide +kernel)) rfl rfl
    (fun _ _ _ _ _ _ _ us hl => match us, hl with | [_, _], _ => rfl) (fun _ _ _ _ _ _ _ _ _ => rfl) hfile rfl htop hms (by decide) (by decide) (fun _ _ _ _ => rfl)
  have E_Foreign : ∀ base : Heap, ExcW P w K mg base (He.ga K "Foreign") "given" "given" := fun base => excW_of (d := dx_Foreign) (file := "/claim/cut.py") PySem.F.excBase_RuntimeError PySem.W.kxs_RuntimeError PySem.F.store_RuntimeError (c.own 37 (f := excB1 "RuntimeError" "RuntimeError.__init__" "RuntimeError.__new__" [.type "RuntimeError", .type "Exception", .type "BaseException", .type "object"] "Foreign" "given") rfl) (c.own 38 (f := excB2 "/claim/cut.py" "Foreign.__init__" "Foreign") rfl) (c.exc 16 (d := dx_Foreign) rfl) rfl (NdefX.nscope_by (by decide +kernel)) rfl rfl
    (fun _ _ _ _ _ _ _ us hl => match us, hl with | [_, _], _ => rfl) (fun _ _ _ _ _ _ _ _ _ => rfl) hfile rfl htop hms (by decide) (by decide) (fun _ _ _ _ => rfl)
  have E_NoChoice : ∀ base : Heap, ExcW P w K mg base (He.ga K "NoChoice") "clash" "clash" := fun base => excW_of (d := dx_NoChoice) (file := "/claim/cut.py") PySem.F.excBase_RuntimeError PySem.W.kxs_RuntimeError PySem.F.store_RuntimeError (c.own 39 (f := excB1 "RuntimeError" "RuntimeError.__init__" "RuntimeError.__new__" [.type "RuntimeError", .type "Exception", .type "BaseException", .type "object"] "NoChoice" "clash") rfl) (c.own 40 (f := excB2 "/claim/cut.py" "NoChoice.__init__" "NoChoice") rfl) (c.exc 17 (d := dx_NoChoice) rfl) rfl (NdefX.nscope_by (by decide +kernel)) rfl rfl
    (fun _ _ _ _ _ _ _ us hl => match us, hl with | [_, _], _ => rfl) (fun _ _ _ _ _ _ _ _ _ => rfl) hfile rfl htop hms (by decide) (by decide) (fun _ _ _ _ => rfl)
  have E_NoMark : ∀ base : Heap, ExcW P w K mg base (He.ga K "NoMark") "given" "given" := fun base => excW_of (d := dx_NoMark) (file := "/claim/cut.py") PySem.F.excBase_LookupError PySem.W.kxs_LookupError PySem.F.store_LookupError (c.own 41 (f := excB1 "LookupError" "LookupError.__init__" "LookupError.__new__" [.type "LookupError", .type "Exception", .type "BaseException", .type "object"] "NoMark" "given") rfl) (c.own 42 (f := excB2 "/claim/cut.py" "NoMark.__init__" "NoMark") rfl) (c.exc 18 (d := dx_NoMark) rfl) rfl (NdefX.nscope_by (by decide +kernel)) rfl rfl
    (fun _ _ _ _ _ _ _ us hl => match us, hl with | [_, _], _ => rfl) (fun _ _ _ _ _ _ _ _ _ => rfl) hfile rfl htop hms (by decide) (by decide) (fun _ _ _ _ => rfl)
  have E_NoName : ∀ base : Heap, ExcW P w K mg base (He.ga K "NoName") "given" "given" := fun base => excW_of (d := dx_NoName) (file := "/claim/cut.py") PySem.F.excBase_LookupError PySem.W.kxs_LookupError PySem.F.store_LookupError (c.own 43 (f := excB1 "LookupError" "LookupError.__init__" "LookupError.__new__" [.type "LookupError", .type "Exception", .type "BaseException", .type "object"] "NoName" "given") rfl) (c.own 44 (f := excB2 "/claim/cut.py" "NoName.__init__" "NoName") rfl) (c.exc 19 (d := dx_NoName) rfl) rfl (NdefX.nscope_by (by decide +kernel)) rfl rfl
    (fun _ _ _ _ _ _ _ us hl => match us, hl with | [_, _], _ => rfl) (fun _ _ _ _ _ _ _ _ _ => rfl) hfile rfl htop hms (by decide) (by decide) (fun _ _ _ _ => rfl)
  have E_NoParcel : ∀ base : Heap, ExcW P w K mg base (He.ga K "NoParcel") "given" "given" := fun base => excW_of (d := dx_NoParcel) (file := "/claim/cut.py") PySem.F.excBase_LookupError PySem.W.kxs_LookupError PySem.F.store_LookupError (c.own 45 (f := excB1 "LookupError" "LookupError.__init__" "LookupError.__new__" [.type "LookupError", .type "Exception", .type "BaseException", .type "object"] "NoParcel" "given") rfl) (c.own 46 (f := excB2 "/claim/cut.py" "NoParcel.__init__" "NoParcel") rfl) (c.exc 20 (d := dx_NoParcel) rfl) rfl (NdefX.nscope_by (by decide +kernel)) rfl rfl
    (fun _ _ _ _ _ _ _ us hl => match us, hl with | [_, _], _ => rfl) (fun _ _ _ _ _ _ _ _ _ => rfl) hfile rfl htop hms (by decide) (by decide) (fun _ _ _ _ => rfl)
  have E_NoPast : ∀ base : Heap, ExcW P w K mg base (He.ga K "NoPast") "given" "given" := fun base => excW_of (d := dx_NoPast) (file := "/claim/cut.py") PySem.F.excBase_LookupError PySem.W.kxs_LookupError PySem.F.store_LookupError (c.own 47 (f := excB1 "LookupError" "LookupError.__init__" "LookupError.__new__" [.type "LookupError", .type "Exception", .type "BaseException", .type "object"] "NoPast" "given") rfl) (c.own 48 (f := excB2 "/claim/cut.py" "NoPast.__init__" "NoPast") rfl) (c.exc 21 (d := dx_NoPast) rfl) rfl (NdefX.nscope_by (by decide +kernel)) rfl rfl
    (fun _ _ _ _ _ _ _ us hl => match us, hl with | [_, _], _ => rfl) (fun _ _ _ _ _ _ _ _ _ => rfl) hfile rfl htop hms (by decide) (by decide) (fun _ _ _ _ => rfl)
  have E_NoPath : ∀ base : Heap, ExcW P w K mg base (He.ga K "NoPath") "given" "given" := fun base => excW_of (d := dx_NoPath) (file := "/claim/cut.py") PySem.F.excBase_LookupError PySem.W.kxs_LookupError PySem.F.store_LookupError (c.own 49 (f := excB1 "LookupError" "LookupError.__init__" "LookupError.__new__" [.type "LookupError", .type "Exception", .type "BaseException", .type "object"] "NoPath" "given") rfl) (c.own 50 (f := excB2 "/claim/cut.py" "NoPath.__init__" "NoPath") rfl) (c.exc 22 (d := dx_NoPath) rfl) rfl (NdefX.nscope_by (by decide +kernel)) rfl rfl
    (fun _ _ _ _ _ _ _ us hl => match us, hl with | [_, _], _ => rfl) (fun _ _ _ _ _ _ _ _ _ => rfl) hfile rfl htop hms (by decide) (by decide) (fun _ _ _ _ => rfl)
  have E_NoRelease : ∀ base : Heap, ExcW P w K mg base (He.ga K "NoRelease") "given" "given" := fun base => excW_of (d := dx_NoRelease) (file := "/claim/cut.py") PySem.F.excBase_LookupError PySem.W.kxs_LookupError PySem.F.store_LookupError (c.own 51 (f := excB1 "LookupError" "LookupError.__init__" "LookupError.__new__" [.type "LookupError", .type "Exception", .type "BaseException", .type "object"] "NoRelease" "given") rfl) (c.own 52 (f := excB2 "/claim/cut.py" "NoRelease.__init__" "NoRelease") rfl) (c.exc 23 (d := dx_NoRelease) rfl) rfl (NdefX.nscope_by (by decide +kernel)) rfl rfl
    (fun _ _ _ _ _ _ _ us hl => match us, hl with | [_, _], _ => rfl) (fun _ _ _ _ _ _ _ _ _ => rfl) hfile rfl htop hms (by decide) (by decide) (fun _ _ _ _ => rfl)
  have E_NoRepair : ∀ base : Heap, ExcW P w K mg base (He.ga K "NoRepair") "given" "given" := fun base => excW_of (d := dx_NoRepair) (file := "/claim/cut.py") PySem.F.excBase_RuntimeError PySem.W.kxs_RuntimeError PySem.F.store_RuntimeError (c.own 53 (f := excB1 "RuntimeError" "RuntimeError.__init__" "RuntimeError.__new__" [.type "RuntimeError", .type "Exception", .type "BaseException", .type "object"] "NoRepair" "given") rfl) (c.own 54 (f := excB2 "/claim/cut.py" "NoRepair.__init__" "NoRepair") rfl) (c.exc 24 (d := dx_NoRepair) rfl) rfl (NdefX.nscope_by (by decide +kernel)) rfl rfl
    (fun _ _ _ _ _ _ _ us hl => match us, hl with | [_, _], _ => rfl) (fun _ _ _ _ _ _ _ _ _ => rfl) hfile rfl htop hms (by decide) (by decide) (fun _ _ _ _ => rfl)
  have E_NoRequest : ∀ base : Heap, ExcW P w K mg base (He.ga K "NoRequest") "given" "given" := fun base => excW_of (d := dx_NoRequest) (file := "/claim/cut.py") PySem.F.excBase_LookupError PySem.W.kxs_LookupError PySem.F.store_LookupError (c.own 55 (f := excB1 "LookupError" "LookupError.__init__" "LookupError.__new__" [.type "LookupError", .type "Exception", .type "BaseException", .type "object"] "NoRequest" "given") rfl) (c.own 56 (f := excB2 "/claim/cut.py" "NoRequest.__init__" "NoRequest") rfl) (c.exc 25 (d := dx_NoRequest) rfl) rfl (NdefX.nscope_by (by decide +kernel)) rfl rfl
    (fun _ _ _ _ _ _ _ us hl => match us, hl with | [_, _], _ => rfl) (fun _ _ _ _ _ _ _ _ _ => rfl) hfile rfl htop hms (by decide) (by decide) (fun _ _ _ _ => rfl)
  have E_NoRoom : ∀ base : Heap, ExcW P w K mg base (He.ga K "NoRoom") "wanted" "wanted" := fun base => excW_of (d := dx_NoRoom) (file := "/claim/cut.py") PySem.F.excBase_RuntimeError PySem.W.kxs_RuntimeError PySem.F.store_RuntimeError (c.own 57 (f := excB1 "RuntimeError" "RuntimeError.__init__" "RuntimeError.__new__" [.type "RuntimeError", .type "Exception", .type "BaseException", .type "object"] "NoRoom" "wanted") rfl) (c.own 58 (f := excB2 "/claim/cut.py" "NoRoom.__init__" "NoRoom") rfl) (c.exc 26 (d := dx_NoRoom) rfl) rfl (NdefX.nscope_by (by decide +kernel)) rfl rfl
    (fun _ _ _ _ _ _ _ us hl => match us, hl with | [_, _], _ => rfl) (fun _ _ _ _ _ _ _ _ _ => rfl) hfile rfl htop hms (by decide) (by decide) (fun _ _ _ _ => rfl)
  have E_NoSection : ∀ base : Heap, ExcW P w K mg base (He.ga K "NoSection") "given" "given" := fun base => excW_of (d := dx_NoSection) (file := "/claim/cut.py") PySem.F.excBase_LookupError PySem.W.kxs_LookupError PySem.F.store_LookupError (c.own 59 (f := excB1 "LookupError" "LookupError.__init__" "LookupError.__new__" [.type "LookupError", .type "Exception", .type "BaseException", .type "object"] "NoSection" "given") rfl) (c.own 60 (f := excB2 "/claim/cut.py" "NoSection.__init__" "NoSection") rfl) (c.exc 27 (d := dx_NoSection) rfl) rfl (NdefX.nscope_by (by decide +kernel)) rfl rfl
    (fun _ _ _ _ _ _ _ us hl => match us, hl with | [_, _], _ => rfl) (fun _ _ _ _ _ _ _ _ _ => rfl) hfile rfl htop hms (by decide) (by decide) (fun _ _ _ _ => rfl)
  have E_NotClosed : ∀ base : Heap, ExcW P w K mg base (He.ga K "NotClosed") "given" "given" := fun base => excW_of (d := dx_NotClosed) (file := "/claim/cut.py") PySem.F.excBase_RuntimeError PySem.W.kxs_RuntimeError PySem.F.store_RuntimeError (c.own 61 (f := excB1 "RuntimeError" "RuntimeError.__init__" "RuntimeError.__new__" [.type "RuntimeError", .type "Exception", .type "BaseException", .type "object"] "NotClosed" "given") rfl) (c.own 62 (f := excB2 "/claim/cut.py" "NotClosed.__init__" "NotClosed") rfl) (c.exc 28 (d := dx_NotClosed) rfl) rfl (NdefX.nscope_by (by decide +kernel)) rfl rfl
    (fun _ _ _ _ _ _ _ us hl => match us, hl with | [_, _], _ => rfl) (fun _ _ _ _ _ _ _ _ _ => rfl) hfile rfl htop hms (by decide) (by decide) (fun _ _ _ _ => rfl)
  have E_PathClash : ∀ base : Heap, ExcW P w K mg base (He.ga K "PathClash") "given" "given" := fun base => excW_of (d := dx_PathClash) (file := "/claim/cut.py") PySem.F.excBase_RuntimeError PySem.W.kxs_RuntimeError PySem.F.store_RuntimeError (c.own 63 (f := excB1 "RuntimeError" "RuntimeError.__init__" "RuntimeError.__new__" [.type "RuntimeError", .type "Exception", .type "BaseException", .type "object"] "PathClash" "given") rfl) (c.own 64 (f := excB2 "/claim/cut.py" "PathClash.__init__" "PathClash") rfl) (c.exc 29 (d := dx_PathClash) rfl) rfl (NdefX.nscope_by (by decide +kernel)) rfl rfl
    (fun _ _ _ _ _ _ _ us hl => match us, hl with | [_, _], _ => rfl) (fun _ _ _ _ _ _ _ _ _ => rfl) hfile rfl htop hms (by decide) (by decide) (fun _ _ _ _ => rfl)
  have E_Pending : ∀ base : Heap, ExcW P w K mg base (He.ga K "Pending") "begun" "begun" := fun base => excW_of (d := dx_Pending) (file := "/claim/cut.py") PySem.F.excBase_RuntimeError PySem.W.kxs_RuntimeError PySem.F.store_RuntimeError (c.own 65 (f := excB1 "RuntimeError" "RuntimeError.__init__" "RuntimeError.__new__" [.type "RuntimeError", .type "Exception", .type "BaseException", .type "object"] "Pending" "begun") rfl) (c.own 66 (f := excB2 "/claim/cut.py" "Pending.__init__" "Pending") rfl) (c.exc 30 (d := dx_Pending) rfl) rfl (NdefX.nscope_by (by decide +kernel)) rfl rfl
    (fun _ _ _ _ _ _ _ us hl => match us, hl with | [_, _], _ => rfl) (fun _ _ _ _ _ _ _ _ _ => rfl) hfile rfl htop hms (by decide) (by decide) (fun _ _ _ _ => rfl)
  have E_PowerCut : ∀ base : Heap, ExcW P w K mg base (He.ga K "PowerCut") "done" "done" := fun base => excW_of (d := dx_PowerCut) (file := "/claim/cut.py") PySem.F.excBase_RuntimeError PySem.W.kxs_RuntimeError PySem.F.store_RuntimeError (c.own 67 (f := excB1 "RuntimeError" "RuntimeError.__init__" "RuntimeError.__new__" [.type "RuntimeError", .type "Exception", .type "BaseException", .type "object"] "PowerCut" "done") rfl) (c.own 68 (f := excB2 "/claim/cut.py" "PowerCut.__init__" "PowerCut") rfl) (c.exc 31 (d := dx_PowerCut) rfl) rfl (NdefX.nscope_by (by decide +kernel)) rfl rfl
    (fun _ _ _ _ _ _ _ us hl => match us, hl with | [_, _], _ => rfl) (fun _ _ _ _ _ _ _ _ _ => rfl) hfile rfl htop hms (by decide) (by decide) (fun _ _ _ _ => rfl)
  have E_Taken : ∀ base : Heap, ExcW P w K mg base (He.ga K "Taken") "given" "given" := fun base => excW_of (d := dx_Taken) (file := "/claim/cut.py") PySem.F.excBase_RuntimeError PySem.W.kxs_RuntimeError PySem.F.store_RuntimeError (c.own 69 (f := excB1 "RuntimeError" "RuntimeError.__init__" "RuntimeError.__new__" [.type "RuntimeError", .type "Exception", .type "BaseException", .type "object"] "Taken" "given") rfl) (c.own 70 (f := excB2 "/claim/cut.py" "Taken.__init__" "Taken") rfl) (c.exc 32 (d := dx_Taken) rfl) rfl (NdefX.nscope_by (by decide +kernel)) rfl rfl
    (fun _ _ _ _ _ _ _ us hl => match us, hl with | [_, _], _ => rfl) (fun _ _ _ _ _ _ _ _ _ => rfl) hfile rfl htop hms (by decide) (by decide) (fun _ _ _ _ => rfl)
  have E_TooWide : ∀ base : Heap, ExcW P w K mg base (He.ga K "TooWide") "most" "most" := fun base => excW_of (d := dx_TooWide) (file := "/claim/cut.py") PySem.F.excBase_RuntimeError PySem.W.kxs_RuntimeError PySem.F.store_RuntimeError (c.own 71 (f := excB1 "RuntimeError" "RuntimeError.__init__" "RuntimeError.__new__" [.type "RuntimeError", .type "Exception", .type "BaseException", .type "object"] "TooWide" "most") rfl) (c.own 72 (f := excB2 "/claim/cut.py" "TooWide.__init__" "TooWide") rfl) (c.exc 33 (d := dx_TooWide) rfl) rfl (NdefX.nscope_by (by decide +kernel)) rfl rfl
    (fun _ _ _ _ _ _ _ us hl => match us, hl with | [_, _], _ => rfl) (fun _ _ _ _ _ _ _ _ _ => rfl) hfile rfl htop hms (by decide) (by decide) (fun _ _ _ _ => rfl)
  have E_WrongSum : ∀ base : Heap, ExcW P w K mg base (He.ga K "WrongSum") "given" "given" := fun base => excW_of (d := dx_WrongSum) (file := "/claim/cut.py") PySem.F.excBase_RuntimeError PySem.W.kxs_RuntimeError PySem.F.store_RuntimeError (c.own 73 (f := excB1 "RuntimeError" "RuntimeError.__init__" "RuntimeError.__new__" [.type "RuntimeError", .type "Exception", .type "BaseException", .type "object"] "WrongSum" "given") rfl) (c.own 74 (f := excB2 "/claim/cut.py" "WrongSum.__init__" "WrongSum") rfl) (c.exc 34 (d := dx_WrongSum) rfl) rfl (NdefX.nscope_by (by decide +kernel)) rfl rfl
    (fun _ _ _ _ _ _ _ us hl => match us, hl with | [_, _], _ => rfl) (fun _ _ _ _ _ _ _ _ _ => rfl) hfile rfl htop hms (by decide) (by decide) (fun _ _ _ _ => rfl)
  obtain ⟨f', fd, hm, F⟩ := id D_law
  have e := hfa.symm.trans hm
  cases e
  have b := FunD.bindsA (ps := ["_law_script"]) F fun _ _ _ _ _ _ us hl => match us, hl with | [_], _ => rfl
  refine ⟨fd, fun s v => b s [v] rfl, fun base _ _ => ?_⟩
  have EW_BadBase := E_BadBase base
  have E_BadBase := EW_BadBase.m
  have EW_BadCount := E_BadCount base
  have E_BadCount := EW_BadCount.m
  have EW_BadEnvironment := E_BadEnvironment base
  have E_BadEnvironment := EW_BadEnvironment.m
  have EW_BadEvent := E_BadEvent base
  have E_BadEvent := EW_BadEvent.m
  have EW_BadLock := E_BadLock base
  have E_BadLock := EW_BadLock.m
  have EW_BadMarker := E_BadMarker base
  have E_BadMarker := EW_BadMarker.m
  have EW_BadName := E_BadName base
  have E_BadName := EW_BadName.m
  have EW_BadParcel := E_BadParcel base
  have E_BadParcel := EW_BadParcel.m
  have EW_BadPath := E_BadPath base
  have E_BadPath := EW_BadPath.m
  have EW_BadRange := E_BadRange base
  have E_BadRange := EW_BadRange.m
  have EW_BadRequirement := E_BadRequirement base
  have E_BadRequirement := EW_BadRequirement.m
  have EW_BadStep := E_BadStep base
  have E_BadStep := EW_BadStep.m
  have EW_BadText := E_BadText base
  have E_BadText := EW_BadText.m
  have EW_BadVersion := E_BadVersion base
  have E_BadVersion := EW_BadVersion.m
  have EW_BadWay := E_BadWay base
  have E_BadWay := EW_BadWay.m
  have EW_Damaged := E_Damaged base
  have E_Damaged := EW_Damaged.m
  have EW_Foreign := E_Foreign base
  have E_Foreign := EW_Foreign.m
  have EW_NoChoice := E_NoChoice base
  have E_NoChoice := EW_NoChoice.m
  have EW_NoMark := E_NoMark base
  have E_NoMark := EW_NoMark.m
  have EW_NoName := E_NoName base
  have E_NoName := EW_NoName.m
  have EW_NoParcel := E_NoParcel base
  have E_NoParcel := EW_NoParcel.m
  have EW_NoPast := E_NoPast base
  have E_NoPast := EW_NoPast.m
  have EW_NoPath := E_NoPath base
  have E_NoPath := EW_NoPath.m
  have EW_NoRelease := E_NoRelease base
  have E_NoRelease := EW_NoRelease.m
  have EW_NoRepair := E_NoRepair base
  have E_NoRepair := EW_NoRepair.m
  have EW_NoRequest := E_NoRequest base
  have E_NoRequest := EW_NoRequest.m
  have EW_NoRoom := E_NoRoom base
  have E_NoRoom := EW_NoRoom.m
  have EW_NoSection := E_NoSection base
  have E_NoSection := EW_NoSection.m
  have EW_NotClosed := E_NotClosed base
  have E_NotClosed := EW_NotClosed.m
  have EW_PathClash := E_PathClash base
  have E_PathClash := EW_PathClash.m
  have EW_Pending := E_Pending base
  have E_Pending := EW_Pending.m
  have EW_PowerCut := E_PowerCut base
  have E_PowerCut := EW_PowerCut.m
  have EW_Taken := E_Taken base
  have E_Taken := EW_Taken.m
  have EW_TooWide := E_TooWide base
  have E_TooWide := EW_TooWide.m
  have EW_WrongSum := E_WrongSum base
  have E_WrongSum := EW_WrongSum.m
  have H__law_begin := ok__law_begin (P := P) (w := w) (mg := mg) (base := base) D__law_begin 
  have H__law_kinds := ok__law_kinds (P := P) (w := w) (mg := mg) (base := base) D__law_kinds z_isinstance g_BadEnvironment g_BadRange g_BadVersion g_BadName g_BadRequirement g_BadMarker g_BadEvent g_BadCount g_BadText g_BadPath g_BadLock g_BadParcel g_BadStep g_BadWay g_PathClash g_TooWide g_NoChoice g_BadBase g_Pending g_Damaged g_NoRoom g_Foreign g_NoRepair g_NotClosed g_WrongSum g_PowerCut g_NoParcel g_NoRelease g_NoName g_Taken g_NoMark g_NoPast g_NoPath g_NoRequest g_NoSection
  have H__law_families_right := ok__law_families_right (P := P) (w := w) (mg := mg) (base := base) D__law_families_right z_enumerate H__law_kinds z_isinstance g_AbsentError g_ChoiceError g_ParcelError z_LookupError z_RuntimeError z_ValueError z_range z_NotImplementedError z_IndexError z_KeyError
  have H__law_fields := ok__law_fields (P := P) (w := w) (mg := mg) (base := base) D__law_fields 
  have H__law_made := ok__law_made (P := P) (w := w) (mg := mg) (base := base) D__law_made EW_BadRequirement g_BadRequirement EW_BadMarker g_BadMarker EW_BadEnvironment g_BadEnvironment EW_BadRange g_BadRange EW_BadVersion g_BadVersion EW_BadWay g_BadWay EW_BadEvent g_BadEvent EW_BadCount g_BadCount EW_BadText g_BadText EW_BadPath g_BadPath EW_BadName g_BadName EW_BadBase g_BadBase EW_BadLock g_BadLock EW_BadParcel g_BadParcel EW_BadStep g_BadStep EW_Damaged g_Damaged EW_NoRoom g_NoRoom EW_Foreign g_Foreign EW_PathClash g_PathClash EW_TooWide g_TooWide EW_NoChoice g_NoChoice EW_Taken g_Taken EW_NoRepair g_NoRepair EW_NotClosed g_NotClosed EW_WrongSum g_WrongSum EW_PowerCut g_PowerCut EW_Pending g_Pending EW_NoPast g_NoPast EW_NoPath g_NoPath EW_NoRequest g_NoRequest EW_NoParcel g_NoParcel EW_NoRelease g_NoRelease EW_NoName g_NoName EW_NoSection g_NoSection EW_NoMark g_NoMark
  have H__law_named := ok__law_named (P := P) (w := w) (mg := mg) (base := base) D__law_named EW_BadEnvironment g_BadEnvironment EW_BadRange g_BadRange EW_BadVersion g_BadVersion EW_BadName g_BadName EW_BadRequirement g_BadRequirement EW_BadMarker g_BadMarker EW_BadCount g_BadCount EW_BadText g_BadText EW_BadPath g_BadPath EW_BadStep g_BadStep EW_BadWay g_BadWay EW_BadEvent g_BadEvent EW_BadBase g_BadBase EW_BadLock g_BadLock EW_BadParcel g_BadParcel EW_PathClash g_PathClash EW_TooWide g_TooWide EW_NoChoice g_NoChoice EW_Damaged g_Damaged EW_NoRoom g_NoRoom EW_Foreign g_Foreign EW_WrongSum g_WrongSum EW_PowerCut g_PowerCut EW_Pending g_Pending EW_Taken g_Taken EW_NoRepair g_NoRepair EW_NotClosed g_NotClosed EW_NoParcel g_NoParcel EW_NoRelease g_NoRelease EW_NoName g_NoName EW_NoPast g_NoPast EW_NoPath g_NoPath EW_NoRequest g_NoRequest EW_NoSection g_NoSection EW_NoMark g_NoMark
  have H__law_mixed := ok__law_mixed (P := P) (w := w) (mg := mg) (base := base) D__law_mixed 
  have H__law_next := ok__law_next (P := P) (w := w) (mg := mg) (base := base) D__law_next z_len H__law_mixed
  have H_law := ok_law (P := P) (w := w) (mg := mg) (base := base) D_law H__law_begin z_range z_min z_len H__law_next H__law_families_right H__law_made z_repr H__law_named H__law_fields
  obtain ⟨f2, fd2, m2, F2, _, ok⟩ := H_law.ex
  have e2 := hm.symm.trans m2
  cases e2
  cases funD_uniq F F2
  exact ok
end PK
theorem PySem.Challenge.cw_parcelindex_k01_error_classes_holds : PySem.Challenge.rw_parcelindex_k01_error_classes.Holds :=
  PK.early fun w mg fa h K KX c G hmg => by
    obtain ⟨fd, hb, hF⟩ := PK.facts (P := (PySem.Challenge.rw_parcelindex_k01_error_classes).prog) (w := w) KX G hmg c PK.early1 PK.early2
    exact ⟨fd, hb, (PK.S_law K), PK.law_end, hF⟩

