import PyProof.Rows.All
import Wide.All
import OpenK.AllK
import Wide.FinOn
import HandS.ForMost
import HandS.WordsExc
import HandS.TryOnly
import HandS.IsInst
import HandS.StrMore
import HandS.Style
import HandS.Zip
import HandS.CallSlots
import HandS.Rev
import HandS.MapJoin
import HandS.Replace
import PyProof.JoinWalk
import HandS.Head0
import HandS.Head1
import HandS.Head2
import HandS.HeadEnd
import HandS.HeadHook1
import HandS.HeadHook2
import HandS.HeadNt
import HandS.EndBits
import HandS.Defaults
import HandS.Small
import PyProof.Rows.SetFrom
import HandS.ExcOwn
import HandS.ExcInit
import KE.KExcIs
import HandS.ExcField
import KE.KEqNest
import HandS.DeepEq
import HandS.DictComp
import HandS.SortInts
import PySem.Challenge.RW_larderwise_k23_diners_by_deeds
set_option Elab.async false
set_option linter.all false
set_option maxRecDepth 100000
set_option maxHeartbeats 4000000
namespace OB
open PySem L2

inductive Fl where
  | own | frz | bor | tmp
  deriving DecidableEq
inductive Kd where
  | tup | lst (f : Fl) | dct (f : Fl) (ks : List Key) | obj (f : Fl) (c : Str) (fs : List Str) | exc (f : Fl) (c : Str) (fs : List Str) | adr (f : Fl) (b : Addr)
  deriving DecidableEq
inductive D where
  | non | bl (b : Bool) | int (i : Int) | str (s : Str) | nd (k : Kd) (ds : List D)

@[reducible] def D.tup (ds : List D) : D := .nd .tup ds
@[reducible] def D.lst (f : Fl) (ds : List D) : D := .nd (.lst f) ds

/-- an exception: its class, its one field -/
structure XD where
  cls : Str
  fld : Option (Str × D)
inductive Ot (α : Type) where
  | no | ok (a : α) | ex (x : XD)
namespace Ot
def bind {α β : Type} (o : Ot α) (f : α → Ot β) : Ot β := match o with
  | .no => .no
  | .ok a => f a
  | .ex x => .ex x
@[simp] theorem bind_ok {α β : Type} (a : α) (f : α → Ot β) : (Ot.ok a).bind f = f a := rfl
@[simp] theorem bind_no {α β : Type} (f : α → Ot β) : (Ot.no : Ot α).bind f = .no := rfl
@[simp] theorem bind_ex {α β : Type} (x : XD) (f : α → Ot β) : (Ot.ex x : Ot α).bind f = .ex x := rfl
def of {α : Type} (o : Option α) : Ot α := match o with
  | some a => .ok a
  | none => .no
@[simp] theorem of_some {α : Type} (a : α) : Ot.of (some a) = .ok a := rfl
@[simp] theorem of_none {α : Type} : (Ot.of (none : Option α)) = .no := rfl
end Ot

structure Zn where
  f : Addr → Prop
  b : Addr → Prop
  t : Addr → Prop
def Zn.ok (Z : Zn) (a : Addr) : Fl → Prop
  | .own => True
  | .frz => Z.f a
  | .bor => Z.b a
  | .tmp => Z.t a
abbrev Cm := Str → Addr

/-- a caught exception, as a value -/
def ExcHO (C : Addr) (dx : Option Addr) (a : Addr) : HO := .ext fun h => ∃ (oe : Obj) (vs : Array Value), h.get? a = some oe ∧ Zc (.ref C) dx oe ∧ oe.data = .fields vs
def ExcAt (H : Hp) (a C : Addr) (l : List (Str × V)) : Prop := ∃ dx, H a = some (ExcHO C dx a) ∧ match dx with
  | none => l = []
  | some d => H d = some (.xd l)
def Cell (K : PySem.W.Frag) (cm : Cm) (H : Hp) (Z : Zn) (a : Addr) : Kd → List V → Prop
  | .tup, vs => SqT K H a vs
  | .lst f, vs => (f = .own → H a = some (.lst vs)) ∧ Rd H a (.lst vs) ∧ Z.ok a f
  | .dct f ks, vs => (f = .own → H a = some (.dK (ks.zip vs))) ∧ Rd H a (.dK (ks.zip vs)) ∧ ks.length = vs.length ∧ Z.ok a f
  | .obj f c fs, vs => (∃ dx, H a = some (.ins (cm c) dx (fs.zip vs))) ∧ fs.length = vs.length ∧ Z.ok a f
  | .exc f c fs, vs => ExcAt H a (cm c) (fs.zip vs) ∧ fs.length = vs.length ∧ Z.ok a f
  | .adr f b, vs => f ≠ .own ∧ a = b ∧ vs = [] ∧ (∃ us, Rd H a (.lst us)) ∧ Z.ok a f
def Kd.fl : Kd → Option Fl
  | .tup => none
  | .lst f => some f
  | .dct f _ => some f
  | .obj f _ _ => some f
  | .exc f _ _ => some f
  | .adr f _ => some f
def Kd.isOwn (k : Kd) : Bool := k.fl == some .own
def ownA (k : Kd) (a : Addr) : List Addr := if k.isOwn then [a] else []

mutual
def Rep (K : PySem.W.Frag) (cm : Cm) (H : Hp) (Z : Zn) : D → V → List Addr → Prop
  | .non, v, F => v = .non ∧ F = []
  | .bl b, v, F => v = .bl b ∧ F = []
  | .int i, v, F => v = .int i ∧ F = []
  | .str s, v, F => v = .str s ∧ F = []
  | .nd k ds, v, F => ∃ a vs Fs, v = .ref a ∧ Cell K cm H Z a k vs ∧ RepL K cm H Z ds vs Fs ∧ F = ownA k a ++ Fs.flatten
def RepL (K : PySem.W.Frag) (cm : Cm) (H : Hp) (Z : Zn) : List D → List V → List (List Addr) → Prop
  | [], vs, Fs => vs = [] ∧ Fs = []
  | d :: ds, vs, Fs => ∃ v vs' F Fs', vs = v :: vs' ∧ Fs = F :: Fs' ∧ Rep K cm H Z d v F ∧ RepL K cm H Z ds vs' Fs'
end

/-! ### flags changed -/
def Kd.mapF (g : Fl → Fl) : Kd → Kd
  | .tup => .tup
  | .lst f => .lst (g f)
  | .dct f ks => .dct (g f) ks
  | .obj f c fs => .obj (g f) c fs
  | .exc f c fs => .exc (g f) c fs
  | .adr f b => .adr (g f) b
mutual
def mapF (g : Fl → Fl) : D → D
  | .non => .non
  | .bl b => .bl b
  | .int i => .int i
  | .str s => .str s
  | .nd k ds => .nd (k.mapF g) (mapFL g ds)
def mapFL (g : Fl → Fl) : List D → List D
  | [] => []
  | d :: ds => mapF g d :: mapFL g ds
end
theorem mapFL_eq (g : Fl → Fl) : ∀ ds, mapFL g ds = ds.map (mapF g)
  | [] => rfl
  | d :: ds => by rw [mapFL, mapFL_eq g ds]; rfl
mutual
/-- all flags have the property -/
def allF (p : Fl → Bool) : D → Bool
  | .non => true
  | .bl _ => true
  | .int _ => true
  | .str _ => true
  | .nd k ds => (match k.fl with | some f => p f | none => true) && allFL p ds
def allFL (p : Fl → Bool) : List D → Bool
  | [] => true
  | d :: ds => allF p d && allFL p ds
end
theorem allFL_eq (p : Fl → Bool) : ∀ ds, allFL p ds = ds.all (allF p)
  | [] => rfl
  | d :: ds => by rw [allFL, allFL_eq p ds]; rfl

mutual
theorem allF_mapF {p q : Fl → Bool} {g : Fl → Fl} (h : ∀ f, p f = true → q (g f) = true) : ∀ d : D, allF p d = true → allF q (mapF g d) = true
  | .non, _ => rfl
  | .bl _, _ => rfl
  | .int _, _ => rfl
  | .str _, _ => rfl
  | .nd k ds, e => by
    unfold allF at e
    rw [Bool.and_eq_true] at e
    unfold mapF allF
    rw [Bool.and_eq_true]
    refine ⟨?_, allFL_mapF h ds e.2⟩
    cases k with
    | tup => rfl
    | lst f => exact h f e.1
    | dct f ks => exact h f e.1
    | obj f c fs => exact h f e.1
    | exc f c fs => exact h f e.1
    | adr f b => exact h f e.1
theorem allFL_mapF {p q : Fl → Bool} {g : Fl → Fl} (h : ∀ f, p f = true → q (g f) = true) : ∀ ds : List D, allFL p ds = true → allFL q (mapFL g ds) = true
  | [], _ => rfl
  | d :: ds, e => by
    unfold allFL at e
    rw [Bool.and_eq_true] at e
    unfold mapFL allFL
    rw [Bool.and_eq_true]
    exact ⟨allF_mapF h d e.1, allFL_mapF h ds e.2⟩
end

/-! ### the relation, forms -/
section
variable {K : PySem.W.Frag} {cm : Cm} {H H' : Hp} {Z Z' : Zn}
theorem RepL.len : ∀ {ds : List D} {vs : List V} {Fs : List (List Addr)}, RepL K cm H Z ds vs Fs → vs.length = ds.length ∧ Fs.length = ds.length
  | [], _, _, h => by obtain ⟨rfl, rfl⟩ := h; exact ⟨rfl, rfl⟩
  | _ :: ds, _, _, h => by
    obtain ⟨v, vs', F, Fs', rfl, rfl, _, h2⟩ := h
    obtain ⟨a, b⟩ := RepL.len h2
    exact ⟨by simp [a], by simp [b]⟩
theorem repL_nil : RepL K cm H Z [] [] [] := ⟨rfl, rfl⟩
theorem repL_cons {d : D} {ds : List D} {v : V} {vs : List V} {F : List Addr} {Fs : List (List Addr)} (h : Rep K cm H Z d v F) (hs : RepL K cm H Z ds vs Fs) : RepL K cm H Z (d :: ds) (v :: vs) (F :: Fs) :=
  ⟨v, vs, F, Fs, rfl, rfl, h, hs⟩
theorem RepL.get : ∀ {ds : List D} {vs : List V} {Fs : List (List Addr)} {i : Nat} {d : D}, RepL K cm H Z ds vs Fs → ds[i]? = some d → ∃ v F, vs[i]? = some v ∧ Fs[i]? = some F ∧ Rep K cm H Z d v F
  | [], _, _, i, d, _, e => by simp at e
  | d0 :: ds, _, _, 0, d, h, e => by
    obtain ⟨v, vs', F, Fs', rfl, rfl, h1, h2⟩ := h
    simp at e; subst e
    exact ⟨v, F, rfl, rfl, h1⟩
  | d0 :: ds, _, _, i + 1, d, h, e => by
    obtain ⟨v, vs', F, Fs', rfl, rfl, h1, h2⟩ := h
    obtain ⟨v1, F1, a, b, c⟩ := RepL.get (i := i) (d := d) h2 (by simpa using e)
    exact ⟨v1, F1, by simpa using a, by simpa using b, c⟩
theorem RepL.app : ∀ {ds es : List D} {vs us : List V} {Fs Gs : List (List Addr)}, RepL K cm H Z ds vs Fs → RepL K cm H Z es us Gs → RepL K cm H Z (ds ++ es) (vs ++ us) (Fs ++ Gs)
  | [], _, _, _, _, _, h, g => by obtain ⟨rfl, rfl⟩ := h; exact g
  | d :: ds, _, _, _, _, _, h, g => by
    obtain ⟨v, vs', F, Fs', rfl, rfl, h1, h2⟩ := h
    exact repL_cons h1 (RepL.app h2 g)
theorem RepL.set : ∀ {ds : List D} {vs : List V} {Fs : List (List Addr)} (i : Nat) {d : D} {v : V} {F : List Addr}, RepL K cm H Z ds vs Fs → Rep K cm H Z d v F → RepL K cm H Z (ds.set i d) (vs.set i v) (Fs.set i F)
  | [], _, _, _, _, _, _, h, _ => by obtain ⟨rfl, rfl⟩ := h; exact repL_nil
  | d0 :: ds, _, _, 0, _, _, _, h, g => by
    obtain ⟨v, vs', F, Fs', rfl, rfl, h1, h2⟩ := h
    exact repL_cons g h2
  | d0 :: ds, _, _, i + 1, _, _, _, h, g => by
    obtain ⟨v, vs', F, Fs', rfl, rfl, h1, h2⟩ := h
    exact repL_cons h1 (RepL.set i h2 g)
theorem RepL.take : ∀ {ds : List D} {vs : List V} {Fs : List (List Addr)} (n : Nat), RepL K cm H Z ds vs Fs → RepL K cm H Z (ds.take n) (vs.take n) (Fs.take n)
  | [], _, _, _, h => by obtain ⟨rfl, rfl⟩ := h; simp [RepL]
  | d0 :: ds, _, _, 0, h => by simp [RepL]
  | d0 :: ds, _, _, n + 1, h => by
    obtain ⟨v, vs', F, Fs', rfl, rfl, h1, h2⟩ := h
    exact repL_cons h1 (RepL.take n h2)
theorem RepL.drop : ∀ {ds : List D} {vs : List V} {Fs : List (List Addr)} (n : Nat), RepL K cm H Z ds vs Fs → RepL K cm H Z (ds.drop n) (vs.drop n) (Fs.drop n)
  | [], _, _, _, h => by obtain ⟨rfl, rfl⟩ := h; simp [RepL]
  | d0 :: ds, _, _, 0, h => h
  | d0 :: ds, _, _, n + 1, h => by
    obtain ⟨v, vs', F, Fs', rfl, rfl, h1, h2⟩ := h
    exact RepL.drop n h2

/-! ### moves of the relation -/
/-- what has to hold of each cell -/
def CellMove (K : PySem.W.Frag) (cm : Cm) (H H' : Hp) (Z Z' : Zn) (g : Fl → Fl) (O : Addr → Prop) : Prop :=
  ∀ a k vs, Cell K cm H Z a k vs → (k.isOwn = true → O a) → Cell K cm H' Z' a (k.mapF g) vs
theorem isOwn_mapF {g : Fl → Fl} (hg : g .own = .own) (hg2 : ∀ f, g f = .own → f = .own) (k : Kd) : (k.mapF g).isOwn = k.isOwn := by
  have key : ∀ f : Fl, (some (g f) == some Fl.own) = (some f == some Fl.own) := fun f => by
    by_cases e : f = .own
    · rw [e, hg]
    · have e2 : g f ≠ .own := fun q => e (hg2 f q)
      have a : (some f == some Fl.own) = false := by simpa using e
      have b : (some (g f) == some Fl.own) = false := by simpa using e2
      rw [a, b]
  cases k with
  | tup => rfl
  | lst f => exact key f
  | dct f ks => exact key f
  | obj f c fs => exact key f
  | exc f c fs => exact key f
  | adr f b => exact key f
mutual
theorem Rep.move {g : Fl → Fl} {O : Addr → Prop} (m : CellMove K cm H H' Z Z' g O) (hg : g .own = .own) (hg2 : ∀ f, g f = .own → f = .own) : ∀ (d : D) {v : V} {F : List Addr}, Rep K cm H Z d v F → (∀ a ∈ F, O a) → Rep K cm H' Z' (mapF g d) v F
  | .non, _, _, h, _ => h
  | .bl _, _, _, h, _ => h
  | .int _, _, _, h, _ => h
  | .str _, _, _, h, _ => h
  | .nd k ds, v, F, h, o => by
    obtain ⟨a, vs, Fs, rfl, hc, hl, rfl⟩ := h
    have hk : (k.mapF g).isOwn = k.isOwn := isOwn_mapF hg hg2 k
    refine ⟨a, vs, Fs, rfl, m a k vs hc fun q => o a ?_, RepL.move m hg hg2 ds hl fun b hb => o b (List.mem_append_right _ hb), ?_⟩
    · unfold ownA; rw [q]; simp
    · unfold ownA; rw [hk]
theorem RepL.move {g : Fl → Fl} {O : Addr → Prop} (m : CellMove K cm H H' Z Z' g O) (hg : g .own = .own) (hg2 : ∀ f, g f = .own → f = .own) : ∀ (ds : List D) {vs : List V} {Fs : List (List Addr)}, RepL K cm H Z ds vs Fs → (∀ a ∈ Fs.flatten, O a) → RepL K cm H' Z' (mapFL g ds) vs Fs
  | [], _, _, h, _ => h
  | d :: ds, vs, Fs, h, o => by
    obtain ⟨v, vs', F, Fs', rfl, rfl, h1, h2⟩ := h
    exact ⟨v, vs', F, Fs', rfl, rfl, Rep.move m hg hg2 d h1 fun b hb => o b (by simp [hb]), RepL.move m hg hg2 ds h2 fun b hb => o b (by rw [List.flatten_cons]; exact List.mem_append_right _ hb)⟩
end
mutual
/-- nothing owned any more -/
theorem Rep.give {g : Fl → Fl} {O : Addr → Prop} (m : CellMove K cm H H' Z Z' g O) (hg : ∀ f, g f ≠ .own) : ∀ (d : D) {v : V} {F : List Addr}, Rep K cm H Z d v F → (∀ a ∈ F, O a) → Rep K cm H' Z' (mapF g d) v []
  | .non, _, _, h, _ => ⟨h.1, rfl⟩
  | .bl _, _, _, h, _ => ⟨h.1, rfl⟩
  | .int _, _, _, h, _ => ⟨h.1, rfl⟩
  | .str _, _, _, h, _ => ⟨h.1, rfl⟩
  | .nd k ds, v, F, h, o => by
    obtain ⟨a, vs, Fs, rfl, hc, hl, rfl⟩ := h
    have hk : (k.mapF g).isOwn = false := by
      cases k with
      | tup => rfl
      | lst f => simp [Kd.mapF, Kd.isOwn, Kd.fl, hg f]
      | dct f ks => simp [Kd.mapF, Kd.isOwn, Kd.fl, hg f]
      | obj f c fs => simp [Kd.mapF, Kd.isOwn, Kd.fl, hg f]
      | exc f c fs => simp [Kd.mapF, Kd.isOwn, Kd.fl, hg f]
      | adr f b => simp [Kd.mapF, Kd.isOwn, Kd.fl, hg f]
    obtain ⟨Gs, hG, hl'⟩ := RepL.give m hg ds hl fun b hb => o b (List.mem_append_right _ hb)
    refine ⟨a, vs, Gs, rfl, m a k vs hc fun q => o a ?_, hl', ?_⟩
    · unfold ownA; rw [q]; simp
    · unfold ownA; rw [hk, hG]; rfl
theorem RepL.give {g : Fl → Fl} {O : Addr → Prop} (m : CellMove K cm H H' Z Z' g O) (hg : ∀ f, g f ≠ .own) : ∀ (ds : List D) {vs : List V} {Fs : List (List Addr)}, RepL K cm H Z ds vs Fs → (∀ a ∈ Fs.flatten, O a) → ∃ Gs, Gs.flatten = [] ∧ RepL K cm H' Z' (mapFL g ds) vs Gs
  | [], _, _, h, _ => ⟨[], rfl, h.1, rfl⟩
  | d :: ds, vs, Fs, h, o => by
    obtain ⟨v, vs', F, Fs', rfl, rfl, h1, h2⟩ := h
    obtain ⟨Gs, hG, hl'⟩ := RepL.give m hg ds h2 fun b hb => o b (by rw [List.flatten_cons]; exact List.mem_append_right _ hb)
    exact ⟨[] :: Gs, by simpa using hG, repL_cons (Rep.give m hg d h1 fun b hb => o b (by simp [hb])) hl'⟩
end
theorem Kd.mapF_id : ∀ k : Kd, k.mapF id = k
  | .tup => rfl
  | .lst _ => rfl
  | .dct _ _ => rfl
  | .obj _ _ _ => rfl
  | .exc _ _ _ => rfl
  | .adr _ _ => rfl
mutual
theorem mapF_id : ∀ d : D, mapF id d = d
  | .non => rfl
  | .bl _ => rfl
  | .int _ => rfl
  | .str _ => rfl
  | .nd k ds => by rw [mapF, Kd.mapF_id, mapFL_id ds]
theorem mapFL_id : ∀ ds : List D, mapFL id ds = ds
  | [] => rfl
  | d :: ds => by rw [mapFL, mapF_id d, mapFL_id ds]
end
/-- the heap is kept at what d stands on -/
theorem Rep.stay {O : Addr → Prop} (m : CellMove K cm H H' Z Z' id O) {d : D} {v : V} {F : List Addr} (h : Rep K cm H Z d v F) (o : ∀ a ∈ F, O a) : Rep K cm H' Z' d v F := by
  have q := Rep.move m rfl (fun _ e => e) d h o
  rwa [mapF_id] at q
theorem RepL.stay {O : Addr → Prop} (m : CellMove K cm H H' Z Z' id O) {ds : List D} {vs : List V} {Fs : List (List Addr)} (h : RepL K cm H Z ds vs Fs) (o : ∀ a ∈ Fs.flatten, O a) : RepL K cm H' Z' ds vs Fs := by
  have q := RepL.move m rfl (fun _ e => e) ds h o
  rwa [mapFL_id] at q
end

/-! ### the heap only grows -/
def Grow (H H' : Hp) : Prop := ∀ a o, H a = some o → H' a = some o
theorem Grow.refl (H : Hp) : Grow H H := fun _ _ h => h
theorem Grow.trans {H H1 H2 : Hp} (a : Grow H H1) (b : Grow H1 H2) : Grow H H2 := fun x o h => b x o (a x o h)
theorem Grow.new {H : Hp} {p : Addr} {o : HO} (h : H p = none) : Grow H (upd H p o) := fun a u e => by
  rw [upd_ne (ne_of_none e h)]
  exact e
theorem Grow.back {H H' : Hp} {a : Addr} (g : Grow H H') (h : H' a = none) : H a = none := by
  cases e : H a with
  | none => rfl
  | some o => rw [g a o e] at h; cases h
theorem Grow.rd {H H' : Hp} {a : Addr} {u : HO} (g : Grow H H') (h : Rd H a u) : Rd H' a u := by
  rcases h with h | ⟨o, h⟩
  · exact .inl (g _ _ h)
  · exact .inr ⟨o, g _ _ h⟩
theorem Grow.sqL {K : PySem.W.Frag} {H H' : Hp} {a : Addr} {vs : List V} (g : Grow H H') (h : SqL K H a vs) : SqL K H' a vs := by
  rcases h with h | h
  · rcases h with h | ⟨o, h⟩
    · exact .inl (.inl (g _ _ h))
    · exact .inl (.inr ⟨o, g _ _ h⟩)
  · exact .inr h
theorem Grow.sqT {K : PySem.W.Frag} {H H' : Hp} {a : Addr} {vs : List V} (g : Grow H H') (h : SqT K H a vs) : SqT K H' a vs := by
  rcases h with h | h
  · rcases h with h | ⟨o, h⟩
    · exact .inl (.inl (g _ _ h))
    · exact .inl (.inr ⟨o, g _ _ h⟩)
  · exact .inr h
/-- growth, the flags' sets grow -/
structure Ext (H : Hp) (Z : Zn) (H' : Hp) (Z' : Zn) : Prop where
  gr : Grow H H'
  f : ∀ a, Z.f a → Z'.f a
  fn : ∀ a, Z'.f a → Z.f a ∨ H a = none
  fd : ∀ a, Z'.f a → H' a ≠ none
  b : Z'.b = Z.b
  t : Z'.t = Z.t
structure Dom (H : Hp) (Z : Zn) : Prop where
  f : ∀ a, Z.f a → H a ≠ none
  b : ∀ a, Z.b a → H a ≠ none
  t : ∀ a, Z.t a → H a ≠ none
theorem Dom.ext {H H' : Hp} {Z Z' : Zn} (d : Dom H Z) (e : Ext H Z H' Z') : Dom H' Z' := ⟨e.fd, fun a h => by
  rw [e.b] at h
  intro q
  exact d.b a h (e.gr.back q), fun a h => by
  rw [e.t] at h
  intro q
  exact d.t a h (e.gr.back q)⟩
theorem Ext.refl {H : Hp} {Z : Zn} (d : Dom H Z) : Ext H Z H Z := ⟨.refl H, fun _ h => h, fun _ h => .inl h, d.f, rfl, rfl⟩
theorem Ext.trans {H H1 H2 : Hp} {Z Z1 Z2 : Zn} (a : Ext H Z H1 Z1) (b : Ext H1 Z1 H2 Z2) : Ext H Z H2 Z2 :=
  ⟨a.gr.trans b.gr, fun x h => b.f x (a.f x h), fun x h => (b.fn x h).elim (fun q => a.fn x q) fun q => .inr (a.gr.back q), b.fd, b.b.trans a.b, b.t.trans a.t⟩
theorem Ext.grow {H H' : Hp} {Z : Zn} (d : Dom H Z) (g : Grow H H') : Ext H Z H' Z := ⟨g, fun _ h => h, fun _ h => .inl h, fun a h q => d.f a h (g.back q), rfl, rfl⟩
section
variable {K : PySem.W.Frag} {cm : Cm} {H H' : Hp} {Z Z' : Zn}
theorem Zn.ok_mono {a : Addr} (f : ∀ a, Z.f a → Z'.f a) (b : ∀ a, Z.b a → Z'.b a) (t : ∀ a, Z.t a → Z'.t a) : ∀ {x : Fl}, Z.ok a x → Z'.ok a x
  | .own, h => h
  | .frz, h => f a h
  | .bor, h => b a h
  | .tmp, h => t a h
theorem cell_grow (g : Grow H H') (f : ∀ a, Z.f a → Z'.f a) (b : ∀ a, Z.b a → Z'.b a) (t : ∀ a, Z.t a → Z'.t a) : CellMove K cm H H' Z Z' id (fun _ => True) := fun a k vs h _ => by
  cases k with
  | tup => exact g.sqT h
  | lst fl => exact ⟨fun e => g _ _ (h.1 e), g.rd h.2.1, Zn.ok_mono f b t h.2.2⟩
  | dct fl ks => exact ⟨fun e => g _ _ (h.1 e), g.rd h.2.1, h.2.2.1, Zn.ok_mono f b t h.2.2.2⟩
  | obj fl c fs =>
    obtain ⟨⟨dx, e⟩, l, o⟩ := h
    exact ⟨⟨dx, g _ _ e⟩, l, Zn.ok_mono f b t o⟩
  | adr fl b' =>
    obtain ⟨h1, h2, h3, ⟨us, h4⟩, h5⟩ := h
    exact ⟨h1, h2, h3, ⟨us, g.rd h4⟩, Zn.ok_mono f b t h5⟩
  | exc fl c fs =>
    obtain ⟨⟨dx, e, q⟩, l, o⟩ := h
    refine ⟨⟨dx, g _ _ e, ?_⟩, l, Zn.ok_mono f b t o⟩
    cases dx with
    | none => exact q
    | some d => exact g _ _ q
theorem Rep.grow {d : D} {v : V} {F : List Addr} (h : Rep K cm H Z d v F) (g : Grow H H') (f : ∀ a, Z.f a → Z'.f a) (b : ∀ a, Z.b a → Z'.b a) (t : ∀ a, Z.t a → Z'.t a) : Rep K cm H' Z' d v F :=
  h.stay (cell_grow g f b t) fun _ _ => trivial
theorem RepL.grow {ds : List D} {vs : List V} {Fs : List (List Addr)} (h : RepL K cm H Z ds vs Fs) (g : Grow H H') (f : ∀ a, Z.f a → Z'.f a) (b : ∀ a, Z.b a → Z'.b a) (t : ∀ a, Z.t a → Z'.t a) : RepL K cm H' Z' ds vs Fs :=
  h.stay (cell_grow g f b t) fun _ _ => trivial
theorem Rep.ext {d : D} {v : V} {F : List Addr} (h : Rep K cm H Z d v F) (e : Ext H Z H' Z') : Rep K cm H' Z' d v F :=
  h.grow e.gr e.f (fun a q => by rw [e.b]; exact q) (fun a q => by rw [e.t]; exact q)
theorem RepL.ext {ds : List D} {vs : List V} {Fs : List (List Addr)} (h : RepL K cm H Z ds vs Fs) (e : Ext H Z H' Z') : RepL K cm H' Z' ds vs Fs :=
  h.grow e.gr e.f (fun a q => by rw [e.b]; exact q) (fun a q => by rw [e.t]; exact q)
/-- flags changed, the heap as it is -/
theorem cell_flag {g : Fl → Fl} {O : Addr → Prop} (hl : ∀ a, O a → ∀ f, f = .own → g f ≠ .own → Z'.ok a (g f)) (ho : ∀ a f, f ≠ .own → Z.ok a f → Z'.ok a (g f)) (hw : ∀ f, g f = .own → f = .own) : CellMove K cm H H Z Z' g O := fun a k vs h o => by
  have key : ∀ f : Fl, (f = .own → O a) → Z.ok a f → Z'.ok a (g f) := fun f of ok => by
    by_cases e : f = .own
    · by_cases e2 : g f = .own
      · rw [e2]; trivial
      · exact hl a (of e) f e e2
    · exact ho a f e ok
  cases k with
  | tup => exact h
  | lst fl => exact ⟨fun e => h.1 (hw _ e), h.2.1, key fl (fun e => o (by rw [e]; rfl)) h.2.2⟩
  | dct fl ks => exact ⟨fun e => h.1 (hw _ e), h.2.1, h.2.2.1, key fl (fun e => o (by rw [e]; rfl)) h.2.2.2⟩
  | obj fl c fs => exact ⟨h.1, h.2.1, key fl (fun e => o (by rw [e]; rfl)) h.2.2⟩
  | exc fl c fs => exact ⟨h.1, h.2.1, key fl (fun e => o (by rw [e]; rfl)) h.2.2⟩
  | adr fl b => exact ⟨fun z => h.1 (hw _ z), h.2.1, h.2.2.1, h.2.2.2.1, key fl (fun e => o (by rw [e]; rfl)) h.2.2.2.2⟩
end

/-! ### owned things stand, and may be written -/
section
variable {K : PySem.W.Frag} {cm : Cm} {H H' : Hp} {Z Z' : Zn}
mutual
theorem Rep.mut : ∀ (d : D) {v : V} {F : List Addr}, Rep K cm H Z d v F → ∀ a ∈ F, Mut (H a)
  | .non, _, _, h, a, q => by rw [h.2] at q; cases q
  | .bl _, _, _, h, a, q => by rw [h.2] at q; cases q
  | .int _, _, _, h, a, q => by rw [h.2] at q; cases q
  | .str _, _, _, h, a, q => by rw [h.2] at q; cases q
  | .nd k ds, v, F, h, a, q => by
    obtain ⟨p, vs, Fs, rfl, hc, hl, rfl⟩ := h
    rcases List.mem_append.mp q with q | q
    · unfold ownA at q
      cases k with
      | tup => cases q
      | lst f =>
        cases f with
        | own =>
          have e : a = p := by simpa [Kd.isOwn, Kd.fl] using q
          subst e
          rw [hc.1 rfl]; trivial
        | _ => cases q
      | dct f ks =>
        cases f with
        | own =>
          have e : a = p := by simpa [Kd.isOwn, Kd.fl] using q
          subst e
          rw [hc.1 rfl]; trivial
        | _ => cases q
      | obj f c fs =>
        cases f with
        | own =>
          have e : a = p := by simpa [Kd.isOwn, Kd.fl] using q
          subst e
          obtain ⟨dx, e⟩ := hc.1
          rw [e]; trivial
        | _ => cases q
      | adr f b =>
        cases f with
        | own => exact absurd rfl hc.1
        | _ => cases q
      | exc f c fs =>
        cases f with
        | own =>
          have e : a = p := by simpa [Kd.isOwn, Kd.fl] using q
          subst e
          obtain ⟨dx, e, _⟩ := hc.1
          rw [e]; trivial
        | _ => cases q
    · exact RepL.mut ds hl a q
theorem RepL.mut : ∀ (ds : List D) {vs : List V} {Fs : List (List Addr)}, RepL K cm H Z ds vs Fs → ∀ a ∈ Fs.flatten, Mut (H a)
  | [], _, _, h, a, q => by rw [h.2] at q; cases q
  | d :: ds, _, _, h, a, q => by
    obtain ⟨v, vs', F, Fs', rfl, rfl, h1, h2⟩ := h
    rw [List.flatten_cons] at q
    rcases List.mem_append.mp q with q | q
    · exact Rep.mut d h1 a q
    · exact RepL.mut ds h2 a q
end
/-- one object that d doesn't stand on is written -/
theorem cell_upd {p : Addr} {o : HO} (mu : Mut (H p)) (nf : ¬ Z.f p) (nb : ¬ Z.b p) (nt : ¬ Z.t p) : CellMove K cm H (upd H p o) Z Z id (fun a => a ≠ p) := fun a k vs h ho => by
  have nm : ∀ u, Mut (some u) = False → H a = some u → a ≠ p := fun u e q z => by subst z; rw [q, e] at mu; exact mu
  have ne : ∀ fl : Fl, (fl = .own → a ≠ p) → Z.ok a fl → a ≠ p := fun fl h1 h2 z => by
    subst z
    cases fl with
    | own => exact h1 rfl rfl
    | frz => exact nf h2
    | bor => exact nb h2
    | tmp => exact nt h2
  have rd : ∀ u, a ≠ p → Rd H a u → Rd (upd H p o) a u := fun u n r => by
    rcases r with r | ⟨ob, r⟩
    · exact .inl (by rw [upd_ne n]; exact r)
    · exact .inr ⟨ob, by rw [upd_ne n]; exact r⟩
  cases k with
  | tup =>
    rcases h with (h | ⟨ob, h⟩) | h
    · exact .inl (.inl (by rw [upd_ne (nm _ rfl h)]; exact h))
    · exact .inl (.inr ⟨ob, by rw [upd_ne (nm _ rfl h)]; exact h⟩)
    · exact .inr h
  | lst fl =>
    have n := ne fl (fun e => ho (by rw [e]; rfl)) h.2.2
    exact ⟨fun e => by rw [upd_ne n]; exact h.1 e, rd _ n h.2.1, h.2.2⟩
  | dct fl ks =>
    have n := ne fl (fun e => ho (by rw [e]; rfl)) h.2.2.2
    exact ⟨fun e => by rw [upd_ne n]; exact h.1 e, rd _ n h.2.1, h.2.2⟩
  | obj fl c fs =>
    have n := ne fl (fun e => ho (by rw [e]; rfl)) h.2.2
    obtain ⟨⟨dx, e⟩, l, q⟩ := h
    exact ⟨⟨dx, by rw [upd_ne n]; exact e⟩, l, q⟩
  | adr fl b =>
    obtain ⟨h1, h2, h3, ⟨us, h4⟩, h5⟩ := h
    exact ⟨h1, h2, h3, ⟨us, rd _ (ne fl (fun e => absurd e h1) h5) h4⟩, h5⟩
  | exc fl c fs =>
    have n := ne fl (fun e => ho (by rw [e]; rfl)) h.2.2
    obtain ⟨⟨dx, e, q⟩, l, z⟩ := h
    refine ⟨⟨dx, by rw [upd_ne n]; exact e, ?_⟩, l, z⟩
    cases dx with
    | none => exact q
    | some d => exact (upd_ne (fun z => by subst z; have q : H d = _ := q; rw [q] at mu; exact mu)).trans q
theorem Rep.upd {p : Addr} {o : HO} {d : D} {v : V} {F : List Addr} (h : Rep K cm H Z d v F) (mu : Mut (H p)) (nF : p ∉ F) (nf : ¬ Z.f p) (nb : ¬ Z.b p) (nt : ¬ Z.t p) : Rep K cm (upd H p o) Z d v F :=
  h.stay (cell_upd mu nf nb nt) fun a ha z => nF (z ▸ ha)
theorem RepL.upd {p : Addr} {o : HO} {ds : List D} {vs : List V} {Fs : List (List Addr)} (h : RepL K cm H Z ds vs Fs) (mu : Mut (H p)) (nF : p ∉ Fs.flatten) (nf : ¬ Z.f p) (nb : ¬ Z.b p) (nt : ¬ Z.t p) : RepL K cm (upd H p o) Z ds vs Fs :=
  h.stay (cell_upd mu nf nb nt) fun a ha z => nF (z ▸ ha)
mutual
theorem Rep.only {pf : Fl → Bool} (hz : ∀ a f, pf f = true → Z.ok a f → Z'.ok a f) : ∀ (d : D) {v : V} {F : List Addr}, Rep K cm H Z d v F → allF pf d = true → Rep K cm H Z' d v F
  | .non, _, _, h, _ => h
  | .bl _, _, _, h, _ => h
  | .int _, _, _, h, _ => h
  | .str _, _, _, h, _ => h
  | .nd k ds, v, F, h, e => by
    obtain ⟨a, vs, Fs, rfl, hc, hl, rfl⟩ := h
    unfold allF at e
    rw [Bool.and_eq_true] at e
    refine ⟨a, vs, Fs, rfl, ?_, RepL.only hz ds hl e.2, rfl⟩
    cases k with
    | tup => exact hc
    | lst f => exact ⟨hc.1, hc.2.1, hz a f e.1 hc.2.2⟩
    | dct f ks => exact ⟨hc.1, hc.2.1, hc.2.2.1, hz a f e.1 hc.2.2.2⟩
    | obj f c fs => exact ⟨hc.1, hc.2.1, hz a f e.1 hc.2.2⟩
    | exc f c fs => exact ⟨hc.1, hc.2.1, hz a f e.1 hc.2.2⟩
    | adr f b => exact ⟨hc.1, hc.2.1, hc.2.2.1, hc.2.2.2.1, hz a f e.1 hc.2.2.2.2⟩
theorem RepL.only {pf : Fl → Bool} (hz : ∀ a f, pf f = true → Z.ok a f → Z'.ok a f) : ∀ (ds : List D) {vs : List V} {Fs : List (List Addr)}, RepL K cm H Z ds vs Fs → allFL pf ds = true → RepL K cm H Z' ds vs Fs
  | [], _, _, h, _ => h
  | d :: ds, _, _, h, e => by
    obtain ⟨v, vs', F, Fs', rfl, rfl, h1, h2⟩ := h
    unfold allFL at e
    rw [Bool.and_eq_true] at e
    exact repL_cons (Rep.only hz d h1 e.1) (RepL.only hz ds h2 e.2)
end
theorem mut_ne {o : Option HO} (h : Mut o) : o ≠ none := fun e => by rw [e] at h; exact h
end
end OB

namespace OB
open PySem PySem.Spec PyProof.Rows L2

abbrev En := List (Option D)
structure RepE (K : PySem.W.Frag) (cm : Cm) (H : Hp) (Z : Zn) (σ : L2.St) (ρ : En) (Fs : List (List Addr)) : Prop where
  lσ : σ.length = ρ.length
  lF : Fs.length = ρ.length
  get : ∀ (i : Nat) (d : D), ρ[i]? = some (some d) → ∃ v F, σ[i]? = some (some v) ∧ Fs[i]? = some F ∧ Rep K cm H Z d v F
structure OkP (K : PySem.W.Frag) (cm : Cm) (H : Hp) (σ : L2.St) (ρ : En) (Fs : List (List Addr)) (Z : Zn) : Prop where
  rep : RepE K cm H Z σ ρ Fs
  dom : Dom H Z
  tm : ∀ a ∈ Fs.flatten, Z.t a
structure Res (K : PySem.W.Frag) (cm : Cm) (H : Hp) (Z : Zn) (H' : Hp) (Z' : Zn) (A : List Addr) (d : D) (v : V) (F : List Addr) : Prop where
  ext : Ext H Z H' Z'
  rep : Rep K cm H' Z' d v F
  nd : F.Nodup
  fr : ∀ a ∈ F, H a = none ∨ a ∈ A
  nf : ∀ a ∈ F, ¬ Z'.f a
structure ResL (K : PySem.W.Frag) (cm : Cm) (H : Hp) (Z : Zn) (H' : Hp) (Z' : Zn) (A : List Addr) (ds : List D) (vs : List V) (Fs : List (List Addr)) : Prop where
  ext : Ext H Z H' Z'
  rep : RepL K cm H' Z' ds vs Fs
  nd : Fs.flatten.Nodup
  fr : ∀ a ∈ Fs.flatten, H a = none ∨ a ∈ A
  nf : ∀ a ∈ Fs.flatten, ¬ Z'.f a
def noB (d : D) : Bool := allF (fun f => f == .own || f == .frz) d
def xB (x : XD) : Bool := match x.fld with
  | none => true
  | some p => noB p.2
def XRep (K : PySem.W.Frag) (cm : Cm) (H : Hp) (Z : Zn) (x : XD) (cls : Value) (dd : Option Addr) : Prop :=
  cls = .ref (cm x.cls) ∧ xB x = true ∧ match x.fld with
    | none => dd = none
    | some (n, d) => ∃ a v, dd = some a ∧ H a = some (.xd [(n, v)]) ∧ Rep K cm H Z d v []

/-- what is asked of an expression's reading -/
def FinD (K : PySem.W.Frag) (cm : Cm) (W : WX) (σ : L2.St) (H : Hp) (Z : Zn) (Q : VK) : Ot D → Prop
  | .no => False
  | .ok d => ∀ v H' Z' F, Res K cm H Z H' Z' [] d v F → Q v H'
  | .ex x => ∀ cls dd H' Z', Ext H Z H' Z' → XRep K cm H' Z' x cls dd → W cls dd σ H'
def FinL (K : PySem.W.Frag) (cm : Cm) (W : WX) (σ : L2.St) (H : Hp) (Z : Zn) (Q : List V → Hp → Prop) : Ot (List D) → Prop
  | .no => False
  | .ok ds => ∀ vs H' Z' Fs, ResL K cm H Z H' Z' [] ds vs Fs → Q vs H'
  | .ex x => ∀ cls dd H' Z', Ext H Z H' Z' → XRep K cm H' Z' x cls dd → W cls dd σ H'
def FinB (K : PySem.W.Frag) (cm : Cm) (W : WX) (σ : L2.St) (H : Hp) (Z : Zn) (Q : Bool → Hp → Prop) : Ot Bool → Prop
  | .no => False
  | .ok b => ∀ H' Z', Ext H Z H' Z' → Q b H'
  | .ex x => ∀ cls dd H' Z', Ext H Z H' Z' → XRep K cm H' Z' x cls dd → W cls dd σ H'
def tP (K : PySem.W.Frag) (cm : Cm) (W : WX) (f : En → Ot D) : TE := fun σ H Q => ∃ Z ρ Fs, OkP K cm H σ ρ Fs Z ∧ FinD K cm W σ H Z Q (f ρ)
def tPL (K : PySem.W.Frag) (cm : Cm) (W : WX) (f : En → Ot (List D)) : TA := fun σ H Q => ∃ Z ρ Fs, OkP K cm H σ ρ Fs Z ∧ FinL K cm W σ H Z Q (f ρ)
def tPT (K : PySem.W.Frag) (cm : Cm) (W : WX) (f : En → Ot Bool) : TT := fun σ H Q => ∃ Z ρ Fs, OkP K cm H σ ρ Fs Z ∧ FinB K cm W σ H Z Q (f ρ)
abbrev SE (X : Cx) (cm : Cm) (W : WX) (e : Expr) (f : En → Ot D) : Prop := PE X e (tP X.K cm W f)
abbrev SA (X : Cx) (cm : Cm) (W : WX) (es : List Expr) (f : En → Ot (List D)) : Prop := PA X es (tPL X.K cm W f)
abbrev ST (X : Cx) (cm : Cm) (W : WX) (e : Expr) (f : En → Ot Bool) : Prop := PT X e (tPT X.K cm W f)
abbrev SW (X : Cx) (cm : Cm) (W : WX) (e : Expr) (f : En → Ot Bool) : Prop := PW X e (tPT X.K cm W f)

theorem PE.imp {X : Cx} {e : Expr} {t t' : TE} (h : PE X e t) (i : ∀ σ H Q, t' σ H Q → t σ H Q) : PE X e t' := ⟨fun pins s σ H Q I q => h.run pins s σ H Q I (i σ H Q q)⟩
theorem PT.imp {X : Cx} {e : Expr} {t t' : TT} (h : PT X e t) (i : ∀ σ H Q, t' σ H Q → t σ H Q) : PT X e t' := ⟨fun pins s σ H Q I q => h.run pins s σ H Q I (i σ H Q q)⟩
theorem PW.imp {X : Cx} {e : Expr} {t t' : TT} (h : PW X e t) (i : ∀ σ H Q, t' σ H Q → t σ H Q) : PW X e t' := ⟨fun w pins s σ H Q I q => h.run w pins s σ H Q I (i σ H Q q)⟩
theorem PA.imp {X : Cx} {es : List Expr} {t t' : TA} (h : PA X es t) (i : ∀ σ H Q, t' σ H Q → t σ H Q) : PA X es t' := ⟨fun p pins s σ H Q I q => h.run p pins s σ H Q I (i σ H Q q)⟩

section
variable {K : PySem.W.Frag} {cm : Cm} {H H1 H2 H' : Hp} {Z Z1 Z2 Z' : Zn} {σ : L2.St} {ρ : En} {Fs : List (List Addr)}
theorem RepE.ext (r : RepE K cm H Z σ ρ Fs) (e : Ext H Z H' Z') : RepE K cm H' Z' σ ρ Fs := ⟨r.lσ, r.lF, fun i d q => by
  obtain ⟨v, F, a, b, c⟩ := r.get i d q
  exact ⟨v, F, a, b, c.ext e⟩⟩
theorem OkP.ext (r : OkP K cm H σ ρ Fs Z) (e : Ext H Z H' Z') : OkP K cm H' σ ρ Fs Z' := ⟨r.rep.ext e, r.dom.ext e, fun a h => by rw [e.t]; exact r.tm a h⟩
theorem XRep.ext {x : XD} {cls : Value} {dd : Option Addr} (h : XRep K cm H Z x cls dd) (e : Ext H Z H' Z') : XRep K cm H' Z' x cls dd := by
  obtain ⟨rfl, nb, h⟩ := h
  refine ⟨rfl, nb, ?_⟩
  cases q : x.fld with
  | none => rw [q] at h; exact h
  | some p =>
    obtain ⟨n, d⟩ := p
    rw [q] at h
    obtain ⟨a, v, rfl, ha, r⟩ := h
    exact ⟨a, v, rfl, e.gr _ _ ha, r.ext e⟩
theorem noB_only {d : D} {v : V} {F : List Addr} (r : Rep K cm H Z d v F) (nb : noB d = true) (hf : ∀ a, Z.f a → Z'.f a) : Rep K cm H Z' d v F := by
  refine Rep.only (pf := fun f => f == .own || f == .frz) (fun a f hf' hz => ?_) d r nb
  cases f with
  | own => trivial
  | frz => exact hf a hz
  | bor => cases hf'
  | tmp => cases hf'
theorem XRep.back {x : XD} {cls : Value} {dd : Option Addr} (h : XRep K cm H Z x cls dd) (hf : ∀ a, Z.f a → Z'.f a) : XRep K cm H Z' x cls dd := by
  obtain ⟨rfl, nb, h⟩ := h
  refine ⟨rfl, nb, ?_⟩
  unfold xB at nb
  cases q : x.fld with
  | none => rw [q] at h; exact h
  | some p =>
    obtain ⟨n, d⟩ := p
    rw [q] at h nb
    obtain ⟨a, v, rfl, ha, r⟩ := h
    exact ⟨a, v, rfl, ha, noB_only r nb hf⟩
theorem Res.trans {A : List Addr} {d : D} {v : V} {F : List Addr} (e : Ext H Z H1 Z1) (r : Res K cm H1 Z1 H' Z' A d v F) (ha : ∀ a ∈ A, H a = none ∨ a ∈ ([] : List Addr)) : Res K cm H Z H' Z' [] d v F :=
  ⟨e.trans r.ext, r.rep, r.nd, fun a h => (r.fr a h).elim (fun q => .inl (e.gr.back q)) fun q => ha a q, r.nf⟩
theorem Res.trans0 {d : D} {v : V} {F : List Addr} (e : Ext H Z H1 Z1) (r : Res K cm H1 Z1 H' Z' [] d v F) : Res K cm H Z H' Z' [] d v F := r.trans e (fun _ q => nomatch q)
/-- an atom -/
theorem Res.atom {d : D} {v : V} (e : Ext H Z H' Z') (r : Rep K cm H' Z' d v []) {A : List Addr} : Res K cm H Z H' Z' A d v [] := ⟨e, r, List.nodup_nil, fun _ q => (nomatch q), fun _ q => (nomatch q)⟩
theorem ResL.nil (d : Dom H Z) : ResL K cm H Z H Z [] [] [] [] := ⟨.refl d, repL_nil, List.nodup_nil, fun _ q => (nomatch q), fun _ q => (nomatch q)⟩
/-- what a new thing owns is new, and stands -/
theorem Res.new {d : D} {v : V} {F : List Addr} (r : Res K cm H Z H1 Z1 [] d v F) : ∀ a ∈ F, H a = none := fun a h => (r.fr a h).resolve_right (fun q => nomatch q)
theorem ResL.new {ds : List D} {vs : List V} {Fs : List (List Addr)} (r : ResL K cm H Z H1 Z1 [] ds vs Fs) : ∀ a ∈ Fs.flatten, H a = none := fun a h => (r.fr a h).resolve_right (fun q => nomatch q)
theorem keep_nf (e : Ext H1 Z1 H2 Z2) {a : Addr} (m : Mut (H1 a)) (n : ¬ Z1.f a) : ¬ Z2.f a := fun q => (e.fn a q).elim n (mut_ne m)
theorem ResL.cons {d : D} {v : V} {F : List Addr} {ds : List D} {vs : List V} {Fs : List (List Addr)} (r : Res K cm H Z H1 Z1 [] d v F) (rs : ResL K cm H1 Z1 H2 Z2 [] ds vs Fs) : ResL K cm H Z H2 Z2 [] (d :: ds) (v :: vs) (F :: Fs) := by
  have hm := Rep.mut d r.rep
  refine ⟨r.ext.trans rs.ext, repL_cons (r.rep.ext rs.ext) rs.rep, ?_, fun a h => ?_, fun a h => ?_⟩
  · rw [List.flatten_cons, List.nodup_append]
    refine ⟨r.nd, rs.nd, fun a ha b hb e => ?_⟩
    subst e
    exact mut_ne (hm a ha) (rs.new a hb)
  · rw [List.flatten_cons] at h
    rcases List.mem_append.mp h with h | h
    · exact .inl (r.new a h)
    · exact .inl (r.ext.gr.back (rs.new a h))
  · rw [List.flatten_cons] at h
    rcases List.mem_append.mp h with h | h
    · exact keep_nf rs.ext (hm a h) (r.nf a h)
    · exact rs.nf a h
end

/-! ### argument lists -/
def eL : List (En → Ot D) → En → Ot (List D)
  | [], _ => .ok []
  | f :: fs, ρ => (f ρ).bind fun d => (eL fs ρ).bind fun ds => .ok (d :: ds)
section
variable {X : Cx} {cm : Cm} {W : WX} {e : Expr} {es : List Expr} {f : En → Ot D} {fs : List (En → Ot D)}
theorem tP_bind {K : PySem.W.Frag} {f : En → Ot D} {σ : L2.St} {H : Hp} {Z : Zn} {ρ : En} {Fs : List (List Addr)} {R : VK} (ok : OkP K cm H σ ρ Fs Z)
    (hn : f ρ ≠ .no) (hk : ∀ d, f ρ = .ok d → ∀ v H' Z' F, Res K cm H Z H' Z' [] d v F → R v H') (hx : ∀ x, f ρ = .ex x → ∀ cls dd H' Z', Ext H Z H' Z' → XRep K cm H' Z' x cls dd → W cls dd σ H') : tP K cm W f σ H R := by
  refine ⟨Z, ρ, Fs, ok, ?_⟩
  cases q : f ρ with
  | no => exact hn q
  | ok d => exact hk d q
  | ex x => exact hx x q
theorem sa_nil : SA X cm W [] (eL []) := PA.imp pa_nil fun σ H Q h => by
  obtain ⟨Z, ρ, Fs, ok, h⟩ := h
  exact h [] H Z [] (.nil ok.dom)
theorem sa_cons (he : SE X cm W e f) (hs : SA X cm W es (eL fs)) (hst : starEach (e :: es) X.env = (false, eval e X.env) :: starEach es X.env := by rfl) : SA X cm W (e :: es) (eL (f :: fs)) :=
  PA.imp (pa_cons he hs hst) fun σ H Q h => by
    obtain ⟨Z, ρ, Fs, ok, h⟩ := h
    refine tP_bind ok (fun q => ?_) (fun d q v H1 Z1 F r => ?_) (fun x q => ?_)
    · rw [eL, q] at h; exact h
    · rw [eL, q, Ot.bind_ok] at h
      refine ⟨Z1, ρ, Fs, ok.ext r.ext, ?_⟩
      cases q2 : eL fs ρ with
      | no => rw [q2] at h; exact h
      | ok ds => rw [q2] at h; exact fun vs H2 Z2 Gs rs => h _ _ _ _ (ResL.cons r rs)
      | ex x => rw [q2] at h; exact fun cls dd H' Z' ex xr => h cls dd H' Z' (r.ext.trans ex) xr
    · rw [eL, q] at h; exact h
end

/-! ### primitives: functions of values -/
/-- a primitive's reading holds if p gives a value -/
def OkPr (K : PySem.W.Frag) (cm : Cm) (r : List V → Hp → VK → Prop) (p : List D → Option D) : Prop :=
  ∀ H Z ds vs Fs d, Dom H Z → RepL K cm H Z ds vs Fs → Fs.flatten.Nodup → (∀ a ∈ Fs.flatten, ¬ Z.f a) → p ds = some d →
    ∀ Q : VK, (∀ v H' Z' F, Res K cm H Z H' Z' Fs.flatten d v F → Q v H') → r vs H Q
def OkPrT (K : PySem.W.Frag) (cm : Cm) (r : List V → Hp → (Bool → Hp → Prop) → Prop) (p : List D → Option Bool) : Prop :=
  ∀ H Z ds vs Fs b, Dom H Z → RepL K cm H Z ds vs Fs → p ds = some b → ∀ Q : Bool → Hp → Prop, Q b H → r vs H Q
def r2L (r : R2) : List V → Hp → VK → Prop := fun vs H Q => ∃ x y, vs = [x, y] ∧ r x y H Q
def r1L (r : V → Hp → VK → Prop) : List V → Hp → VK → Prop := fun vs H Q => ∃ x, vs = [x] ∧ r x H Q
theorem OkPr.or {K : PySem.W.Frag} {cm : Cm} {r r' : List V → Hp → VK → Prop} {p p' : List D → Option D} (h : OkPr K cm r p) (h' : OkPr K cm r' p') :
    OkPr K cm (fun vs H Q => r vs H Q ∨ r' vs H Q) (fun ds => (p ds).or (p' ds)) := fun H Z ds vs Fs d dm rp nd nf e Q q => by
  cases q1 : p ds with
  | some d1 =>
    have e1 : d1 = d := by simpa [q1] using e
    subst e1
    exact .inl (h H Z ds vs Fs d1 dm rp nd nf q1 Q q)
  | none => exact .inr (h' H Z ds vs Fs d dm rp nd nf (by simpa [q1] using e) Q q)

/-- the value of a primitive on what the arguments give -/
def ePr (p : List D → Option D) (fs : List (En → Ot D)) : En → Ot D := fun ρ => (eL fs ρ).bind fun ds => .of (p ds)
section
variable {X : Cx} {cm : Cm} {W : WX}
/-- behind the arguments -/
theorem pr_end {K : PySem.W.Frag} {r : List V → Hp → VK → Prop} {p : List D → Option D} (hp : OkPr K cm r p) {fs : List (En → Ot D)} {σ : L2.St} {H : Hp} {Q : VK} (h : tP K cm W (ePr p fs) σ H Q) :
    tPL K cm W (eL fs) σ H (fun vs H1 => r vs H1 Q) := by
  obtain ⟨Z, ρ, Fs, ok, h⟩ := h
  refine ⟨Z, ρ, Fs, ok, ?_⟩
  unfold ePr at h
  cases q : eL fs ρ with
  | no => rw [q] at h; exact h
  | ex x => rw [q] at h; exact h
  | ok ds =>
    rw [q, Ot.bind_ok] at h
    intro vs H1 Z1 Gs r1
    cases q2 : p ds with
    | none => rw [q2] at h; exact h.elim
    | some d =>
      rw [q2] at h
      refine hp H1 Z1 ds vs Gs d (ok.dom.ext r1.ext) r1.rep r1.nd r1.nf q2 Q fun v H' Z' F rr => h v H' Z' F (rr.trans r1.ext fun a ha => .inl (r1.new a ha))
/-- two places, one after another, as an argument list -/
theorem two_of {K : PySem.W.Frag} {f g : En → Ot D} {σ : L2.St} {H : Hp} {R : V → V → Hp → Prop} (h : tPL K cm W (eL [f, g]) σ H (fun vs H1 => ∃ x y, vs = [x, y] ∧ R x y H1)) :
    tP K cm W f σ H (fun x H1 => tP K cm W g σ H1 (fun y H2 => R x y H2)) := by
  obtain ⟨Z, ρ, Fs, ok, h⟩ := h
  simp only [eL] at h
  refine tP_bind ok (fun q => ?_) (fun d q v H1 Z1 F r => ?_) (fun x q => ?_)
  · rw [q] at h; exact h
  · rw [q, Ot.bind_ok] at h
    refine tP_bind (ok.ext r.ext) (fun q2 => ?_) (fun d2 q2 v2 H2 Z2 F2 r2 => ?_) (fun x q2 => ?_)
    · rw [q2] at h; exact h
    · rw [q2] at h
      obtain ⟨x, y, e, k⟩ := h [v, v2] H2 Z2 _ (ResL.cons r (ResL.cons r2 (.nil ((ok.ext r.ext).dom.ext r2.ext))))
      cases e
      exact k
    · rw [q2] at h; exact fun cls dd H' Z' ex xr => h cls dd H' Z' (r.ext.trans ex) xr
  · rw [q] at h; exact h
theorem one_of {K : PySem.W.Frag} {f : En → Ot D} {σ : L2.St} {H : Hp} {R : V → Hp → Prop} (h : tPL K cm W (eL [f]) σ H (fun vs H1 => ∃ x, vs = [x] ∧ R x H1)) :
    tP K cm W f σ H R := by
  obtain ⟨Z, ρ, Fs, ok, h⟩ := h
  simp only [eL] at h
  refine tP_bind ok (fun q => ?_) (fun d q v H1 Z1 F r => ?_) (fun x q => ?_)
  · rw [q] at h; exact h
  · rw [q, Ot.bind_ok] at h
    obtain ⟨x, e, k⟩ := h [v] H1 Z1 _ (ResL.cons r (.nil (ok.dom.ext r.ext)))
    cases e
    exact k
  · rw [q] at h; exact h
variable {a b e : Expr} {f g : En → Ot D} {pos : Pos}
theorem s_op {op : Operator} {r : R2} {p : List D → Option D} (ho : OpR X (binaryOp op) r) (hp : OkPr X.K cm (r2L r) p) (ha : SE X cm W a f) (hb : SE X cm W b g) : SE X cm W (.BinOp a op b pos) (ePr p [f, g]) :=
  PE.imp (pe_op ho ha hb) fun σ H Q h => two_of (pr_end hp h)
theorem s_cmp {op : CmpOp} {r : R2} {p : List D → Option D} (ho : OpR X (compareOp op) r) (hp : OkPr X.K cm (r2L r) p) (ha : SE X cm W a f) (hb : SE X cm W b g) (hm : behindInMarks op b = false) : SE X cm W (.Compare a [op] [b] pos) (ePr p [f, g]) :=
  PE.imp (pe_cmpR ho ha hb hm) fun σ H Q h => two_of (pr_end hp h)
theorem s_un {op : UnaryOp} {r : V → Hp → VK → Prop} {p : List D → Option D} (ho : UnR X (unaryOp op) r) (hp : OkPr X.K cm (r1L r) p) (ha : SE X cm W a f) : SE X cm W (.UnaryOp op a pos) (ePr p [f]) :=
  PE.imp (pe_un ho ha) fun σ H Q h => one_of (pr_end hp h)
theorem s_ix {r : R2} {p : List D → Option D} (ho : IxR X r) (hp : OkPr X.K cm (r2L r) p) (ha : SE X cm W a f) (hb : SE X cm W b g) (hs : PlainIx b := by exact fun _ _ => rfl) : SE X cm W (.Subscript a b pos) (ePr p [f, g]) :=
  PE.imp (pe_ix ho ha hb hs) fun σ H Q h => two_of (pr_end hp h)
theorem s_callB {x : Str} {p : Pos} {es : List Expr} {id : String} {r : List V → Hp → VK → Prop} {pr : List D → Option D} {fs : List (En → Ot D)} (hc : CallR X (.builtin id) r) (hp : OkPr X.K cm r pr) (hg : Gl X x) (hm : X.mg x = none) (hv : bootBuiltins x = some (.builtin id)) (ha : SA X cm W (e :: es) (eL fs))
    (hn : x ≠ "__name__" := by decide) (hdb : (x == ("__debug__" : Str)) = false := by decide) (he : starEach (e :: es) X.env = (false, eval e X.env) :: starEach es X.env := by rfl) (hpl : (backTo pos (starEach es X.env)).any (·.1) = false := by rfl) :
    SE X cm W (.Call (.Name x p) (e :: es) [] pos) (ePr pr fs) :=
  PE.imp (pe_callB hc hg hm hv ha hn hdb he hpl) fun σ H Q h => pr_end hp h
theorem s_callTy {x : Str} {p : Pos} {es : List Expr} {id : String} {r : List V → Hp → VK → Prop} {pr : List D → Option D} {fs : List (En → Ot D)} (hc : CallR X (.type id) r) (hp : OkPr X.K cm r pr) (hg : Gl X x) (hm : X.mg x = none) (hv : bootBuiltins x = some (.type id)) (ha : SA X cm W (e :: es) (eL fs))
    (hn : x ≠ "__name__" := by decide) (hdb : (x == ("__debug__" : Str)) = false := by decide) (he : starEach (e :: es) X.env = (false, eval e X.env) :: starEach es X.env := by rfl) (hpl : (backTo pos (starEach es X.env)).any (·.1) = false := by rfl) :
    SE X cm W (.Call (.Name x p) (e :: es) [] pos) (ePr pr fs) :=
  PE.imp (pe_callTy hc hg hm hv ha hn hdb he hpl) fun σ H Q h => pr_end hp h
end
end OB

namespace OB
open PySem PySem.Spec PyProof.Rows L2

section
variable {K : PySem.W.Frag} {cm : Cm} {H : Hp} {Z : Zn}
theorem repL1 {d : D} {vs : List V} {Fs : List (List Addr)} (h : RepL K cm H Z [d] vs Fs) : ∃ v F, vs = [v] ∧ Fs = [F] ∧ Rep K cm H Z d v F := by
  obtain ⟨v, vs', F, Fs', rfl, rfl, h1, rfl, rfl⟩ := h
  exact ⟨v, F, rfl, rfl, h1⟩
theorem repL2 {d e : D} {vs : List V} {Fs : List (List Addr)} (h : RepL K cm H Z [d, e] vs Fs) : ∃ v u F G, vs = [v, u] ∧ Fs = [F, G] ∧ Rep K cm H Z d v F ∧ Rep K cm H Z e u G := by
  obtain ⟨v, vs', F, Fs', rfl, rfl, h1, h2⟩ := h
  obtain ⟨u, G, rfl, rfl, h3⟩ := repL1 h2
  exact ⟨v, u, F, G, rfl, rfl, h1, h3⟩
theorem repL3 {d e f : D} {vs : List V} {Fs : List (List Addr)} (h : RepL K cm H Z [d, e, f] vs Fs) : ∃ v u w F G M, vs = [v, u, w] ∧ Fs = [F, G, M] ∧ Rep K cm H Z d v F ∧ Rep K cm H Z e u G ∧ Rep K cm H Z f w M := by
  obtain ⟨v, vs', F, Fs', rfl, rfl, h1, h2⟩ := h
  obtain ⟨u, w, G, M, rfl, rfl, h2, h3⟩ := repL2 h2
  exact ⟨v, u, w, F, G, M, rfl, rfl, h1, h2, h3⟩
theorem rep_int {i : Int} : Rep K cm H Z (.int i) (.int i) [] := ⟨rfl, rfl⟩
theorem rep_str {i : Str} : Rep K cm H Z (.str i) (.str i) [] := ⟨rfl, rfl⟩
theorem rep_bl {i : Bool} : Rep K cm H Z (.bl i) (.bl i) [] := ⟨rfl, rfl⟩
theorem rep_non : Rep K cm H Z .non .non [] := ⟨rfl, rfl⟩
theorem rdL {a : Addr} {vs : List V} (h : Rd H a (.lst vs)) : SqL K H a vs := .inl h
/-- a new object -/
theorem Res.newNd {A : List Addr} {k : Kd} {ds : List D} {vs : List V} {Fs : List (List Addr)} {p : Addr} {o : HO} (dm : Dom H Z) (rl : RepL K cm H Z ds vs Fs) (nd : Fs.flatten.Nodup) (sub : ∀ a ∈ Fs.flatten, H a = none ∨ a ∈ A) (nf : ∀ a ∈ Fs.flatten, ¬ Z.f a)
    (hp : H p = none) (hc : Cell K cm (upd H p o) Z p k vs) : Res K cm H Z (upd H p o) Z A (.nd k ds) (.ref p) (ownA k p ++ Fs.flatten) := by
  have g : Grow H (upd H p o) := .new hp
  have hm := RepL.mut ds rl
  have sp : ∀ a ∈ ownA k p, a = p := fun a h => by
    unfold ownA at h
    split at h
    · simpa using h
    · cases h
  refine ⟨.grow dm g, ⟨p, vs, Fs, rfl, hc, rl.grow g (fun _ h => h) (fun _ h => h) (fun _ h => h), rfl⟩, ?_, fun a h => ?_, fun a h => ?_⟩
  · rw [List.nodup_append]
    refine ⟨?_, nd, fun a ha b hb e => ?_⟩
    · unfold ownA
      split <;> simp
    · subst e
      rw [sp a ha] at hb
      exact mut_ne (hm p hb) hp
  · rcases List.mem_append.mp h with h | h
    · exact .inl (by rw [sp a h]; exact hp)
    · exact sub a h
  · rcases List.mem_append.mp h with h | h
    · rw [sp a h]; exact fun q => dm.f p q hp
    · exact nf a h
theorem Res.newL {A : List Addr} {ds : List D} {vs : List V} {Fs : List (List Addr)} {p : Addr} (dm : Dom H Z) (rl : RepL K cm H Z ds vs Fs) (nd : Fs.flatten.Nodup) (sub : ∀ a ∈ Fs.flatten, H a = none ∨ a ∈ A) (nf : ∀ a ∈ Fs.flatten, ¬ Z.f a)
    (hp : H p = none) : Res K cm H Z (upd H p (.lst vs)) Z A (.nd (.lst .own) ds) (.ref p) (ownA (.lst .own) p ++ Fs.flatten) :=
  .newNd dm rl nd sub nf hp ⟨fun _ => upd_same, .inl upd_same, trivial⟩
theorem Res.newT {A : List Addr} {ds : List D} {vs : List V} {Fs : List (List Addr)} {p : Addr} (dm : Dom H Z) (rl : RepL K cm H Z ds vs Fs) (nd : Fs.flatten.Nodup) (sub : ∀ a ∈ Fs.flatten, H a = none ∨ a ∈ A) (nf : ∀ a ∈ Fs.flatten, ¬ Z.f a)
    (hp : H p = none) : Res K cm H Z (upd H p (.tup vs)) Z A (.nd .tup ds) (.ref p) (ownA .tup p ++ Fs.flatten) :=
  .newNd dm rl nd sub nf hp (SqT.of upd_same)
/-- the same thing, as it stands -/
theorem Res.same {A : List Addr} {d : D} {v : V} {F : List Addr} (dm : Dom H Z) (r : Rep K cm H Z d v F) (nd : F.Nodup) (sub : ∀ a ∈ F, a ∈ A) (nf : ∀ a ∈ F, ¬ Z.f a) : Res K cm H Z H Z A d v F :=
  ⟨.refl dm, r, nd, fun a h => .inr (sub a h), nf⟩
end
theorem flatten_get {α : Type} : ∀ {Fs : List (List α)} {i : Nat} {F : List α}, Fs[i]? = some F → F.Sublist Fs.flatten
  | [], i, F, h => by simp at h
  | G :: Fs, 0, F, h => by simp at h; subst h; rw [List.flatten_cons]; exact List.sublist_append_left _ _
  | G :: Fs, i + 1, F, h => by
    rw [List.flatten_cons]
    exact (flatten_get (Fs := Fs) (i := i) (by simpa using h)).trans (List.sublist_append_right _ _)

/-! ### numbers and texts -/
def mulOk (i j : Int) : Bool := decide (Builtin.Int.intBits i + Builtin.Int.intBits j ≤ 134217728)
theorem mulOk_ok {i j : Int} (h : mulOk i j = true) : IntMulOk i j := by
  have h3 := of_decide_eq_true h
  have e : bitsLine = 134217728 := by decide
  unfold IntMulOk
  intro z
  rw [Bool.and_eq_true] at z
  have z2 := z.2
  unfold Builtin.Int.intTooBig at z2
  have z3 := of_decide_eq_true z2
  rw [e] at z3
  omega
def divOk (j : Int) : Bool := decide (j ≠ 0) && decide (j.natAbs.log2 < 9000)
def divV (i j : Int) : Int := if 0 < j then i / j else i.fdiv j
def modV (i j : Int) : Int := if 0 < j then i % j else i.fmod j
def powOk (i j : Int) : Bool := decide (0 ≤ j) && decide ((Builtin.Int.intBits i : Int) * j ≤ 2 ^ 27)
def pAdd : List D → Option D
  | [.int i, .int j] => some (.int (i + j))
  | [.str a, .str b] => if a.length + b.length ≤ sizeLine then some (.str (a ++ b)) else none
  | [.nd (.lst _) xs, .nd (.lst _) ys] => if xs.length + ys.length ≤ sizeLine then some (.nd (.lst .own) (xs ++ ys)) else none
  | [.nd .tup (x :: xs), .nd .tup (y :: ys)] => if (x :: xs).length + (y :: ys).length ≤ sizeLine then some (.nd .tup ((x :: xs) ++ (y :: ys))) else none
  | _ => none
def pSub : List D → Option D
  | [.int i, .int j] => some (.int (i - j))
  | _ => none
def pMul : List D → Option D
  | [.int i, .int j] => if mulOk i j then some (.int (i * j)) else none
  | [.str s, .int k] => if s.length * k.toNat ≤ sizeLine ∧ 2 ≤ k ∧ k < 2 ^ 30 ∧ 1 ≤ s.length then some (.str ⟨(List.replicate k.toNat s.cps.toList).flatten.toArray⟩) else none
  | [.nd (.lst .own) [.str d], .int k] => if k.toNat ≤ sizeLine ∧ 0 ≤ k ∧ k < 2 ^ 62 then some (.nd (.lst .own) (List.replicate k.toNat (.str d))) else none
  | _ => none
def pDiv : List D → Option D
  | [.int i, .int j] => if divOk j then some (.int (divV i j)) else none
  | _ => none
def pMod : List D → Option D
  | [.int i, .int j] => if j ≠ 0 then some (.int (modV i j)) else none
  | _ => none
def pPow : List D → Option D
  | [.int i, .int j] => if powOk i j then some (.int (i ^ j.toNat)) else none
  | _ => none
def pNeg : List D → Option D
  | [.int i] => some (.int (-i))
  | _ => none
def rCatR : R2 := fun x y H Q => ∃ l b xs zs, x = .ref l ∧ y = .ref b ∧ Rd H l (.lst xs) ∧ Rd H b (.lst zs) ∧ xs.length + zs.length ≤ sizeLine ∧ ∀ p, H p = none → Q (.ref p) (upd H p (.lst (xs ++ zs)))
section
variable {X : Cx}
theorem op_catR : OpR X (binaryOp .Add) rCatR := by
  intro pins s σ H x y v u Q I rx ry h
  obtain ⟨l, b, xs, zs, rfl, rfl, hH, hB, hz, q⟩ := h
  cases rx
  cases ry
  obtain ⟨z, its, n, r, e⟩ := hH.ok I.hok
  obtain ⟨z2, its2, n2, r2, e2⟩ := hB.ok I.hok
  have hl := r.length
  have hl2 := r2.length
  refine PySem.P.add_list e e2 ?_ (by rw [List.size_toArray, List.size_toArray]; omega)
  have ea : its.toArray ++ its2.toArray = (its ++ its2).toArray := by simp
  rw [ea]
  exact ⟨.ref _, _, I.lnew (t' := s.toks) (r.append r2) (by rw [List.length_append]; omega), rfl, q _ I.fresh⟩
end
def rStrMul : R2 := fun x y H Q => ∃ (s : Str) (k : Int), x = .str s ∧ y = .int k ∧ s.length * k.toNat ≤ sizeLine ∧ 2 ≤ k ∧ k < 2 ^ 30 ∧ 1 ≤ s.length ∧ Q (.str ⟨(List.replicate k.toNat s.cps.toList).flatten.toArray⟩) H
theorem rep_cps (a : Array Nat) (k : Nat) : (List.replicate k a).foldl (· ++ ·) #[] = (List.replicate k a.toList).flatten.toArray := by
  have key : ∀ (k : Nat) (acc : Array Nat), (List.replicate k a).foldl (· ++ ·) acc = acc ++ (List.replicate k a.toList).flatten.toArray := by
    intro k
    induction k with
    | zero => intro acc; simp
    | succ k ih =>
      intro acc
      rw [List.replicate_succ, List.foldl_cons, ih, List.replicate_succ, List.flatten_cons]
      apply Array.ext'
      simp
  rw [key k #[]]
  simp
section
variable {X : Cx}
theorem op_strMul : OpR X (binaryOp .Mult) rStrMul := by
  intro pins s σ H x y v u Q I rx ry h
  obtain ⟨z, k, rfl, rfl, hz, h2, h3, h1, q⟩ := h
  obtain ⟨t, rfl⟩ := rx
  obtain ⟨t', rfl⟩ := ry
  have hline : (sizeLine : Nat) = 16777216 := sizeLine_eq
  have kn : (k.toNat : Int) = k := Int.toNat_of_nonneg (by omega)
  have hz2 : (z.length : Int) * k ≤ 16777216 := by
    have q1 : ((z.length * k.toNat : Nat) : Int) ≤ ((16777216 : Nat) : Int) := by
      have := hz
      rw [hline] at this
      exact Int.ofNat_le.mpr this
    rw [Int.natCast_mul, kn] at q1
    exact q1
  refine PySem.P.mul_str ?_ (fun _ _ => ?_) (fun _ _ => ?_) ?_
  · have a : decide (k < -(2 ^ 63 : Int)) = false := decide_eq_false (by omega)
    have b : decide (k ≥ 2 ^ 63) = false := decide_eq_false (by omega)
    rw [a, b]; rfl
  · intro q1
    have q2 : k * ((2 ^ 63 - 1) / k) ≥ (2 ^ 63 - 1) - k := by
      have e := Int.emod_add_mul_ediv (2 ^ 63 - 1 : Int) k
      have e2 := Int.emod_lt_of_pos (2 ^ 63 - 1 : Int) (show 0 < k by omega)
      omega
    have q3 : k * (((2 ^ 63 - 1) / k) + 1) ≤ k * (z.length : Int) := Int.mul_le_mul_of_nonneg_left (by omega) (by omega)
    rw [Int.mul_add, Int.mul_comm k (z.length : Int)] at q3
    omega
  · unfold PySem.Builtin.Str.tooLong
    first
      | exact decide_eq_false (by omega)
      | (simp only [decide_eq_false_iff_not]; omega)
      | (rw [hline] at hz; simp; omega)
  · rw [if_neg (by omega : ¬ k < 1)]
    have e : (k == 1 || z.length == 0) = false := by
      have a : (k == 1) = false := by simp; omega
      have b : (z.length == 0) = false := by simp; omega
      rw [a, b]; rfl
    rw [e, rep_cps]
    have hl : (⟨(List.replicate k.toNat z.cps.toList).flatten.toArray⟩ : Str).length = k.toNat * z.length := by
      show ((List.replicate k.toNat z.cps.toList).flatten.toArray).size = _
      simp [List.length_flatten, Str.length]
    refine ⟨?_, ⟨.str _, H, I.tok _, ⟨_, rfl⟩, q⟩⟩
    first
      | (rw [hl, Nat.mul_comm]; exact hz)
      | (show _ ≤ sizeLine; rw [hl, Nat.mul_comm]; exact hz)
/-! ### the arithmetic of data -/
def rAdd4 (K : PySem.W.Frag) : R2 := fun x y H Q => rI0 (fun i j => .int (i + j)) x y H Q ∨ (∃ i j, x = .str i ∧ y = .str j ∧ i.length + j.length ≤ sizeLine ∧ Q (.str (i ++ j)) H) ∨ rCatR x y H Q ∨ rCatT K x y H Q
theorem op_add4 : OpR X (binaryOp .Add) (rAdd4 X.K) := op_add.or (op_add_str.or (op_catR.or op_catT))
def rMul3 : R2 := fun x y H Q => rI (fun i j => mulOk i j = true) (fun i j => .int (i * j)) x y H Q ∨ rStrMul x y H Q ∨ rRep x y H Q
theorem op_mul3 : OpR X (binaryOp .Mult) rMul3 := OpR.or (opI fun _ _ _ _ _ _ _ hc q => mul_int q (mulOk_ok hc)) (op_strMul.or op_rep)
def rDivD : R2 := rI (fun _ j => divOk j = true) fun i j => .int (divV i j)
theorem op_divD : OpR X (binaryOp .FloorDiv) rDivD := opI fun i j _ _ _ _ _ hc q => by
  have h0 : j ≠ 0 := by
    have := (Bool.and_eq_true_iff.mp hc).1
    exact of_decide_eq_true this
  refine floordiv_int h0 ?_ (.inl (PyProof.noPylong_of_log2 (of_decide_eq_true (Bool.and_eq_true_iff.mp hc).2)))
  have e : i.fdiv j = divV i j := by
    unfold divV
    split
    · rw [Int.fdiv_eq_ediv_of_nonneg i (by omega)]
    · rfl
  rw [e]; exact q
def rModD : R2 := rI (fun _ j => j ≠ 0) fun i j => .int (modV i j)
theorem op_modD : OpR X (binaryOp .Mod) rModD := opI fun i j _ _ _ _ _ hc q => by
  refine mod_int' hc ?_
  have e : i.fmod j = modV i j := by
    unfold modV
    split
    · rw [Int.fmod_eq_emod_of_nonneg i (by omega)]
    · rfl
  rw [e]; exact q
def rPowD : R2 := rI (fun i j => powOk i j = true) fun i j => .int (i ^ j.toNat)
theorem op_powD : OpR X (binaryOp .Pow) rPowD := opI fun i j _ _ _ _ _ hc q => by
  have h := Bool.and_eq_true_iff.mp hc
  exact pow_int (of_decide_eq_true h.1) (of_decide_eq_true h.2) q
end
section
variable {K : PySem.W.Frag} {cm : Cm}
theorem cat_sub (A B : List Addr) (Fs1 Fs2 : List (List Addr)) : (Fs1 ++ Fs2).flatten.Sublist [A ++ Fs1.flatten, B ++ Fs2.flatten].flatten := by
  rw [List.flatten_append]
  simp only [List.flatten_cons, List.flatten_nil, List.append_nil]
  exact (List.sublist_append_right _ _).append (List.sublist_append_right _ _)
theorem ok_add : OkPr K cm (r2L (rAdd4 K)) pAdd := by
  intro H Z ds vs Fs d dm rp nd nf e Q q
  unfold pAdd at e
  split at e
  · cases e
    obtain ⟨v, u, F, G, rfl, rfl, ⟨rfl, rfl⟩, ⟨rfl, rfl⟩⟩ := repL2 rp
    exact ⟨_, _, rfl, .inl ⟨_, _, rfl, rfl, q _ H Z [] (.atom (.refl dm) rep_int)⟩⟩
  · split at e
    · rename_i hl
      cases e
      obtain ⟨v, u, F, G, rfl, rfl, ⟨rfl, rfl⟩, ⟨rfl, rfl⟩⟩ := repL2 rp
      exact ⟨_, _, rfl, .inr (.inl ⟨_, _, rfl, rfl, hl, q _ H Z [] (.atom (.refl dm) rep_str)⟩)⟩
    · cases e
  · split at e
    · rename_i hl
      cases e
      obtain ⟨v, u, F, G, rfl, rfl, ⟨a, vs1, Fs1, rfl, c1, l1, rfl⟩, ⟨b, vs2, Fs2, rfl, c2, l2, rfl⟩⟩ := repL2 rp
      have lv1 := l1.len.1
      have lv2 := l2.len.1
      have sub := fun A B => cat_sub A B Fs1 Fs2
      refine ⟨_, _, rfl, .inr (.inr (.inl ⟨a, b, vs1, vs2, rfl, rfl, c1.2.1, c2.2.1, by omega, fun p hp => ?_⟩))⟩
      exact q _ _ Z _ (.newL dm (l1.app l2) (nd.sublist (sub _ _)) (fun x hx => .inr ((sub _ _).subset hx)) (fun x hx => nf x ((sub _ _).subset hx)) hp)
    · cases e
  · split at e
    · rename_i hl
      cases e
      obtain ⟨v, u, F, G, rfl, rfl, ⟨a, vs1, Fs1, rfl, c1, l1, rfl⟩, ⟨b, vs2, Fs2, rfl, c2, l2, rfl⟩⟩ := repL2 rp
      have lv1 := l1.len.1
      have lv2 := l2.len.1
      have sub := fun A B => cat_sub A B Fs1 Fs2
      refine ⟨_, _, rfl, .inr (.inr (.inr ⟨a, b, vs1, vs2, rfl, rfl, c1, c2, fun z => by subst z; simp at lv1, by omega, fun z => by subst z; simp at lv2, fun _ p hp => ?_⟩))⟩
      exact q _ _ Z _ (.newT dm (l1.app l2) (nd.sublist (sub _ _)) (fun x hx => .inr ((sub _ _).subset hx)) (fun x hx => nf x ((sub _ _).subset hx)) hp)
    · cases e
  · cases e
theorem ok_int2 {C : Int → Int → Prop} {g : Int → Int → Int} {p : List D → Option D} (hp : ∀ ds d, p ds = some d → ∃ i j, ds = [.int i, .int j] ∧ C i j ∧ d = .int (g i j)) : OkPr K cm (r2L (rI C fun i j => .int (g i j))) p := by
  intro H Z ds vs Fs d dm rp nd nf e Q q
  obtain ⟨i, j, rfl, hc, rfl⟩ := hp _ _ e
  obtain ⟨v, u, F, G, rfl, rfl, ⟨rfl, rfl⟩, ⟨rfl, rfl⟩⟩ := repL2 rp
  exact ⟨_, _, rfl, i, j, rfl, rfl, hc, q _ H Z [] (.atom (.refl dm) rep_int)⟩
theorem ok_sub : OkPr K cm (r2L (rI0 fun i j => .int (i - j))) pSub := by
  intro H Z ds vs Fs d dm rp nd nf e Q q
  unfold pSub at e
  split at e
  · cases e
    obtain ⟨v, u, F, G, rfl, rfl, ⟨rfl, rfl⟩, ⟨rfl, rfl⟩⟩ := repL2 rp
    exact ⟨_, _, rfl, _, _, rfl, rfl, q _ H Z [] (.atom (.refl dm) rep_int)⟩
  · cases e
theorem ok_div : OkPr K cm (r2L rDivD) pDiv := ok_int2 fun ds d e => by
  unfold pDiv at e
  split at e
  · split at e
    · rename_i h
      cases e
      exact ⟨_, _, rfl, h, rfl⟩
    · cases e
  · cases e
theorem ok_mod : OkPr K cm (r2L rModD) pMod := ok_int2 fun ds d e => by
  unfold pMod at e
  split at e
  · split at e
    · rename_i h
      cases e
      exact ⟨_, _, rfl, h, rfl⟩
    · cases e
  · cases e
theorem ok_pow : OkPr K cm (r2L rPowD) pPow := ok_int2 fun ds d e => by
  unfold pPow at e
  split at e
  · split at e
    · rename_i h
      cases e
      exact ⟨_, _, rfl, h, rfl⟩
    · cases e
  · cases e
theorem ok_neg : OkPr K cm (r1L (rU fun i => .int (-i))) pNeg := by
  intro H Z ds vs Fs d dm rp nd nf e Q q
  unfold pNeg at e
  split at e
  · cases e
    obtain ⟨v, F, rfl, rfl, ⟨rfl, rfl⟩⟩ := repL1 rp
    exact ⟨_, rfl, _, rfl, q _ H Z [] (.atom (.refl dm) rep_int)⟩
  · cases e
theorem repL_strs : ∀ (n : Nat) (d : Str), RepL K cm H Z (List.replicate n (.str d)) (List.replicate n (.str d)) (List.replicate n [])
  | 0, _ => repL_nil
  | n + 1, d => repL_cons ⟨rfl, rfl⟩ (repL_strs n d)
theorem flatten_nils : ∀ n : Nat, (List.replicate n ([] : List Addr)).flatten = []
  | 0 => rfl
  | n + 1 => by rw [List.replicate_succ, List.flatten_cons, flatten_nils n]; rfl
theorem flatten_ones {α : Type} (x : α) : ∀ n : Nat, (List.replicate n [x]).flatten = List.replicate n x
  | 0 => rfl
  | n + 1 => by rw [List.replicate_succ, List.flatten_cons, flatten_ones x n]; rfl
theorem ok_mul : OkPr K cm (r2L rMul3) pMul := by
  intro H Z ds vs Fs d dm rp nd nf e Q q
  unfold pMul at e
  split at e
  · split at e
    · rename_i hl
      cases e
      obtain ⟨v, u, F, G, rfl, rfl, ⟨rfl, rfl⟩, ⟨rfl, rfl⟩⟩ := repL2 rp
      exact ⟨_, _, rfl, .inl ⟨_, _, rfl, rfl, hl, q _ H Z [] (.atom (.refl dm) rep_int)⟩⟩
    · cases e
  · split at e
    · rename_i hl
      cases e
      obtain ⟨v, u, F, G, rfl, rfl, ⟨rfl, rfl⟩, ⟨rfl, rfl⟩⟩ := repL2 rp
      exact ⟨_, _, rfl, .inr (.inl ⟨_, _, rfl, rfl, hl.1, hl.2.1, hl.2.2.1, hl.2.2.2, q _ H Z [] (.atom (.refl dm) rep_str)⟩)⟩
    · cases e
  · split at e
    · rename_i d0 k hl
      cases e
      obtain ⟨v, u, F, G, rfl, rfl, ⟨a, vs1, Fs1, rfl, c1, l1, rfl⟩, ⟨rfl, rfl⟩⟩ := repL2 rp
      obtain ⟨v1, F1, rfl, rfl, ⟨rfl, rfl⟩⟩ := repL1 l1
      refine ⟨_, _, rfl, .inr (.inr ⟨a, k, _, rfl, rfl, c1.1 (by decide), by omega, by omega, by simp only [List.length_singleton, Nat.one_mul]; exact hl.1, fun p hp => ?_⟩)⟩
      rw [flatten_ones]
      refine q _ _ Z _ (.newL dm (repL_strs k.toNat d0) ?_ ?_ ?_ hp)
      · rw [flatten_nils]; exact List.nodup_nil
      · rw [flatten_nils]; exact fun _ z => nomatch z
      · rw [flatten_nils]; exact fun _ z => nomatch z
    · cases e
  · cases e
end
end OB

namespace OB
open PySem PySem.Spec PyProof.Rows L2

/-! ### reading a name: what is owned is lent for the moment -/
def Fl.toTmp : Fl → Fl
  | .own => .tmp
  | f => f
def getV (ρ : En) (i : Nat) : Option D := (ρ[i]?).join
def eVar (i : Nat) : En → Ot D := fun ρ => .of ((getV ρ i).map (mapF Fl.toTmp))
def eC (d : D) : En → Ot D := fun _ => .ok d
theorem getV_some {ρ : En} {i : Nat} {d : D} (h : getV ρ i = some d) : ρ[i]? = some (some d) := by
  unfold getV at h
  cases q : ρ[i]? with
  | none => rw [q] at h; cases h
  | some o => rw [q] at h; rw [show o = some d from h]
theorem flat_mem {Fs : List (List Addr)} {i : Nat} {F : List Addr} (e : Fs[i]? = some F) {x : Addr} (h : x ∈ F) : x ∈ Fs.flatten := (flatten_get e).subset h
/-- what a slot holds, lent -/
theorem OkP.lent {K : PySem.W.Frag} {cm : Cm} {H : Hp} {σ : L2.St} {ρ : En} {Fs : List (List Addr)} {Z : Zn} (ok : OkP K cm H σ ρ Fs Z) {i : Nat} {d : D} (h : getV ρ i = some d) :
    ∃ v, σ[i]? = some (some v) ∧ Rep K cm H Z (mapF Fl.toTmp d) v [] := by
  obtain ⟨v, F, e1, e2, r⟩ := ok.rep.get i d (getV_some h)
  refine ⟨v, e1, Rep.give (O := fun a => a ∈ F) (cell_flag (fun a ha f ef _ => ?_) (fun a f hf hz => ?_) (fun f e => ?_)) (fun f e => ?_) d r fun a ha => ha⟩
  · subst ef
    exact ok.tm a (flat_mem e2 ha)
  · cases f with
    | own => exact absurd rfl hf
    | _ => exact hz
  · cases f <;> first | rfl | cases e
  · cases f <;> cases e
section
variable {X : Cx} {cm : Cm} {W : WX} {e a b c : Expr} {f g h : En → Ot D} {pos : Pos}
theorem s_var {i : Nat} {x : Str} (he : PE X (.Name x pos) (tVar i)) : SE X cm W (.Name x pos) (eVar i) := PE.imp he fun σ H Q h => by
  obtain ⟨Z, ρ, Fs, ok, h⟩ := h
  unfold eVar at h
  cases q : getV ρ i with
  | none => rw [q] at h; exact h.elim
  | some d =>
    rw [q] at h
    obtain ⟨v, e, r⟩ := ok.lent q
    exact ⟨v, e, h v H Z [] (.atom (.refl ok.dom) r)⟩
/-- a constant: an atom -/
theorem s_c {d : D} {v : V} (he : PE X e (tC v)) (hr : ∀ (H : Hp) (Z : Zn), Rep X.K cm H Z d v []) : SE X cm W e (eC d) := PE.imp he fun σ H Q h => by
  obtain ⟨Z, ρ, Fs, ok, h⟩ := h
  exact h v H Z [] (.atom (.refl ok.dom) (hr H Z))
theorem s_int {i j} : SE X cm W (.Constant (.int i) j pos) (eC (.int i)) := s_c pe_int fun _ _ => rep_int
theorem s_bl {b j} : SE X cm W (.Constant (.bool b) j pos) (eC (.bl b)) := s_c pe_bl fun _ _ => rep_bl
theorem s_non {j} : SE X cm W (.Constant .none j pos) (eC .non) := s_c pe_non fun _ _ => rep_non
theorem s_str {x j} : SE X cm W (.Constant (.str x) j pos) (eC (.str x)) := s_c pe_str fun _ _ => rep_str
/-- a module's int, text, class -/
theorem s_globI {x : Str} {i : Int} {t : Tok} (hg : Gl X x) (hm : X.mg x = some (.int i t)) (hd : (x == ("__debug__" : Str)) = false := by decide) : SE X cm W (.Name x pos) (eC (.int i)) := s_c (pe_glob (v := .int i) hg hm ⟨t, rfl⟩ hd) fun _ _ => rep_int
theorem s_globS {x : Str} {i : Str} {t : Tok} (hg : Gl X x) (hm : X.mg x = some (.str i t)) (hd : (x == ("__debug__" : Str)) = false := by decide) : SE X cm W (.Name x pos) (eC (.str i)) := s_c (pe_glob (v := .str i) hg hm ⟨t, rfl⟩ hd) fun _ _ => rep_str

/-! ### displays -/
def pLst (ds : List D) : Option D := if ds.length ≤ sizeLine then some (.nd (.lst .own) ds) else none
def pTup (ds : List D) : Option D := if ds.length ≤ sizeLine then some (.nd .tup ds) else none
theorem s_lst {es : List Expr} {fs : List (En → Ot D)} (ha : SA X cm W es (eL fs)) : SE X cm W (.List es pos) (ePr pLst fs) := PE.imp (pe_lst ha) fun σ H Q h =>
  pr_end (r := fun xs H1 Q => xs.length ≤ sizeLine ∧ ∀ p, H1 p = none → Q (.ref p) (upd H1 p (.lst xs))) (fun H Z ds vs Fs d dm rp nd nf e Q q => by
    unfold pLst at e
    split at e
    · rename_i hl
      cases e
      exact ⟨by rw [rp.len.1]; exact hl, fun p hp => q _ _ Z _ (.newL dm rp nd (fun x hx => .inr hx) nf hp)⟩
    · cases e) h
theorem s_tup {es : List Expr} {x1} {fs : List (En → Ot D)} (ha : SA X cm W es (eL fs)) : SE X cm W (.Tuple es x1 pos) (ePr pTup fs) := PE.imp (pe_tup ha) fun σ H Q h =>
  pr_end (r := fun xs H1 Q => xs.length ≤ sizeLine ∧ ∀ p, H1 p = none → Q (.ref p) (upd H1 p (.tup xs))) (fun H Z ds vs Fs d dm rp nd nf e Q q => by
    unfold pTup at e
    split at e
    · rename_i hl
      cases e
      exact ⟨by rw [rp.len.1]; exact hl, fun p hp => q _ _ Z _ (.newT dm rp nd (fun x hx => .inr hx) nf hp)⟩
    · cases e) h
/-- {} -/
theorem s_dict0 : SE X cm W (.Dict [] [] pos) (eC (.nd (.dct .own []) [])) := PE.imp pe_dnewK fun σ H Q h => by
  obtain ⟨Z, ρ, Fs, ok, h⟩ := h
  exact fun p hp => h _ _ Z _ (.newNd (k := .dct .own []) ok.dom repL_nil List.nodup_nil (fun _ z => nomatch z) (fun _ z => nomatch z) hp ⟨fun _ => upd_same, .inl upd_same, rfl, trivial⟩)

/-! ### and, or, not, if -/
def asB : D → Ot Bool
  | .bl b => .ok b
  | _ => .no
def eAnd (f g : En → Ot D) : En → Ot D := fun ρ => (f ρ).bind fun d => (asB d).bind fun b => if b then g ρ else .ok (.bl false)
def eOr (f g : En → Ot D) : En → Ot D := fun ρ => (f ρ).bind fun d => (asB d).bind fun b => if b then .ok (.bl true) else g ρ
def eNot (f : En → Ot D) : En → Ot D := fun ρ => (f ρ).bind fun d => (asB d).bind fun b => .ok (.bl (!b))
def eT (f : En → Ot D) : En → Ot Bool := fun ρ => (f ρ).bind asB
def bAnd (f g : En → Ot Bool) : En → Ot Bool := fun ρ => (f ρ).bind fun b => if b then g ρ else .ok false
def bOr (f g : En → Ot Bool) : En → Ot Bool := fun ρ => (f ρ).bind fun b => if b then .ok true else g ρ
def bNot (f : En → Ot Bool) : En → Ot Bool := fun ρ => (f ρ).bind fun b => .ok (!b)
def eIf (t : En → Ot Bool) (f g : En → Ot D) : En → Ot D := fun ρ => (t ρ).bind fun b => if b then f ρ else g ρ
theorem asB_ok {d : D} {b : Bool} (h : asB d = .ok b) : d = .bl b := by
  cases d <;> first | (cases h; done) | (cases h; rfl)
theorem asB_ex {d : D} {x : XD} : asB d ≠ .ex x := by cases d <;> exact fun h => nomatch h
/-- after f: a bool -/
theorem tP_asB {K : PySem.W.Frag} {f : En → Ot D} {k : Bool → Ot D} {σ : L2.St} {H : Hp} {Q : VK} {Z : Zn} {ρ : En} {Fs : List (List Addr)} (ok : OkP K cm H σ ρ Fs Z) {o : Ot D} (ho : o = (f ρ).bind fun d => (asB d).bind k)
    (h : FinD K cm W σ H Z Q o) {R : VK}
    (hk : ∀ b H1 Z1, Ext H Z H1 Z1 → k b = o → R (.bl b) H1) : tP K cm W f σ H R := by
  subst ho
  refine tP_bind ok (fun q => ?_) (fun d q v H1 Z1 F r => ?_) (fun x q => ?_)
  · rw [q] at h; exact h
  · rw [q, Ot.bind_ok] at h
    cases q2 : asB d with
    | no => rw [q2] at h; exact h.elim
    | ex x => exact absurd q2 asB_ex
    | ok b =>
      have e := asB_ok q2
      subst e
      obtain ⟨rfl, rfl⟩ := r.rep
      refine hk b H1 Z1 r.ext ?_
      rw [q, Ot.bind_ok, q2, Ot.bind_ok]
  · rw [q] at h; exact h
theorem s_one {op : BoolOp} (ha : SE X cm W a f) : SE X cm W (.BoolOp op [a] pos) f := pe_one ha
theorem tP_go {K : PySem.W.Frag} {f : En → Ot D} {σ : L2.St} {H H1 : Hp} {Q : VK} {Z Z1 : Zn} {ρ : En} {Fs : List (List Addr)} (ok : OkP K cm H σ ρ Fs Z) (ex : Ext H Z H1 Z1)
    (h : FinD K cm W σ H Z Q (f ρ)) : tP K cm W f σ H1 Q := by
  refine tP_bind (ok.ext ex) (fun q => ?_) (fun d q v H2 Z2 F r => ?_) (fun x q => ?_)
  · rw [q] at h; exact h
  · rw [q] at h; exact h v H2 Z2 F (r.trans0 ex)
  · rw [q] at h; exact fun cls dd H' Z' ex2 xr => h cls dd H' Z' (ex.trans ex2) xr
theorem s_and {rest : List Expr} (ha : SE X cm W a f) (hb : SE X cm W (.BoolOp .And (b :: rest) pos) g) : SE X cm W (.BoolOp .And (a :: b :: rest) pos) (eAnd f g) := PE.imp (pe_and ha hb) fun σ H Q h => by
  obtain ⟨Z, ρ, Fs, ok, h⟩ := h
  refine tP_asB ok (k := fun b => if b then g ρ else .ok (.bl false)) rfl h fun k H1 Z1 ex hk => ⟨k, rfl, ?_⟩
  cases k with
  | true =>
    show tP _ _ _ _ _ _ _
    have e : eAnd f g ρ = g ρ := hk.symm
    rw [e] at h
    exact tP_go ok ex h
  | false =>
    show Q (.bl false) H1
    have e : eAnd f g ρ = .ok (.bl false) := hk.symm
    rw [e] at h
    exact h _ H1 Z1 [] (.atom ex rep_bl)
theorem s_or {rest : List Expr} (ha : SE X cm W a f) (hb : SE X cm W (.BoolOp .Or (b :: rest) pos) g) : SE X cm W (.BoolOp .Or (a :: b :: rest) pos) (eOr f g) := PE.imp (pe_or ha hb) fun σ H Q h => by
  obtain ⟨Z, ρ, Fs, ok, h⟩ := h
  refine tP_asB ok (k := fun b => if b then .ok (.bl true) else g ρ) rfl h fun k H1 Z1 ex hk => ⟨k, rfl, ?_⟩
  cases k with
  | false =>
    show tP _ _ _ _ _ _ _
    have e : eOr f g ρ = g ρ := hk.symm
    rw [e] at h
    exact tP_go ok ex h
  | true =>
    show Q (.bl true) H1
    have e : eOr f g ρ = .ok (.bl true) := hk.symm
    rw [e] at h
    exact h _ H1 Z1 [] (.atom ex rep_bl)
theorem s_not (ha : SE X cm W a f) : SE X cm W (.UnaryOp .Not a pos) (eNot f) := PE.imp (pe_not ha) fun σ H Q h => by
  obtain ⟨Z, ρ, Fs, ok, h⟩ := h
  refine tP_asB ok (k := fun b => .ok (.bl (!b))) rfl h fun k H1 Z1 ex hk => ⟨k, rfl, ?_⟩
  have e : eNot f ρ = .ok (.bl (!k)) := hk.symm
  rw [e] at h
  exact h _ H1 Z1 [] (.atom ex rep_bl)

/-! ### tests -/
theorem tP_T {K : PySem.W.Frag} {f : En → Ot D} {σ : L2.St} {H : Hp} {Q : Bool → Hp → Prop} (h : tPT K cm W (eT f) σ H Q) : tP K cm W f σ H (fun x H1 => ∃ k, x = .bl k ∧ Q k H1) := by
  obtain ⟨Z, ρ, Fs, ok, h⟩ := h
  unfold eT at h
  refine tP_bind ok (fun q => ?_) (fun d q v H1 Z1 F r => ?_) (fun x q => ?_)
  · rw [q] at h; exact h
  · rw [q, Ot.bind_ok] at h
    cases q2 : asB d with
    | no => rw [q2] at h; exact h.elim
    | ex x => exact absurd q2 asB_ex
    | ok b =>
      rw [q2] at h
      have e := asB_ok q2
      subst e
      obtain ⟨rfl, rfl⟩ := r.rep
      exact ⟨b, rfl, h H1 Z1 r.ext⟩
  · rw [q] at h; exact h
/-- an expression whose value is a bool, as a test (no comparison, no and, or, not) -/
theorem st_val (ha : SE X cm W e f) (he : ∀ whole, isTrue e X.env whole = (do let v ← whole; standAt e.pos; holding [v] (truthy v)) := by intro _; rfl) : ST X cm W e (eT f) := PT.imp (pt_val ha he) fun σ H Q h => tP_T h
theorem st_cmp {op : CmpOp} {r : R2} {p : List D → Option D} (ho : OpR X (compareOp op) r) (hp : OkPr X.K cm (r2L r) p) (ha : SE X cm W a f) (hb : SE X cm W b g) (hm : behindInMarks op b = false) : ST X cm W (.Compare a [op] [b] pos) (eT (ePr p [f, g])) :=
  PT.imp (pt_cmpR ho ha hb hm) fun σ H Q h => two_of (R := fun x y H1 => r x y H1 fun z H2 => ∃ k, z = .bl k ∧ Q k H2) (pr_end (Q := fun z H2 => ∃ k, z = .bl k ∧ Q k H2) hp (tP_T h))
theorem tPT_go {K : PySem.W.Frag} {f : En → Ot Bool} {σ : L2.St} {H H1 : Hp} {Q : Bool → Hp → Prop} {Z Z1 : Zn} {ρ : En} {Fs : List (List Addr)} (ok : OkP K cm H σ ρ Fs Z) (ex : Ext H Z H1 Z1)
    (h : FinB K cm W σ H Z Q (f ρ)) : tPT K cm W f σ H1 Q := by
  refine ⟨Z1, ρ, Fs, ok.ext ex, ?_⟩
  cases q : f ρ with
  | no => rw [q] at h; exact h
  | ok b => rw [q] at h; exact fun H' Z' ex2 => h H' Z' (ex.trans ex2)
  | ex x => rw [q] at h; exact fun cls dd H' Z' ex2 xr => h cls dd H' Z' (ex.trans ex2) xr
theorem tPT_bind {K : PySem.W.Frag} {f : En → Ot Bool} {k : Bool → Ot Bool} {σ : L2.St} {H : Hp} {Q R : Bool → Hp → Prop} {Z : Zn} {ρ : En} {Fs : List (List Addr)} (ok : OkP K cm H σ ρ Fs Z)
    (h : FinB K cm W σ H Z Q ((f ρ).bind k))
    (hk : ∀ b H1 Z1, Ext H Z H1 Z1 → (f ρ).bind k = k b → R b H1) : tPT K cm W f σ H R := by
  refine ⟨Z, ρ, Fs, ok, ?_⟩
  cases q : f ρ with
  | no => rw [q] at h; exact h
  | ok b => exact fun H' Z' ex => hk b H' Z' ex (by rw [q]; rfl)
  | ex x => rw [q] at h; exact h
theorem sw_and1 {t : En → Ot Bool} (ha : ST X cm W a t) : SW X cm W (.BoolOp .And [a] pos) t := pw_and1 ha
theorem sw_or1 {t : En → Ot Bool} (ha : ST X cm W a t) : SW X cm W (.BoolOp .Or [a] pos) t := pw_or1 ha
theorem sw_and {t u : En → Ot Bool} {rest : List Expr} (ha : ST X cm W a t) (hb : SW X cm W (.BoolOp .And (b :: rest) pos) u) : SW X cm W (.BoolOp .And (a :: b :: rest) pos) (bAnd t u) := PW.imp (pw_and ha hb) fun σ H Q h => by
  obtain ⟨Z, ρ, Fs, ok, h⟩ := h
  refine tPT_bind ok (k := fun b => if b then u ρ else .ok false) h fun k H1 Z1 ex hk => ?_
  have h' := h
  unfold bAnd at h'
  rw [hk] at h'
  cases k with
  | true => exact tPT_go ok ex h'
  | false => exact h' H1 Z1 ex
theorem sw_or {t u : En → Ot Bool} {rest : List Expr} (ha : ST X cm W a t) (hb : SW X cm W (.BoolOp .Or (b :: rest) pos) u) : SW X cm W (.BoolOp .Or (a :: b :: rest) pos) (bOr t u) := PW.imp (pw_or ha hb) fun σ H Q h => by
  obtain ⟨Z, ρ, Fs, ok, h⟩ := h
  refine tPT_bind ok (k := fun b => if b then .ok true else u ρ) h fun k H1 Z1 ex hk => ?_
  have h' := h
  unfold bOr at h'
  rw [hk] at h'
  cases k with
  | false => exact tPT_go ok ex h'
  | true => exact h' H1 Z1 ex
theorem st_w {t : En → Ot Bool} (h : SW X cm W e t) : ST X cm W e t := h.pt
theorem st_not {t : En → Ot Bool} (ha : ST X cm W a t) : ST X cm W (.UnaryOp .Not a pos) (bNot t) := PT.imp (pt_not ha) fun σ H Q h => by
  obtain ⟨Z, ρ, Fs, ok, h⟩ := h
  refine tPT_bind ok (k := fun b => .ok (!b)) h fun k H1 Z1 ex hk => ?_
  have h' := h
  unfold bNot at h'
  rw [hk] at h'
  exact h' H1 Z1 ex
theorem s_ifExp {t : En → Ot Bool} (hc : ST X cm W c t) (ha : SE X cm W a f) (hb : SE X cm W b g) : SE X cm W (.IfExp c a b pos) (eIf t f g) := PE.imp (pe_ifExp hc ha hb) fun σ H Q h => by
  obtain ⟨Z, ρ, Fs, ok, h⟩ := h
  unfold eIf at h
  refine ⟨Z, ρ, Fs, ok, ?_⟩
  cases q : t ρ with
  | no => rw [q] at h; exact h
  | ex x => rw [q] at h; exact h
  | ok k =>
    rw [q, Ot.bind_ok] at h
    intro H1 Z1 ex
    cases k with
    | true => exact tP_go ok ex h
    | false => exact tP_go ok ex h

/-! ### chains a < b < c -/
def eChain (p p' : List D → Option D) (f g h : En → Ot D) : En → Ot D := fun ρ => (f ρ).bind fun x => (g ρ).bind fun y => (Ot.of (p [x, y])).bind fun z => (asB z).bind fun b => if b then (h ρ).bind fun w => .of (p' [y, w]) else .ok (.bl false)
/-- the middle one an atom -/
def isAt : D → Bool
  | .nd _ _ => false
  | _ => true
theorem chain_end {K : PySem.W.Frag} {r r' : R2} {p p' : List D → Option D} (hp : OkPr K cm (r2L r) p) (hp' : OkPr K cm (r2L r') p') (hy : ∀ x y z, p [x, y] = some z → isAt y = true) {σ : L2.St} {H : Hp} {Q : VK} (q0 : tP K cm W (eChain p p' f g h) σ H Q) :
    tChain r r' (tP K cm W f) (tP K cm W g) (tP K cm W h) σ H Q := by
  obtain ⟨Z, ρ, Fs, ok, q0⟩ := q0
  unfold eChain at q0
  refine tP_bind ok (fun q => ?_) (fun x q v H1 Z1 F r1 => ?_) (fun x q => ?_)
  · rw [q] at q0; exact q0
  · rw [q, Ot.bind_ok] at q0
    have ok1 := ok.ext r1.ext
    refine tP_bind ok1 (fun q => ?_) (fun y q u H2 Z2 G r2 => ?_) (fun x q => ?_)
    · rw [q] at q0; exact q0
    · rw [q, Ot.bind_ok] at q0
      have ok2 := ok1.ext r2.ext
      cases e : p [x, y] with
      | none => rw [e] at q0; exact q0.elim
      | some z =>
        rw [e, Ot.of_some, Ot.bind_ok] at q0
        have hat := hy x y z e
        have rl := ResL.cons r1 (ResL.cons r2 (.nil ok2.dom))
        have two : ∀ v u R (r0 : R2), r2L r0 [v, u] H2 R → r0 v u H2 R := fun v u R r0 ⟨_, _, e, k⟩ => by cases e; exact k
        refine two v u _ r (hp H2 Z2 [x, y] [v, u] _ z ok2.dom rl.rep rl.nd rl.nf e _ fun z' H3 Z3 F3 r3 => ?_)
        cases e2 : asB z with
        | no => rw [e2] at q0; exact q0.elim
        | ex x => exact absurd e2 asB_ex
        | ok k =>
          rw [e2, Ot.bind_ok] at q0
          have e3 := asB_ok e2
          subst e3
          obtain ⟨rfl, rfl⟩ := r3.rep
          have ex3 : Ext H Z H3 Z3 := r1.ext.trans (r2.ext.trans r3.ext)
          refine ⟨k, rfl, ?_⟩
          cases k with
          | false => exact q0 _ H3 Z3 [] (.atom ex3 rep_bl)
          | true =>
            show tP _ _ _ _ _ _ _
            have q0 : FinD K cm W σ H Z Q ((h ρ).bind fun w => Ot.of (p' [y, w])) := q0
            refine tP_bind (ok.ext ex3) (fun q => ?_) (fun w q t H4 Z4 F4 r4 => ?_) (fun x q => ?_)
            · rw [q] at q0; exact q0
            · rw [q, Ot.bind_ok] at q0
              cases e5 : p' [y, w] with
              | none => rw [e5] at q0; exact q0.elim
              | some d =>
                rw [e5] at q0
                have dm4 := (ok.ext ex3).dom.ext r4.ext
                have ry : Rep K cm H4 Z4 y u [] := by
                  cases y with
                  | nd k ds => cases hat
                  | non => exact ⟨r2.rep.1, rfl⟩
                  | bl b => exact ⟨r2.rep.1, rfl⟩
                  | int i => exact ⟨r2.rep.1, rfl⟩
                  | str s => exact ⟨r2.rep.1, rfl⟩
                have key := hp' H4 Z4 [y, w] [u, t] [[], F4] d dm4 (repL_cons ry (repL_cons r4.rep repL_nil)) (by simpa using r4.nd) (by simpa using r4.nf) e5 Q fun v5 H5 Z5 F5 r5 =>
                  q0 v5 H5 Z5 F5 (r5.trans (ex3.trans r4.ext) fun a ha => .inl (ex3.gr.back (r4.new a (by simpa using ha))))
                obtain ⟨_, _, e6, k6⟩ := key
                cases e6
                exact k6
            · rw [q] at q0; exact fun cls dd H' Z' ex xr => q0 cls dd H' Z' (ex3.trans ex) xr
    · rw [q] at q0; exact fun cls dd H' Z' ex xr => q0 cls dd H' Z' (r1.ext.trans ex) xr
  · rw [q] at q0; exact q0
theorem s_chain {op op' : CmpOp} {r r' : R2} {p p' : List D → Option D} (ho : OpR X (compareOp op) r) (ho' : OpR X (compareOp op') r') (hp : OkPr X.K cm (r2L r) p) (hp' : OkPr X.K cm (r2L r') p') (ha : SE X cm W a f) (hb : SE X cm W b g) (hc : SE X cm W c h)
    (hy : ∀ x y z, p [x, y] = some z → isAt y = true) (hm : lastMarks [op, op'] [b, c] = false := by rfl) : SE X cm W (.Compare a [op, op'] [b, c] pos) (eChain p p' f g h) :=
  PE.imp (pe_chain ho ho' ha hb hc hm) fun σ H Q q0 => chain_end hp hp' hy q0
theorem st_chain {op op' : CmpOp} {r r' : R2} {p p' : List D → Option D} (ho : OpR X (compareOp op) r) (ho' : OpR X (compareOp op') r') (hp : OkPr X.K cm (r2L r) p) (hp' : OkPr X.K cm (r2L r') p') (ha : SE X cm W a f) (hb : SE X cm W b g) (hc : SE X cm W c h)
    (hy : ∀ x y z, p [x, y] = some z → isAt y = true) (hm : lastMarks [op, op'] [b, c] = false := by rfl) : ST X cm W (.Compare a [op, op'] [b, c] pos) (eT (eChain p p' f g h)) :=
  PT.imp (pt_chain ho ho' ha hb hc hm) fun σ H Q q0 => chain_end hp hp' hy (tP_T q0)
end
end OB

namespace OB
open PySem PySem.Spec PyProof.Rows L2

/-! ### atoms -/
def toV : D → V
  | .non => .non
  | .bl b => .bl b
  | .int i => .int i
  | .str s => .str s
  | .nd _ _ => .non
def eqA : D → D → Bool
  | .non, .non => true
  | .bl a, .bl b => a == b
  | .bl a, .int b => (if a then 1 else 0) == b
  | .int a, .bl b => a == (if b then 1 else 0)
  | .int a, .int b => a == b
  | .str a, .str b => a == b
  | _, _ => false
section
variable {K : PySem.W.Frag} {cm : Cm} {H : Hp} {Z : Zn}
theorem rep_at {d : D} {v : V} {F : List Addr} (h : Rep K cm H Z d v F) (a : isAt d = true) : v = toV d ∧ F = [] ∧ flatV v = true := by
  cases d with
  | nd k ds => cases a
  | non => obtain ⟨rfl, rfl⟩ := h; exact ⟨rfl, rfl, rfl⟩
  | bl b => obtain ⟨rfl, rfl⟩ := h; exact ⟨rfl, rfl, rfl⟩
  | int i => obtain ⟨rfl, rfl⟩ := h; exact ⟨rfl, rfl, rfl⟩
  | str s => obtain ⟨rfl, rfl⟩ := h; exact ⟨rfl, rfl, rfl⟩
theorem eqV_toV {x y : D} (hx : isAt x = true) (hy : isAt y = true) : eqV (toV x) (toV y) = eqA x y := by
  cases x <;> first | (cases hx; done) | (cases y <;> first | (cases hy; done) | rfl)
theorem repL_at : ∀ {ds : List D} {vs : List V} {Fs : List (List Addr)}, RepL K cm H Z ds vs Fs → ds.all isAt = true → vs = ds.map toV ∧ vs.all flatV = true
  | [], _, _, h, _ => by obtain ⟨rfl, rfl⟩ := h; exact ⟨rfl, rfl⟩
  | d :: ds, _, _, h, a => by
    obtain ⟨v, vs', F, Fs', rfl, rfl, h1, h2⟩ := h
    rw [List.all_cons, Bool.and_eq_true] at a
    obtain ⟨e1, e2⟩ := repL_at h2 a.2
    obtain ⟨e3, _, e4⟩ := rep_at h1 a.1
    subst e1 e3
    exact ⟨rfl, by rw [List.all_cons, e4, e2]; rfl⟩
theorem any_toV {x : D} (hx : isAt x = true) : ∀ {ds : List D}, ds.all isAt = true → (ds.map toV).any (fun y => eqV y (toV x)) = ds.any fun y => eqA y x
  | [], _ => rfl
  | d :: ds, a => by
    rw [List.all_cons, Bool.and_eq_true] at a
    rw [List.map_cons, List.any_cons, List.any_cons, any_toV hx a.2, eqV_toV a.1 hx]
/-! lists of one kind -/
def intsD : List D → Option (List Int)
  | [] => some []
  | .int i :: ds => (intsD ds).map (i :: ·)
  | _ => none
def strsD : List D → Option (List Str)
  | [] => some []
  | .str s :: ds => (strsD ds).map (s :: ·)
  | _ => none
def blsD : List D → Option (List Bool)
  | [] => some []
  | .bl b :: ds => (blsD ds).map (b :: ·)
  | _ => none
theorem intsD_eq : ∀ {ds : List D} {ns : List Int}, intsD ds = some ns → ds = ns.map .int
  | [], _, h => by cases h; rfl
  | d :: ds, ns, h => by
    cases d with
    | int i =>
      unfold intsD at h
      cases q : intsD ds with
      | none => rw [q] at h; cases h
      | some ms => rw [q] at h; cases h; rw [intsD_eq q]; rfl
    | _ => cases h
theorem strsD_eq : ∀ {ds : List D} {ns : List Str}, strsD ds = some ns → ds = ns.map .str
  | [], _, h => by cases h; rfl
  | d :: ds, ns, h => by
    cases d with
    | str i =>
      unfold strsD at h
      cases q : strsD ds with
      | none => rw [q] at h; cases h
      | some ms => rw [q] at h; cases h; rw [strsD_eq q]; rfl
    | _ => cases h
theorem blsD_eq : ∀ {ds : List D} {ns : List Bool}, blsD ds = some ns → ds = ns.map .bl
  | [], _, h => by cases h; rfl
  | d :: ds, ns, h => by
    cases d with
    | bl i =>
      unfold blsD at h
      cases q : blsD ds with
      | none => rw [q] at h; cases h
      | some ms => rw [q] at h; cases h; rw [blsD_eq q]; rfl
    | _ => cases h
theorem repL_map {α : Type} {g : α → D} {g' : α → V} (hr : ∀ x, isAt (g x) = true ∧ toV (g x) = g' x) : ∀ {ns : List α} {vs : List V} {Fs : List (List Addr)}, RepL K cm H Z (ns.map g) vs Fs → vs = ns.map g'
  | [], _, _, h => h.1
  | n :: ns, _, _, h => by
    obtain ⟨v, vs', F, Fs', rfl, rfl, h1, h2⟩ := h
    obtain ⟨e, _⟩ := rep_at h1 (hr n).1
    rw [List.map_cons, ← (hr n).2, e, repL_map hr h2]
theorem repL_ints {ns : List Int} {vs : List V} {Fs : List (List Addr)} (h : RepL K cm H Z (ns.map .int) vs Fs) : vs = ns.map .int := repL_map (g' := .int) (fun _ => ⟨rfl, rfl⟩) h
theorem repL_strS {ns : List Str} {vs : List V} {Fs : List (List Addr)} (h : RepL K cm H Z (ns.map .str) vs Fs) : vs = ns.map .str := repL_map (g' := .str) (fun _ => ⟨rfl, rfl⟩) h
theorem repL_bls {ns : List Bool} {vs : List V} {Fs : List (List Addr)} (h : RepL K cm H Z (ns.map .bl) vs Fs) : vs = ns.map .bl := repL_map (g' := .bl) (fun _ => ⟨rfl, rfl⟩) h
/-- a list of atoms is made -/
theorem repL_mk {α : Type} {g : α → D} {g' : α → V} (hr : ∀ x, Rep K cm H Z (g x) (g' x) []) : ∀ ns : List α, RepL K cm H Z (ns.map g) (ns.map g') (List.replicate ns.length [])
  | [] => repL_nil
  | n :: ns => repL_cons (hr n) (repL_mk hr ns)
end

/-! ### comparisons -/
def pLt : List D → Option D
  | [.int i, .int j] => some (.bl (decide (i < j)))
  | _ => none
def pLe : List D → Option D
  | [.int i, .int j] => some (.bl (decide (i ≤ j)))
  | _ => none
def pGt : List D → Option D
  | [.int i, .int j] => some (.bl (decide (j < i)))
  | _ => none
def pGe : List D → Option D
  | [.int i, .int j] => some (.bl (decide (j ≤ i)))
  | _ => none
/-- == of atoms -/
def atEq : D → D → Option Bool
  | .int i, .int j => some (i == j)
  | .str a, .str b => some (a == b)
  | .bl a, .bl b => some (a == b)
  | .non, .non => some true
  | .int _, .str _ => some false
  | .str _, .int _ => some false
  | .non, .int _ => some false
  | .int _, .non => some false
  | .non, .str _ => some false
  | .str _, .non => some false
  | .bl _, .str _ => some false
  | .str _, .bl _ => some false
  | .bl _, .non => some false
  | .non, .bl _ => some false
  | _, _ => none
mutual
def toPy : D → Option PyData
  | .non => some .none
  | .bl b => some (.bool b)
  | .int i => some (.int i)
  | .str s => some (.str s)
  | .nd (.lst _) ds => (toPyL ds).map .list
  | .nd .tup ds => (toPyL ds).map .tuple
  | .nd _ _ => none
def toPyL : List D → Option (List PyData)
  | [] => some []
  | d :: ds => (toPy d).bind fun e => (toPyL ds).map (e :: ·)
end
def deepEq (x y : D) : Option Bool := (toPy x).bind fun a => (toPy y).bind fun b => if SeqAt.shaped a && SeqAt.shaped b then some (PyData.eqv a b) else none
def pEq : List D → Option D
  | [x, y] => ((atEq x y).or (deepEq x y)).map .bl
  | _ => none
def pNe : List D → Option D
  | [x, y] => ((atEq x y).or (deepEq x y)).map fun b => .bl (!b)
  | _ => none
def rEqQ (K : PySem.W.Frag) : R2 := fun x y H Q => rEq x y H Q ∨ rEqD K x y H Q
def rNeQ (K : PySem.W.Frag) : R2 := fun x y H Q => rNe x y H Q ∨ rNeD K x y H Q
theorem op_eqQ {X : Cx} (hu : X.A.units + 64 < cLine) : OpR X (compareOp .Eq) (rEqQ X.K) := op_eq.or (op_eqD hu)
theorem op_neQ {X : Cx} (hu : X.A.units + 64 < cLine) : OpR X (compareOp .NotEq) (rNeQ X.K) := op_ne.or (op_neD hu)
section
variable {K : PySem.W.Frag} {cm : Cm}
theorem ok_cmpI {g : Int → Int → Bool} {p : List D → Option D} (hp : ∀ ds d, p ds = some d → ∃ i j, ds = [.int i, .int j] ∧ d = .bl (g i j)) : OkPr K cm (r2L (rI0 fun i j => .bl (g i j))) p := by
  intro H Z ds vs Fs d dm rp nd nf e Q q
  obtain ⟨i, j, rfl, rfl⟩ := hp _ _ e
  obtain ⟨v, u, F, G, rfl, rfl, ⟨rfl, rfl⟩, ⟨rfl, rfl⟩⟩ := repL2 rp
  exact ⟨_, _, rfl, _, _, rfl, rfl, q _ H Z [] (.atom (.refl dm) rep_bl)⟩
theorem ok_lt : OkPr K cm (r2L (rI0 fun i j => .bl (decide (i < j)))) pLt := ok_cmpI fun ds d e => by
  unfold pLt at e
  split at e
  · cases e; exact ⟨_, _, rfl, rfl⟩
  · cases e
theorem ok_le : OkPr K cm (r2L (rI0 fun i j => .bl (decide (i ≤ j)))) pLe := ok_cmpI fun ds d e => by
  unfold pLe at e
  split at e
  · cases e; exact ⟨_, _, rfl, rfl⟩
  · cases e
theorem ok_gt : OkPr K cm (r2L (rI0 fun i j => .bl (decide (j < i)))) pGt := ok_cmpI (g := fun i j => decide (j < i)) fun ds d e => by
  unfold pGt at e
  split at e
  · cases e; exact ⟨_, _, rfl, rfl⟩
  · cases e
theorem ok_ge : OkPr K cm (r2L (rI0 fun i j => .bl (decide (j ≤ i)))) pGe := ok_cmpI (g := fun i j => decide (j ≤ i)) fun ds d e => by
  unfold pGe at e
  split at e
  · cases e; exact ⟨_, _, rfl, rfl⟩
  · cases e
theorem mid_lt {x y z : D} (h : pLt [x, y] = some z) : isAt y = true := by
  unfold pLt at h; split at h
  · rename_i e; cases e; rfl
  · cases h
theorem mid_le {x y z : D} (h : pLe [x, y] = some z) : isAt y = true := by
  unfold pLe at h; split at h
  · rename_i e; cases e; rfl
  · cases h
mutual
theorem dp_of {H : Hp} {Z : Zn} : ∀ (d : D) {v : V} {F : List Addr} {e : PyData}, Rep K cm H Z d v F → toPy d = some e → Dp K H v e
  | .non, _, _, _, h, q => by cases q; rw [h.1]; exact .non
  | .bl b, _, _, _, h, q => by cases q; rw [h.1]; exact .bl b
  | .int b, _, _, _, h, q => by cases q; rw [h.1]; exact .int b
  | .str b, _, _, _, h, q => by cases q; rw [h.1]; exact .str b
  | .nd (.lst f) ds, _, _, _, h, q => by
    obtain ⟨a, vs, Fs, rfl, hc, hl, rfl⟩ := h
    unfold toPy at q
    cases q2 : toPyL ds with
    | none => rw [q2] at q; cases q
    | some es => rw [q2] at q; cases q; exact .lst (rdL hc.2.1) (dps_of ds hl q2)
  | .nd .tup ds, _, _, _, h, q => by
    obtain ⟨a, vs, Fs, rfl, hc, hl, rfl⟩ := h
    unfold toPy at q
    cases q2 : toPyL ds with
    | none => rw [q2] at q; cases q
    | some es => rw [q2] at q; cases q; exact .tup hc (dps_of ds hl q2)
  | .nd (.dct _ _) ds, _, _, _, h, q => by cases q
  | .nd (.obj _ _ _) ds, _, _, _, h, q => by cases q
  | .nd (.exc _ _ _) ds, _, _, _, h, q => by cases q
  | .nd (.adr _ _) ds, _, _, _, h, q => by cases q
theorem dps_of {H : Hp} {Z : Zn} : ∀ (ds : List D) {vs : List V} {Fs : List (List Addr)} {es : List PyData}, RepL K cm H Z ds vs Fs → toPyL ds = some es → DpAll K H vs es
  | [], _, _, _, h, q => by cases q; rw [h.1]; exact .nil
  | d :: ds, _, _, es, h, q => by
    obtain ⟨v, vs', F, Fs', rfl, rfl, h1, h2⟩ := h
    unfold toPyL at q
    cases q1 : toPy d with
    | none => rw [q1] at q; cases q
    | some e =>
      rw [q1] at q
      cases q2 : toPyL ds with
      | none => simp [q2] at q
      | some es' =>
        simp [q2] at q
        subst q
        exact .cons (dp_of d h1 q1) (dps_of ds h2 q2)
end
theorem atEq_ok {H : Hp} {Z : Zn} {x y : D} {v u : V} {F G : List Addr} {b : Bool} (h1 : Rep K cm H Z x v F) (h2 : Rep K cm H Z y u G) (e : atEq x y = some b) : scal v u = true ∧ decide (v = u) = b := by
  unfold atEq at e
  split at e <;> first | (cases e; done) | (cases e; obtain ⟨rfl, rfl⟩ := h1; obtain ⟨rfl, rfl⟩ := h2; first | exact ⟨rfl, dec_int⟩ | exact ⟨rfl, dec_str⟩ | exact ⟨rfl, dec_bl⟩ | exact ⟨rfl, by decide⟩ | exact ⟨rfl, by simp⟩)
theorem ok_eq : OkPr K cm (r2L (rEqQ K)) pEq := by
  intro H Z ds vs Fs d dm rp nd nf e Q q
  unfold pEq at e
  split at e
  · rename_i x y
    obtain ⟨v, u, F, G, rfl, rfl, h1, h2⟩ := repL2 rp
    refine ⟨v, u, rfl, ?_⟩
    cases q1 : atEq x y with
    | some b =>
      obtain ⟨a, c⟩ := atEq_ok h1 h2 q1
      refine .inl ⟨a, ?_⟩
      rw [q1] at e
      cases e
      rw [c]
      exact q _ H Z [] (.atom (.refl dm) rep_bl)
    | none =>
      rw [q1] at e
      have e' : (deepEq x y).map D.bl = some d := e
      unfold deepEq at e'
      cases q2 : toPy x with
      | none => rw [q2] at e'; cases e'
      | some a =>
        cases q3 : toPy y with
        | none => rw [q2, q3] at e'; cases e'
        | some b =>
          rw [q2, q3] at e'
          have e2 : (if SeqAt.shaped a && SeqAt.shaped b then some (PyData.eqv a b) else none).map D.bl = some d := e'
          split at e2
          · rename_i sh
            rw [Bool.and_eq_true] at sh
            cases e2
            exact .inr ⟨a, b, dp_of x h1 q2, dp_of y h2 q3, sh.1, sh.2, q _ H Z [] (.atom (.refl dm) rep_bl)⟩
          · cases e2
  · cases e
theorem ok_ne : OkPr K cm (r2L (rNeQ K)) pNe := by
  intro H Z ds vs Fs d dm rp nd nf e Q q
  unfold pNe at e
  split at e
  · rename_i x y
    obtain ⟨v, u, F, G, rfl, rfl, h1, h2⟩ := repL2 rp
    refine ⟨v, u, rfl, ?_⟩
    cases q1 : atEq x y with
    | some b =>
      obtain ⟨a, c⟩ := atEq_ok h1 h2 q1
      refine .inl ⟨a, ?_⟩
      rw [q1] at e
      cases e
      rw [c]
      exact q _ H Z [] (.atom (.refl dm) rep_bl)
    | none =>
      rw [q1] at e
      have e' : (deepEq x y).map (fun b => D.bl (!b)) = some d := e
      unfold deepEq at e'
      cases q2 : toPy x with
      | none => rw [q2] at e'; cases e'
      | some a =>
        cases q3 : toPy y with
        | none => rw [q2, q3] at e'; cases e'
        | some b =>
          rw [q2, q3] at e'
          have e2 : (if SeqAt.shaped a && SeqAt.shaped b then some (PyData.eqv a b) else none).map (fun b => D.bl (!b)) = some d := e'
          split at e2
          · rename_i sh
            rw [Bool.and_eq_true] at sh
            cases e2
            exact .inr ⟨a, b, dp_of x h1 q2, dp_of y h2 q3, sh.1, sh.2, q _ H Z [] (.atom (.refl dm) rep_bl)⟩
          · cases e2
  · cases e
end

/-! ### is None, is True -/
def isNon : D → Bool
  | .non => true
  | _ => false
def pIs : List D → Option D
  | [x, .non] => some (.bl (isNon x))
  | [.bl a, .bl b] => some (.bl (decide (a = b)))
  | _ => none
def pIsN : List D → Option D
  | [x, .non] => some (.bl (!isNon x))
  | [.bl a, .bl b] => some (.bl (!decide (a = b)))
  | _ => none
def rIsQ : R2 := fun x y H Q => (y = .non ∧ Q (.bl (decide (x = .non))) H) ∨ rIsB x y H Q
def rIsNQ : R2 := fun x y H Q => (y = .non ∧ Q (.bl (!decide (x = .non))) H) ∨ rNotB x y H Q
theorem op_isQ {X : Cx} : OpR X (compareOp .Is) rIsQ := op_isN.or op_isBl
theorem op_isNQ {X : Cx} : OpR X (compareOp .IsNot) rIsNQ := op_notN.or op_notBl
section
variable {K : PySem.W.Frag} {cm : Cm}
theorem isNon_ok {H : Hp} {Z : Zn} {x : D} {v : V} {F : List Addr} (h : Rep K cm H Z x v F) : decide (v = .non) = isNon x := by
  cases x with
  | nd k ds => obtain ⟨a, vs, Fs, rfl, _⟩ := h; simp [isNon]
  | _ => obtain ⟨rfl, rfl⟩ := h; simp [isNon]
theorem ok_is : OkPr K cm (r2L rIsQ) pIs := by
  intro H Z ds vs Fs d dm rp nd nf e Q q
  unfold pIs at e
  split at e
  · cases e
    obtain ⟨v, u, F, G, rfl, rfl, h1, ⟨rfl, rfl⟩⟩ := repL2 rp
    refine ⟨v, _, rfl, .inl ⟨rfl, ?_⟩⟩
    rw [isNon_ok h1]
    exact q _ H Z [] (.atom (.refl dm) rep_bl)
  · cases e
    obtain ⟨v, u, F, G, rfl, rfl, ⟨rfl, rfl⟩, ⟨rfl, rfl⟩⟩ := repL2 rp
    exact ⟨_, _, rfl, .inr ⟨_, _, rfl, rfl, q _ H Z [] (.atom (.refl dm) rep_bl)⟩⟩
  · cases e
theorem ok_isN : OkPr K cm (r2L rIsNQ) pIsN := by
  intro H Z ds vs Fs d dm rp nd nf e Q q
  unfold pIsN at e
  split at e
  · cases e
    obtain ⟨v, u, F, G, rfl, rfl, h1, ⟨rfl, rfl⟩⟩ := repL2 rp
    refine ⟨v, _, rfl, .inl ⟨rfl, ?_⟩⟩
    rw [isNon_ok h1]
    exact q _ H Z [] (.atom (.refl dm) rep_bl)
  · cases e
    obtain ⟨v, u, F, G, rfl, rfl, ⟨rfl, rfl⟩, ⟨rfl, rfl⟩⟩ := repL2 rp
    exact ⟨_, _, rfl, .inr ⟨_, _, rfl, rfl, q _ H Z [] (.atom (.refl dm) rep_bl)⟩⟩
  · cases e
end
end OB

namespace OB
open PySem PySem.Spec PyProof.Rows L2

/-! ### keys -/
theorem DGet.rk {H : Hp} {a : Addr} {kvs : List (Key × V)} {k : Key} (e : Rd H a (.dK kvs)) : DGet H a (kV k) (valV kvs k) := .inl ⟨kvs, k, e, rfl, rfl⟩
def keyD : D → Option Key
  | .int i => some (.inl i)
  | .str s => some (.inr s)
  | _ => none
/-- what a dict holds under a key -/
def look {α : Type} : List Key → List α → Key → Option α
  | k :: ks, d :: ds, q => if k = q then some d else look ks ds q
  | _, _, _ => none
section
variable {K : PySem.W.Frag} {cm : Cm} {H : Hp} {Z : Zn}
theorem key_ok {d : D} {k : Key} {v : V} {F : List Addr} (h : Rep K cm H Z d v F) (e : keyD d = some k) : v = kV k := by
  cases d with
  | int i => cases e; exact h.1
  | str i => cases e; exact h.1
  | _ => cases e
theorem look_valV : ∀ {ks : List Key} {vs : List V}, ks.length = vs.length → ∀ k, valV (ks.zip vs) k = look ks vs k
  | [], [], _, _ => rfl
  | q :: ks, v :: vs, l, k => by
    have ih := look_valV (ks := ks) (vs := vs) (by simpa using l) k
    unfold valV at ih ⊢
    rw [List.zip_cons_cons, List.find?_cons]
    unfold look
    by_cases e : q = k
    · simp [e]
    · simp [e, ih]
theorem look_rep : ∀ {ks : List Key} {ds : List D} {vs : List V} {Fs : List (List Addr)}, RepL K cm H Z ds vs Fs → ∀ k, (look ks vs k).isSome = (look ks ds k).isSome ∧ ∀ d, look ks ds k = some d → ∃ (v : V) (F : List Addr) (i : Nat), look ks vs k = some v ∧ Fs[i]? = some F ∧ ds[i]? = some d ∧ Rep K cm H Z d v F
  | [], ds, vs, Fs, _, _ => by
    refine ⟨by cases ds <;> cases vs <;> rfl, fun d e => ?_⟩
    cases ds <;> cases e
  | q :: ks, [], vs, Fs, h, _ => by
    obtain ⟨rfl, rfl⟩ := h
    exact ⟨rfl, fun d e => nomatch e⟩
  | q :: ks, d0 :: ds, _, _, h, k => by
    obtain ⟨v, vs', F, Fs', rfl, rfl, h1, h2⟩ := h
    unfold look
    by_cases e : q = k
    · rw [if_pos e, if_pos e]
      exact ⟨rfl, fun d e2 => by cases e2; exact ⟨v, F, 0, rfl, rfl, rfl, h1⟩⟩
    · rw [if_neg e, if_neg e]
      obtain ⟨a, b⟩ := look_rep (ks := ks) h2 k
      refine ⟨a, fun d e2 => ?_⟩
      obtain ⟨v2, F2, i, c1, c2, c3, c4⟩ := b d e2
      exact ⟨v2, F2, i + 1, c1, by simpa using c2, by simpa using c3, c4⟩
end

/-! ### in -/
def inV? : List D → Option Bool
  | [x, .nd (.lst _) ds] => if isAt x && ds.all isAt then some (ds.any fun y => eqA y x) else none
  | [x, .nd .tup ds] => if isAt x && ds.all isAt then some (ds.any fun y => eqA y x) else none
  | [.str s, .str z] => match s.cps.toList with
    | [c] => some (decide (c ∈ z.cps.toList))
    | _ => none
  | [x, .nd (.dct _ ks) ds] => (keyD x).map fun k => (look ks ds k).isSome
  | _ => none
def pIn (ds : List D) : Option D := (inV? ds).map .bl
def pNotIn (ds : List D) : Option D := (inV? ds).map fun b => .bl (!b)
def rDIn : R2 := fun x y H Q => ∃ a o, y = .ref a ∧ DGet H a x o ∧ Q (.bl o.isSome) H
def rDNotIn : R2 := fun x y H Q => ∃ a o, y = .ref a ∧ DGet H a x o ∧ Q (.bl (!o.isSome)) H
section
variable {X : Cx}
theorem op_din (hu : X.A.units + 1 < cLine) : OpR X (compareOp .In) rDIn := by
  intro pins s σ H x y v u Q I rx ry h
  obtain ⟨a, o, rfl, g, q⟩ := h
  cases ry
  exact d_in hu I g rx fun s' I' => ⟨.bl o.isSome, H, I', rfl, q⟩
theorem op_dnotIn (hu : X.A.units + 1 < cLine) : OpR X (compareOp .NotIn) rDNotIn := by
  intro pins s σ H x y v u Q I rx ry h
  obtain ⟨a, o, rfl, g, q⟩ := h
  cases ry
  exact d_notIn hu I g rx fun s' I' => ⟨.bl (!o.isSome), H, I', rfl, q⟩
end
def rIn3 (K : PySem.W.Frag) : R2 := fun x y H Q => rIn K false x y H Q ∨ (∃ (c : Nat) (z : Str), x = .str ⟨#[c]⟩ ∧ y = .str z ∧ Q (.bl (decide (c ∈ z.cps.toList))) H) ∨ rDIn x y H Q
def rNotIn3 (K : PySem.W.Frag) : R2 := fun x y H Q => rIn K true x y H Q ∨ (∃ (c : Nat) (z : Str), x = .str ⟨#[c]⟩ ∧ y = .str z ∧ Q (.bl (!decide (c ∈ z.cps.toList))) H) ∨ rDNotIn x y H Q
theorem op_in3 {X : Cx} (hu : X.A.units + 1 < cLine) : OpR X (compareOp .In) (rIn3 X.K) := op_in_seq.or (op_in_sign.or (op_din hu))
theorem op_notIn3 {X : Cx} (hu : X.A.units + 1 < cLine) : OpR X (compareOp .NotIn) (rNotIn3 X.K) := op_notIn_seq.or (op_notIn_sign.or (op_dnotIn hu))
section
variable {K : PySem.W.Frag} {cm : Cm}
/-- what in comes to, on values -/
theorem inV_ok {H : Hp} {Z : Zn} {ds : List D} {vs : List V} {Fs : List (List Addr)} {b : Bool} (rp : RepL K cm H Z ds vs Fs) (e : inV? ds = some b) :
    ∃ x y, vs = [x, y] ∧ ((∃ p xs, y = .ref p ∧ (SqL K H p xs ∨ SqT K H p xs) ∧ flatV x = true ∧ xs.all flatV = true ∧ inV x xs = b) ∨
      (∃ (c : Nat) (z : Str), x = .str ⟨#[c]⟩ ∧ y = .str z ∧ decide (c ∈ z.cps.toList) = b) ∨ ∃ a o, y = .ref a ∧ DGet H a x o ∧ o.isSome = b) := by
  unfold inV? at e
  split at e
  · rename_i x f ds'
    split at e
    · rename_i ha
      rw [Bool.and_eq_true] at ha
      cases e
      obtain ⟨v, u, F, G, rfl, rfl, h1, a, us, Gs, rfl, hc, hl, rfl⟩ := repL2 rp
      obtain ⟨e1, _, f1⟩ := rep_at h1 ha.1
      obtain ⟨e2, f2⟩ := repL_at hl ha.2
      refine ⟨v, _, rfl, .inl ⟨a, us, rfl, .inl (rdL hc.2.1), f1, f2, ?_⟩⟩
      subst e1 e2
      exact any_toV ha.1 ha.2
    · cases e
  · rename_i x ds'
    split at e
    · rename_i ha
      rw [Bool.and_eq_true] at ha
      cases e
      obtain ⟨v, u, F, G, rfl, rfl, h1, a, us, Gs, rfl, hc, hl, rfl⟩ := repL2 rp
      obtain ⟨e1, _, f1⟩ := rep_at h1 ha.1
      obtain ⟨e2, f2⟩ := repL_at hl ha.2
      refine ⟨v, _, rfl, .inl ⟨a, us, rfl, .inr hc, f1, f2, ?_⟩⟩
      subst e1 e2
      exact any_toV ha.1 ha.2
    · cases e
  · rename_i s z
    split at e
    · rename_i c hs
      cases e
      obtain ⟨v, u, F, G, rfl, rfl, ⟨rfl, rfl⟩, ⟨rfl, rfl⟩⟩ := repL2 rp
      have es : s = ⟨#[c]⟩ := by
        obtain ⟨a⟩ := s
        have : a = #[c] := Array.ext' (by simpa using hs)
        rw [this]
      exact ⟨_, _, rfl, .inr (.inl ⟨c, z, by rw [es], rfl, rfl⟩)⟩
    · cases e
  · rename_i x f ks ds'
    cases q : keyD x with
    | none => rw [q] at e; cases e
    | some k =>
      rw [q] at e
      cases e
      obtain ⟨v, u, F, G, rfl, rfl, h1, a, us, Gs, rfl, hc, hl, rfl⟩ := repL2 rp
      have ek := key_ok h1 q
      subst ek
      refine ⟨_, _, rfl, .inr (.inr ⟨a, _, rfl, DGet.rk hc.2.1, ?_⟩)⟩
      rw [look_valV hc.2.2.1]
      exact (look_rep hl k).1
  · cases e
theorem ok_in : OkPr K cm (r2L (rIn3 K)) pIn := by
  intro H Z ds vs Fs d dm rp nd nf e Q q
  unfold pIn at e
  cases q1 : inV? ds with
  | none => rw [q1] at e; cases e
  | some b =>
    rw [q1] at e
    cases e
    have fin := q _ H Z [] (.atom (.refl dm) rep_bl)
    obtain ⟨x, y, rfl, h | h | h⟩ := inV_ok rp q1
    · obtain ⟨p, xs, rfl, a, c, f, rfl⟩ := h
      exact ⟨_, _, rfl, .inl ⟨p, xs, rfl, a, c, f, fin⟩⟩
    · obtain ⟨c, z, rfl, rfl, rfl⟩ := h
      exact ⟨_, _, rfl, .inr (.inl ⟨c, z, rfl, rfl, fin⟩)⟩
    · obtain ⟨a, o, rfl, g, rfl⟩ := h
      exact ⟨_, _, rfl, .inr (.inr ⟨a, o, rfl, g, fin⟩)⟩
theorem ok_notIn : OkPr K cm (r2L (rNotIn3 K)) pNotIn := by
  intro H Z ds vs Fs d dm rp nd nf e Q q
  unfold pNotIn at e
  cases q1 : inV? ds with
  | none => rw [q1] at e; cases e
  | some b =>
    rw [q1] at e
    cases e
    have fin := q _ H Z [] (.atom (.refl dm) rep_bl)
    obtain ⟨x, y, rfl, h | h | h⟩ := inV_ok rp q1
    · obtain ⟨p, xs, rfl, a, c, f, rfl⟩ := h
      exact ⟨_, _, rfl, .inl ⟨p, xs, rfl, a, c, f, fin⟩⟩
    · obtain ⟨c, z, rfl, rfl, rfl⟩ := h
      exact ⟨_, _, rfl, .inr (.inl ⟨c, z, rfl, rfl, fin⟩)⟩
    · obtain ⟨a, o, rfl, g, rfl⟩ := h
      exact ⟨_, _, rfl, .inr (.inr ⟨a, o, rfl, g, fin⟩)⟩
end

/-! ### subscripts -/
def pIx : List D → Option D
  | [.nd (.lst _) ds, .int i] => atI ds i
  | [.nd .tup ds, .int i] => atI ds i
  | [.str z, .int i] => if z.length ≤ sizeLine then (atI z.cps.toList i).map fun c => .str ⟨#[c]⟩ else none
  | [.nd (.dct _ ks) ds, x] => (keyD x).bind fun k => look ks ds k
  | _ => none
def rIxK (K : PySem.W.Frag) : R2 := fun x y H Q => ∃ a v, x = .ref a ∧ DGet H a y (some v) ∧ Q v H
section
variable {X : Cx}
theorem ix_dict (hu : X.A.units + 1 < cLine) : IxR X (rIxK X.K) := by
  intro value slice pins s σ H x y v u Q I rx ry h hs
  obtain ⟨a, w, rfl, g, q⟩ := h
  cases rx
  exact tail_any (dict_typeIs I g) PySem.F.slot_dict_getitem.lookup (d_getItem hu I g ry fun w' s' I' rw' => ⟨w, H, I', rw', q⟩) hs
def rIx4 (K : PySem.W.Frag) : R2 := fun x y H Q => rIx K x y H Q ∨ rIxK K x y H Q
theorem ix_4 (hu : X.A.units + 1 < cLine) : IxR X (rIx4 X.K) := ix_seq.or (ix_dict hu)
end
theorem atI_get' {α : Type} {xs : List α} {i : Int} {x : α} (h : atI xs i = some x) : ∃ j, ixN xs.length i = some j ∧ xs[j]? = some x := by
  unfold atI at h
  cases q : ixN xs.length i with
  | none => rw [q] at h; cases h
  | some j => rw [q] at h; exact ⟨j, rfl, h⟩
section
variable {K : PySem.W.Frag} {cm : Cm}
theorem atI_rep {H : Hp} {Z : Zn} {ds : List D} {vs : List V} {Fs : List (List Addr)} {i : Int} {d : D} (rp : RepL K cm H Z ds vs Fs) (e : atI ds i = some d) : ∃ (v : V) (F : List Addr) (j : Nat), atI vs i = some v ∧ Fs[j]? = some F ∧ Rep K cm H Z d v F := by
  obtain ⟨j, e1, e2⟩ := atI_get' e
  obtain ⟨v, F, a, b, c⟩ := rp.get e2
  refine ⟨v, F, j, ?_, b, c⟩
  unfold atI
  rw [rp.len.1, e1]
  exact a
theorem ok_ix : OkPr K cm (r2L (rIx4 K)) pIx := by
  intro H Z ds vs Fs d dm rp nd nf e Q q
  have key : ∀ {a : Addr} {k : Kd} {Gs : List (List Addr)} {G F : List Addr} {j : Nat}, Fs = [ownA k a ++ Gs.flatten, G] → Gs[j]? = some F → F.Sublist Fs.flatten := fun {a k Gs G F j} e h => by
    subst e
    rw [List.flatten_cons]
    exact ((flatten_get h).trans (List.sublist_append_right _ _)).trans (List.sublist_append_left _ _)
  unfold pIx at e
  split at e
  · obtain ⟨v, u, F, G, rfl, hF, ⟨a, us, Gs, rfl, hc, hl, rfl⟩, ⟨rfl, rfl⟩⟩ := repL2 rp
    obtain ⟨w, F', j, e1, e2, e3⟩ := atI_rep hl e
    have sb := key hF e2
    exact ⟨_, _, rfl, .inl (.inl ⟨a, us, _, w, rfl, rfl, rdL hc.2.1, e1, q _ H Z _ (.same dm e3 (nd.sublist sb) (fun x hx => sb.subset hx) fun x hx => nf x (sb.subset hx))⟩)⟩
  · obtain ⟨v, u, F, G, rfl, hF, ⟨a, us, Gs, rfl, hc, hl, rfl⟩, ⟨rfl, rfl⟩⟩ := repL2 rp
    obtain ⟨w, F', j, e1, e2, e3⟩ := atI_rep hl e
    have sb := key hF e2
    exact ⟨_, _, rfl, .inl (.inr (.inl ⟨a, us, _, w, rfl, rfl, hc, e1, q _ H Z _ (.same dm e3 (nd.sublist sb) (fun x hx => sb.subset hx) fun x hx => nf x (sb.subset hx))⟩))⟩
  · split at e
    · rename_i z i hl
      cases e2 : atI z.cps.toList i with
      | none => rw [e2] at e; cases e
      | some c =>
        rw [e2] at e
        cases e
        obtain ⟨v, u, F, G, rfl, hF, ⟨rfl, rfl⟩, ⟨rfl, rfl⟩⟩ := repL2 rp
        exact ⟨_, _, rfl, .inl (.inr (.inr ⟨z, i, c, rfl, rfl, hl, e2, q _ H Z [] (.atom (.refl dm) rep_str)⟩))⟩
    · cases e
  · rename_i f ks ds' x
    cases e2 : keyD x with
    | none => rw [e2] at e; cases e
    | some k =>
      rw [e2] at e
      have e : look ks ds' k = some d := e
      obtain ⟨v, u, F, G, rfl, hF, ⟨a, us, Gs, rfl, hc, hl, rfl⟩, h2⟩ := repL2 rp
      have ek := key_ok h2 e2
      subst ek
      obtain ⟨w, F', j, e3, e4, e5, e6⟩ := (look_rep (ks := ks) hl k).2 d e
      have sb := key hF e4
      refine ⟨_, _, rfl, .inr ⟨a, w, rfl, ?_, q _ H Z _ (.same dm e6 (nd.sublist sb) (fun x hx => sb.subset hx) fun x hx => nf x (sb.subset hx))⟩⟩
      have g := DGet.rk (k := k) hc.2.1
      rw [look_valV hc.2.2.1, e3] at g
      exact g
  · cases e
end
end OB

namespace OB
open PySem PySem.Spec PyProof.Rows L2

/-! ### slices -/
def FinO (K : PySem.W.Frag) (cm : Cm) (W : WX) (σ : L2.St) (H : Hp) (Z : Zn) (Q : Option Int → Hp → Prop) : Ot (Option Int) → Prop
  | .no => False
  | .ok b => ∀ H' Z', Ext H Z H' Z' → Q b H'
  | .ex x => ∀ cls dd H' Z', Ext H Z H' Z' → XRep K cm H' Z' x cls dd → W cls dd σ H'
def tPO (K : PySem.W.Frag) (cm : Cm) (W : WX) (f : En → Ot (Option Int)) : TO := fun σ H Q => ∃ Z ρ Fs, OkP K cm H σ ρ Fs Z ∧ FinO K cm W σ H Z Q (f ρ)
abbrev SO (X : Cx) (cm : Cm) (W : WX) (e : Option Expr) (f : En → Ot (Option Int)) : Prop := PO X e (tPO X.K cm W f)
def oNone : En → Ot (Option Int) := fun _ => .ok none
def asI : D → Ot Int
  | .int i => .ok i
  | _ => .no
def oSome (f : En → Ot D) : En → Ot (Option Int) := fun ρ => (f ρ).bind fun d => (asI d).bind fun i => .ok (some i)
def eSl (p : D → Option Int → Option Int → Option D) (f : En → Ot D) (g h : En → Ot (Option Int)) : En → Ot D := fun ρ => (f ρ).bind fun d => (g ρ).bind fun lo => (h ρ).bind fun hi => .of (p d lo hi)
theorem PO.imp {X : Cx} {e : Option Expr} {t t' : TO} (h : PO X e t) (i : ∀ σ H Q, t' σ H Q → t σ H Q) : PO X e t' := ⟨fun pins s σ H Q I q => h.run pins s σ H Q I (i σ H Q q)⟩
theorem asI_ok {d : D} {b : Int} (h : asI d = .ok b) : d = .int b := by
  cases d <;> first | (cases h; done) | (cases h; rfl)
theorem asI_ex {d : D} {x : XD} : asI d ≠ .ex x := by cases d <;> exact fun h => nomatch h
section
variable {X : Cx} {cm : Cm} {W : WX} {e : Expr} {f : En → Ot D} {g h : En → Ot (Option Int)} {lo hi : Option Expr} {pos p2 : Pos}
theorem so_none : SO X cm W none oNone := PO.imp po_none fun σ H Q q => by
  obtain ⟨Z, ρ, Fs, ok, q⟩ := q
  exact q H Z (.refl ok.dom)
theorem so_some (he : SE X cm W e f) : SO X cm W (some e) (oSome f) := PO.imp (po_some he) fun σ H Q q => by
  obtain ⟨Z, ρ, Fs, ok, q0⟩ := q
  unfold oSome at q0
  refine tP_bind ok (fun q => ?_) (fun d q v H1 Z1 F r => ?_) (fun x q => ?_)
  · rw [q] at q0; exact q0
  · rw [q, Ot.bind_ok] at q0
    cases q2 : asI d with
    | no => rw [q2] at q0; exact q0.elim
    | ex x => exact absurd q2 asI_ex
    | ok i =>
      rw [q2, Ot.bind_ok] at q0
      have e := asI_ok q2
      subst e
      obtain ⟨rfl, rfl⟩ := r.rep
      exact ⟨i, rfl, q0 H1 Z1 r.ext⟩
  · rw [q] at q0; exact q0
def OkSl (K : PySem.W.Frag) (cm : Cm) (r : V → Option Int → Option Int → Hp → VK → Prop) (p : D → Option Int → Option Int → Option D) : Prop :=
  ∀ H Z d v F lo hi e, Dom H Z → Rep K cm H Z d v F → F.Nodup → (∀ a ∈ F, ¬ Z.f a) → p d lo hi = some e → ∀ Q : VK, (∀ u H' Z' G, Res K cm H Z H' Z' F e u G → Q u H') → r v lo hi H Q
theorem s_slice {r : V → Option Int → Option Int → Hp → VK → Prop} {p : D → Option Int → Option Int → Option D} (hr : SlR X r) (hp : OkSl X.K cm r p) (he : SE X cm W e f) (hl : SO X cm W lo g) (hu : SO X cm W hi h) :
    SE X cm W (.Subscript e (.Slice lo hi none p2) pos) (eSl p f g h) := PE.imp (pe_slice hr he hl hu) fun σ H Q q0 => by
  obtain ⟨Z, ρ, Fs, ok, q0⟩ := q0
  unfold eSl at q0
  refine tP_bind ok (fun q => ?_) (fun d q v H1 Z1 F r1 => ?_) (fun x q => ?_)
  · rw [q] at q0; exact q0
  · rw [q, Ot.bind_ok] at q0
    have ok1 := ok.ext r1.ext
    refine ⟨Z1, ρ, Fs, ok1, ?_⟩
    cases q2 : g ρ with
    | no => rw [q2] at q0; exact q0
    | ex x => rw [q2] at q0; exact fun cls dd H' Z' ex xr => q0 cls dd H' Z' (r1.ext.trans ex) xr
    | ok l =>
      rw [q2, Ot.bind_ok] at q0
      intro H2 Z2 ex2
      refine ⟨Z2, ρ, Fs, ok1.ext ex2, ?_⟩
      cases q3 : h ρ with
      | no => rw [q3] at q0; exact q0
      | ex x => rw [q3] at q0; exact fun cls dd H' Z' ex xr => q0 cls dd H' Z' (r1.ext.trans (ex2.trans ex)) xr
      | ok u =>
        rw [q3, Ot.bind_ok] at q0
        intro H3 Z3 ex3
        have ex23 := ex2.trans ex3
        cases q4 : p d l u with
        | none => rw [q4] at q0; exact q0.elim
        | some d' =>
          rw [q4] at q0
          have hm := Rep.mut d r1.rep
          exact hp H3 Z3 d v F l u d' (ok1.dom.ext ex23) (r1.rep.ext ex23) r1.nd (fun a ha => keep_nf ex23 (hm a ha) (r1.nf a ha)) q4 Q fun w H' Z' G r4 =>
            q0 w H' Z' G (r4.trans (r1.ext.trans ex23) fun a ha => .inl (r1.new a ha))
  · rw [q] at q0; exact q0
end
def cutD (xs : List D) (lo hi : Option Int) : List D := (xs.drop (HT.sIx xs.length 0 lo)).take (HT.sIx xs.length xs.length hi - HT.sIx xs.length 0 lo)
def pSl : D → Option Int → Option Int → Option D
  | .nd (.lst _) ds, lo, hi => some (.nd (.lst .own) (cutD ds lo hi))
  | .str z, lo, hi => if z.length ≤ sizeLine then some (.str (cutS z lo hi)) else none
  | .nd .tup ds, lo, hi => if HT.sIx ds.length 0 lo = 0 ∧ HT.sIx ds.length ds.length hi = ds.length then none else some (.nd .tup (cutD ds lo hi))
  | _, _, _ => none
def rSl3 (K : PySem.W.Frag) : V → Option Int → Option Int → Hp → VK → Prop := fun x lo hi H Q => rSlL K x lo hi H Q ∨ rSlS x lo hi H Q ∨ rSlT K x lo hi H Q
theorem sl_3 {X : Cx} : SlR X (rSl3 X.K) := sl_list.or (sl_str.or sl_tup)
section
variable {K : PySem.W.Frag} {cm : Cm}
theorem sub_flat {α : Type} {A B : List (List α)} (h : A.Sublist B) : A.flatten.Sublist B.flatten := by
  induction h with
  | slnil => exact List.Sublist.refl _
  | cons a _ ih => rw [List.flatten_cons]; exact ih.trans (List.sublist_append_right _ _)
  | cons_cons a _ ih => rw [List.flatten_cons, List.flatten_cons]; exact (List.Sublist.refl _).append ih
theorem cut_sub {Fs : List (List Addr)} {a b : Nat} : ((Fs.drop a).take b).flatten.Sublist Fs.flatten := sub_flat ((List.take_sublist _ _).trans (List.drop_sublist _ _))
theorem ok_sl : OkSl K cm (rSl3 K) pSl := by
  intro H Z d v F lo hi e dm rp nd nf q0 Q q
  unfold pSl at q0
  split at q0
  · rename_i f ds
    cases q0
    obtain ⟨a, vs, Fs, rfl, hc, hl, rfl⟩ := rp
    refine .inl ⟨a, vs, rfl, rdL hc.2.1, fun p hp => ?_⟩
    have rl := (hl.drop (HT.sIx ds.length 0 lo)).take (HT.sIx ds.length ds.length hi - HT.sIx ds.length 0 lo)
    have sb := (cut_sub (Fs := Fs) (a := HT.sIx ds.length 0 lo) (b := HT.sIx ds.length ds.length hi - HT.sIx ds.length 0 lo)).trans (List.sublist_append_right (ownA (.lst f) a) _)
    have ev : cutV vs lo hi = (vs.drop (HT.sIx ds.length 0 lo)).take (HT.sIx ds.length ds.length hi - HT.sIx ds.length 0 lo) := by unfold cutV; rw [hl.len.1]
    rw [ev]
    exact q _ _ Z _ (.newL dm rl (nd.sublist sb) (fun x hx => .inr (sb.subset hx)) (fun x hx => nf x (sb.subset hx)) hp)
  · split at q0
    · rename_i hz
      cases q0
      obtain ⟨rfl, rfl⟩ := rp
      exact .inr (.inl ⟨_, rfl, hz, q _ H Z [] (.atom (.refl dm) rep_str)⟩)
    · cases q0
  · split at q0
    · cases q0
    · rename_i ds hz
      cases q0
      obtain ⟨a, vs, Fs, rfl, hc, hl, rfl⟩ := rp
      have rl := (hl.drop (HT.sIx ds.length 0 lo)).take (HT.sIx ds.length ds.length hi - HT.sIx ds.length 0 lo)
      have sb := (cut_sub (Fs := Fs) (a := HT.sIx ds.length 0 lo) (b := HT.sIx ds.length ds.length hi - HT.sIx ds.length 0 lo)).trans (List.sublist_append_right (ownA .tup a) _)
      refine .inr (.inr ⟨a, vs, rfl, hc, by rw [hl.len.1]; exact hz, fun p hp => ?_⟩)
      have ev : cutV vs lo hi = (vs.drop (HT.sIx ds.length 0 lo)).take (HT.sIx ds.length ds.length hi - HT.sIx ds.length 0 lo) := by unfold cutV; rw [hl.len.1]
      rw [ev]
      exact q _ _ Z _ (.newT dm rl (nd.sublist sb) (fun x hx => .inr (sb.subset hx)) (fun x hx => nf x (sb.subset hx)) hp)
  · cases q0
end

/-! ### isinstance -/
def tyN : D → Option String
  | .non => some "NoneType"
  | .bl _ => some "bool"
  | .int _ => some "int"
  | .str _ => some "str"
  | .nd .tup _ => some "tuple"
  | .nd (.lst _) _ => some "list"
  | .nd (.dct _ _) _ => some "dict"
  | .nd (.obj _ _ _) _ => none
  | .nd (.exc _ _ _) _ => none
  | .nd (.adr _ _) _ => some "list"
def objN : D → Option Str
  | .nd (.obj _ c _) _ => some c
  | _ => none
/-- the answer by the kind -/
def isiD (nb : String → Option Bool) (ob : Str → Option Bool) (d : D) : Option Bool := match tyN d with
  | some n => nb n
  | none => (objN d).bind ob
/-- a built-in class's answers -/
def nbTy (T : String) (n : String) : Option Bool := if ["NoneType", "bool", "int", "str", "tuple", "list", "dict"].contains n && ["bool", "int", "str", "tuple", "list", "dict"].contains T then some (n == T || (n == "bool" && T == "int")) else none
theorem nbTy_ok {K : PySem.W.Frag} {T n : String} {b : Bool} (h : nbTy T n = some b) : PySem.W.kitOne K (.type n) (.type T) = some b := by
  unfold nbTy at h
  split at h
  · rename_i hc
    cases h
    rw [Bool.and_eq_true] at hc
    have all : ∀ n ∈ ["NoneType", "bool", "int", "str", "tuple", "list", "dict"], ∀ T ∈ ["bool", "int", "str", "tuple", "list", "dict"], kitB n T = some (n == T || (n == "bool" && T == "int")) := by decide +kernel
    exact kit_ty (all n (by simpa using hc.1) T (by simpa using hc.2))
  · cases h
/-- what has to be known of an own class for isinstance of its instances -/
structure InsK (K : PySem.W.Frag) (C : Addr) : Prop where
  cl : Cls K C
  ha : PySem.W.findIn K (.ref C) "__class__" = some (some (.builtin "object.__class__"))
  hn : PySem.W.specialIn K (.builtin "object.__class__") "__get__" = some (some (.builtin "getset_descriptor.__get__"))
  htk : PySem.W.takesIn K (.builtin "object.__class__") = some true
  hm : PySem.W.mroIn K C (.type "object") = some true
section
variable {K : PySem.W.Frag} {cm : Cm} {H : Hp} {Z : Zn}
theorem isi_ok {nb : String → Option Bool} {ob : Str → Option Bool} {u : Value} (hn : ∀ n b, nb n = some b → PySem.W.kitOne K (.type n) u = some b) (ho : ∀ c b, ob c = some b → PySem.W.kitOne K (.ref (cm c)) u = some b ∧ InsK K (cm c))
    {d : D} {v : V} {F : List Addr} {b : Bool} (h : Rep K cm H Z d v F) (e : isiD nb ob d = some b) : ∃ t, TyX K H v t ∧ PySem.W.kitOne K t u = some b := by
  unfold isiD at e
  cases d with
  | non => obtain ⟨rfl, _⟩ := h; exact ⟨_, .base .non, hn _ _ e⟩
  | bl x => obtain ⟨rfl, _⟩ := h; exact ⟨_, .base (.bl x), hn _ _ e⟩
  | int x => obtain ⟨rfl, _⟩ := h; exact ⟨_, .base (.int x), hn _ _ e⟩
  | str x => obtain ⟨rfl, _⟩ := h; exact ⟨_, .base (.str x), hn _ _ e⟩
  | nd k ds =>
    obtain ⟨a, vs, Fs, rfl, hc, hl, rfl⟩ := h
    cases k with
    | tup =>
      rcases hc with (hc | ⟨o, hc⟩) | ⟨o, its, n, hk, h1, h2, _⟩
      · exact ⟨_, .base (.tup hc), hn _ _ e⟩
      · exact ⟨_, .fTuple hc, hn _ _ e⟩
      · exact ⟨_, .kTuple hk h1, hn _ _ e⟩
    | lst f =>
      rcases hc.2.1 with hc | ⟨o, hc⟩
      · exact ⟨_, .base (.lst hc), hn _ _ e⟩
      · exact ⟨_, .base (.frz hc), hn _ _ e⟩
    | dct f ks =>
      rcases hc.2.1 with hc | ⟨o, hc⟩
      · exact ⟨_, .base (.dK hc), hn _ _ e⟩
      · exact ⟨_, .fDict hc, hn _ _ e⟩
    | exc f c fs => cases e
    | adr f b =>
      obtain ⟨us, hc⟩ := hc.2.2.2.1
      rcases hc with hc | ⟨o, hc⟩
      · exact ⟨_, .base (.lst hc), hn _ _ e⟩
      · exact ⟨_, .base (.frz hc), hn _ _ e⟩
    | obj f c fs =>
      obtain ⟨⟨dx, h1⟩, _⟩ := hc
      obtain ⟨k1, k2⟩ := ho c b e
      exact ⟨_, .base (.ins h1 k2.cl k2.ha k2.hn k2.htk k2.hm), k1⟩
end
def eIsi (nb : String → Option Bool) (ob : Str → Option Bool) (f : En → Ot D) : En → Ot D := fun ρ => (f ρ).bind fun d => .of ((isiD nb ob d).map .bl)
section
variable {X : Cx} {cm : Cm} {W : WX} {a c : Expr} {f : En → Ot D} {pos p : Pos}
theorem s_isi {nb : String → Option Bool} {ob : Str → Option Bool} {cv : V} {u : Value} (hn : ∀ n b, nb n = some b → PySem.W.kitOne X.K (.type n) u = some b) (ho : ∀ c b, ob c = some b → PySem.W.kitOne X.K (.ref (cm c)) u = some b ∧ InsK X.K (cm c))
    (hcv : ClsV cv u) (hg : Gl X "isinstance") (hm : X.mg "isinstance" = none) (hv : bootBuiltins "isinstance" = some (.builtin "isinstance")) (ha : SE X cm W a f) (hc : PE X c (tC cv))
    (he : starEach [a, c] X.env = (false, eval a X.env) :: starEach [c] X.env := by rfl) (he2 : starEach [c] X.env = (false, eval c X.env) :: starEach [] X.env := by rfl) (hpl : (backTo pos (starEach [c] X.env)).any (·.1) = false := by rfl) :
    SE X cm W (.Call (.Name "isinstance" p) [a, c] [] pos) (eIsi nb ob f) :=
  PE.imp (pe_callB call_isi hg hm hv (pa_cons ha (pa_cons hc pa_nil he2) he) (by decide) (by decide) he hpl) fun σ H Q q0 => by
    obtain ⟨Z, ρ, Fs, ok, q0⟩ := q0
    unfold eIsi at q0
    refine tP_bind ok (fun q => ?_) (fun d q v H1 Z1 F r1 => ?_) (fun x q => ?_)
    · rw [q] at q0; exact q0
    · rw [q, Ot.bind_ok] at q0
      cases q2 : isiD nb ob d with
      | none => rw [q2] at q0; exact q0.elim
      | some b =>
        rw [q2] at q0
        obtain ⟨t, ty, k⟩ := isi_ok hn ho r1.rep q2
        exact ⟨v, cv, t, u, b, rfl, hcv, ty, k, q0 _ H1 Z1 [] (.atom r1.ext rep_bl)⟩
    · rw [q] at q0; exact q0
/-- isinstance(x, T), T a built-in class, x no instance of an own class -/
theorem s_isiT {T : String} (hg : Gl X "isinstance") (hm : X.mg "isinstance" = none) (hv : bootBuiltins "isinstance" = some (.builtin "isinstance")) (ha : SE X cm W a f) (hc : PE X c (tC (.ty T)))
    (he : starEach [a, c] X.env = (false, eval a X.env) :: starEach [c] X.env := by rfl) (he2 : starEach [c] X.env = (false, eval c X.env) :: starEach [] X.env := by rfl) (hpl : (backTo pos (starEach [c] X.env)).any (·.1) = false := by rfl) :
    SE X cm W (.Call (.Name "isinstance" p) [a, c] [] pos) (eIsi (nbTy T) (fun _ => none) f) :=
  s_isi (fun _ _ e => nbTy_ok e) (fun _ _ e => nomatch e) (.ty T) hg hm hv ha hc he he2 hpl
end

/-! ### built-ins -/
def pLen : List D → Option D
  | [.nd (.lst _) ds] => some (.int (ds.length : Int))
  | [.nd .tup ds] => some (.int (ds.length : Int))
  | [.str s] => if s.length ≤ sizeLine then some (.int (s.length : Int)) else none
  | [.nd (.dct _ ks) _] => some (.int (ks.length : Int))
  | _ => none
def rLen2 (K : PySem.W.Frag) : List V → Hp → VK → Prop := fun xs H Q => (∃ x n, xs = [x] ∧ LenV K x H n ∧ Q (.int n) H) ∨ ∃ a kvs, xs = [.ref a] ∧ Rd H a (.dK kvs) ∧ Q (.int kvs.length) H
theorem call_lenR {X : Cx} : CallR X (.builtin "len") (fun xs H Q => ∃ a kvs, xs = [V.ref a] ∧ Rd H a (.dK kvs) ∧ Q (.int kvs.length) H) := by
  intro pins s σ H xs us Q I r h
  obtain ⟨a, kvs, rfl, ha, q⟩ := h
  obtain ⟨u, rfl, ru⟩ := vals1 r
  cases ru
  exact d_len I ha fun t s' I' => ⟨.int kvs.length, H, I', ⟨t, rfl⟩, q⟩
theorem CallR.or2 {X : Cx} {u : Value} {r r' : List V → Hp → VK → Prop} (h : CallR X u r) (h' : CallR X u r') : CallR X u (fun xs H Q => r xs H Q ∨ r' xs H Q) := fun pins s σ H xs us Q I rs q => q.elim (h pins s σ H xs us Q I rs) (h' pins s σ H xs us Q I rs)
theorem call_len2 {X : Cx} : CallR X (.builtin "len") (rLen2 X.K) := CallR.or2 call_len call_lenR
def pAbs : List D → Option D
  | [.int i] => some (.int (if i < 0 then -i else i))
  | _ => none
def pMin : List D → Option D
  | [.int i, .int j] => some (.int (if j < i then j else i))
  | _ => none
def pMax : List D → Option D
  | [.int i, .int j] => some (.int (if j > i then j else i))
  | _ => none
def pAll : List D → Option D
  | [.nd (.lst _) ds] => (blsD ds).map fun bs => .bl (bs.all id)
  | _ => none
def pAny : List D → Option D
  | [.nd (.lst _) ds] => (blsD ds).map fun bs => .bl (bs.any id)
  | _ => none
def pSum : List D → Option D
  | [.nd (.lst _) ds] => (intsD ds).map fun ns => .int ns.sum
  | _ => none
def pInt : List D → Option D
  | [.int i] => some (.int i)
  | [.bl b] => some (.int (if b then 1 else 0))
  | [.str a] => if a.length ≤ 640 then (PySem.intText? a).map .int else none
  | _ => none
def rInt3 : List V → Hp → VK → Prop := fun xs H Q => ((∃ i, xs = [.int i] ∧ Q (.int i) H) ∨ ∃ k, xs = [.bl k] ∧ Q (.int (if k then 1 else 0)) H) ∨ ∃ a n, xs = [.str a] ∧ PySem.intText? a = some n ∧ a.length ≤ 640 ∧ Q (.int n) H
theorem call_int3 {X : Cx} : CallR X (.type "int") rInt3 := CallR.or2 call_int1 call_int_str
def pStr : List D → Option D
  | [.int i] => if i.natAbs.log2 < 1920 then some (.str (toString i)) else none
  | _ => none
def pList : List D → Option D
  | [.nd (.lst _) ds] => some (.nd (.lst .own) ds)
  | [.nd .tup ds] => some (.nd (.lst .own) ds)
  | _ => none
section
variable {K : PySem.W.Frag} {cm : Cm}
theorem ok_len : OkPr K cm (rLen2 K) pLen := by
  intro H Z ds vs Fs d dm rp nd nf e Q q
  have fin : ∀ n : Int, d = .int n → Q (.int n) H := fun n en => by subst en; exact q _ H Z [] (.atom (.refl dm) rep_int)
  unfold pLen at e
  split at e
  · cases e
    obtain ⟨v, F, rfl, rfl, ⟨a, us, Gs, rfl, hc, hl, rfl⟩⟩ := repL1 rp
    exact .inl ⟨_, _, rfl, .inl ⟨us, rdL hc.2.1, rfl⟩, fin _ (by rw [hl.len.1])⟩
  · cases e
    obtain ⟨v, F, rfl, rfl, ⟨a, us, Gs, rfl, hc, hl, rfl⟩⟩ := repL1 rp
    exact .inl ⟨_, _, rfl, .inr ⟨us, hc, rfl⟩, fin _ (by rw [hl.len.1])⟩
  · split at e
    · rename_i hs
      cases e
      obtain ⟨v, F, rfl, rfl, ⟨rfl, rfl⟩⟩ := repL1 rp
      exact .inl ⟨_, _, rfl, ⟨hs, rfl⟩, fin _ rfl⟩
    · cases e
  · cases e
    obtain ⟨v, F, rfl, rfl, ⟨a, us, Gs, rfl, hc, hl, rfl⟩⟩ := repL1 rp
    refine .inr ⟨a, _, rfl, hc.2.1, fin _ ?_⟩
    rw [List.length_zip, ← hc.2.2.1, Nat.min_self]
  · cases e
theorem ok_abs : OkPr K cm (fun xs H Q => ∃ i, xs = [.int i] ∧ Q (.int (if i < 0 then -i else i)) H) pAbs := by
  intro H Z ds vs Fs d dm rp nd nf e Q q
  unfold pAbs at e
  split at e
  · cases e
    obtain ⟨v, F, rfl, rfl, ⟨rfl, rfl⟩⟩ := repL1 rp
    exact ⟨_, rfl, q _ H Z [] (.atom (.refl dm) rep_int)⟩
  · cases e
theorem ok_min : OkPr K cm (fun xs H Q => ∃ i j, xs = [.int i, .int j] ∧ Q (.int (if j < i then j else i)) H) pMin := by
  intro H Z ds vs Fs d dm rp nd nf e Q q
  unfold pMin at e
  split at e
  · cases e
    obtain ⟨v, u, F, G, rfl, rfl, ⟨rfl, rfl⟩, ⟨rfl, rfl⟩⟩ := repL2 rp
    exact ⟨_, _, rfl, q _ H Z [] (.atom (.refl dm) rep_int)⟩
  · cases e
theorem ok_max : OkPr K cm (fun xs H Q => ∃ i j, xs = [.int i, .int j] ∧ Q (.int (if j > i then j else i)) H) pMax := by
  intro H Z ds vs Fs d dm rp nd nf e Q q
  unfold pMax at e
  split at e
  · cases e
    obtain ⟨v, u, F, G, rfl, rfl, ⟨rfl, rfl⟩, ⟨rfl, rfl⟩⟩ := repL2 rp
    exact ⟨_, _, rfl, q _ H Z [] (.atom (.refl dm) rep_int)⟩
  · cases e
theorem ok_all : OkPr K cm (rAll K) pAll := by
  intro H Z ds vs Fs d dm rp nd nf e Q q
  unfold pAll at e
  split at e
  · rename_i f ds'
    cases q1 : blsD ds' with
    | none => rw [q1] at e; cases e
    | some bs =>
      rw [q1] at e
      cases e
      have eb := blsD_eq q1
      subst eb
      obtain ⟨v, F, rfl, rfl, ⟨a, us, Gs, rfl, hc, hl, rfl⟩⟩ := repL1 rp
      have ev := repL_bls hl
      subst ev
      exact ⟨a, bs, rfl, rdL hc.2.1, q _ H Z [] (.atom (.refl dm) rep_bl)⟩
  · cases e
theorem ok_any : OkPr K cm (rAny K) pAny := by
  intro H Z ds vs Fs d dm rp nd nf e Q q
  unfold pAny at e
  split at e
  · rename_i f ds'
    cases q1 : blsD ds' with
    | none => rw [q1] at e; cases e
    | some bs =>
      rw [q1] at e
      cases e
      have eb := blsD_eq q1
      subst eb
      obtain ⟨v, F, rfl, rfl, ⟨a, us, Gs, rfl, hc, hl, rfl⟩⟩ := repL1 rp
      have ev := repL_bls hl
      subst ev
      exact ⟨a, bs, rfl, rdL hc.2.1, q _ H Z [] (.atom (.refl dm) rep_bl)⟩
  · cases e
theorem ok_sum : OkPr K cm (rSum K) pSum := by
  intro H Z ds vs Fs d dm rp nd nf e Q q
  unfold pSum at e
  split at e
  · rename_i f ds'
    cases q1 : intsD ds' with
    | none => rw [q1] at e; cases e
    | some bs =>
      rw [q1] at e
      cases e
      have eb := intsD_eq q1
      subst eb
      obtain ⟨v, F, rfl, rfl, ⟨a, us, Gs, rfl, hc, hl, rfl⟩⟩ := repL1 rp
      have ev := repL_ints hl
      subst ev
      exact ⟨a, bs, rfl, rdL hc.2.1, q _ H Z [] (.atom (.refl dm) rep_int)⟩
  · cases e
theorem ok_int : OkPr K cm rInt3 pInt := by
  intro H Z ds vs Fs d dm rp nd nf e Q q
  unfold pInt at e
  split at e
  · cases e
    obtain ⟨v, F, rfl, rfl, ⟨rfl, rfl⟩⟩ := repL1 rp
    exact .inl (.inl ⟨_, rfl, q _ H Z [] (.atom (.refl dm) rep_int)⟩)
  · cases e
    obtain ⟨v, F, rfl, rfl, ⟨rfl, rfl⟩⟩ := repL1 rp
    exact .inl (.inr ⟨_, rfl, q _ H Z [] (.atom (.refl dm) rep_int)⟩)
  · split at e
    · rename_i a hl
      cases q1 : PySem.intText? a with
      | none => rw [q1] at e; cases e
      | some n =>
        rw [q1] at e
        cases e
        obtain ⟨v, F, rfl, rfl, ⟨rfl, rfl⟩⟩ := repL1 rp
        exact .inr ⟨_, _, rfl, q1, hl, q _ H Z [] (.atom (.refl dm) rep_int)⟩
    · cases e
  · cases e
theorem ok_str : OkPr K cm (fun xs H Q => ∃ i, xs = [.int i] ∧ i.natAbs.log2 < 1920 ∧ Q (.str (toString i)) H) pStr := by
  intro H Z ds vs Fs d dm rp nd nf e Q q
  unfold pStr at e
  split at e
  · split at e
    · rename_i hl
      cases e
      obtain ⟨v, F, rfl, rfl, ⟨rfl, rfl⟩⟩ := repL1 rp
      exact ⟨_, rfl, hl, q _ H Z [] (.atom (.refl dm) rep_str)⟩
    · cases e
  · cases e
theorem ok_list : OkPr K cm (fun xs H Q => ∃ p ys, xs = [.ref p] ∧ (SqL K H p ys ∨ SqT K H p ys) ∧ ∀ l, H l = none → Q (.ref l) (upd H l (.lst ys))) pList := by
  intro H Z ds vs Fs d dm rp nd nf e Q q
  have key : ∀ {a : Addr} {k : Kd} {Gs : List (List Addr)}, Fs = [ownA k a ++ Gs.flatten] → Gs.flatten.Sublist Fs.flatten := fun {a k Gs} e => by
    subst e
    simp only [List.flatten_cons, List.flatten_nil, List.append_nil]
    exact List.sublist_append_right _ _
  unfold pList at e
  split at e
  · cases e
    obtain ⟨v, F, rfl, hF, ⟨a, us, Gs, rfl, hc, hl, rfl⟩⟩ := repL1 rp
    have sb := key hF
    exact ⟨a, us, rfl, .inl (rdL hc.2.1), fun l hl' => q _ _ Z _ (.newL dm hl (nd.sublist sb) (fun x hx => .inr (sb.subset hx)) (fun x hx => nf x (sb.subset hx)) hl')⟩
  · cases e
    obtain ⟨v, F, rfl, hF, ⟨a, us, Gs, rfl, hc, hl, rfl⟩⟩ := repL1 rp
    have sb := key hF
    exact ⟨a, us, rfl, .inr hc, fun l hl' => q _ _ Z _ (.newL dm hl (nd.sublist sb) (fun x hx => .inr (sb.subset hx)) (fun x hx => nf x (sb.subset hx)) hl')⟩
  · cases e
end

/-! ### methods -/
def tyB (T : String) : D → Bool
  | .str _ => T == "str"
  | .nd (.lst _) _ => T == "list"
  | _ => false
def eM (T : String) (p : List D → Option D) (f : En → Ot D) (fs : List (En → Ot D)) : En → Ot D := fun ρ => (f ρ).bind fun x => if tyB T x then (eL fs ρ).bind fun ds => .of (p (x :: ds)) else .no
def rM (r : V → List V → Hp → VK → Prop) : List V → Hp → VK → Prop := fun vs H Q => ∃ x xs, vs = x :: xs ∧ r x xs H Q
theorem tyB_ok {K : PySem.W.Frag} {cm : Cm} {H : Hp} {Z : Zn} {T : String} {d : D} {v : V} {F : List Addr} (h : Rep K cm H Z d v F) (e : tyB T d = true) : tyV K T v H := by
  unfold tyB at e
  split at e
  · obtain ⟨rfl, _⟩ := h
    exact (beq_iff_eq.mp e)
  · obtain ⟨a, vs, Fs, rfl, hc, hl, rfl⟩ := h
    exact .inl ⟨beq_iff_eq.mp e, _, rdL hc.2.1⟩
  · cases e
section
variable {X : Cx} {cm : Cm} {W : WX} {o e : Expr} {es : List Expr} {f : En → Ot D} {fs : List (En → Ot D)} {name : Str} {apos cpos : Pos} {T id : String} {r : V → List V → Hp → VK → Prop} {p : List D → Option D}
theorem m_end {K : PySem.W.Frag} (hp : OkPr K cm (rM r) p) {σ : L2.St} {H : Hp} {Q : VK} (q0 : tP K cm W (eM T p f fs) σ H Q) : tP K cm W f σ H (fun x H1 => tyV K T x H1 ∧ tPL K cm W (eL fs) σ H1 (fun xs H2 => r x xs H2 Q)) := by
  obtain ⟨Z, ρ, Fs, ok, q0⟩ := q0
  unfold eM at q0
  refine tP_bind ok (fun q => ?_) (fun x q v H1 Z1 F r1 => ?_) (fun x q => ?_)
  · rw [q] at q0; exact q0
  · rw [q, Ot.bind_ok] at q0
    split at q0
    · rename_i ty
      refine ⟨tyB_ok r1.rep ty, Z1, ρ, Fs, ok.ext r1.ext, ?_⟩
      cases q2 : eL fs ρ with
      | no => rw [q2] at q0; exact q0
      | ex x => rw [q2] at q0; exact fun cls dd H' Z' ex xr => q0 cls dd H' Z' (r1.ext.trans ex) xr
      | ok ds =>
        rw [q2, Ot.bind_ok] at q0
        intro vs H2 Z2 Gs r2
        cases q3 : p (x :: ds) with
        | none => rw [q3] at q0; exact q0.elim
        | some d =>
          rw [q3] at q0
          have rl := ResL.cons r1 r2
          obtain ⟨_, _, e3, k⟩ := hp H2 Z2 (x :: ds) (v :: vs) _ d (ok.dom.ext rl.ext) rl.rep rl.nd rl.nf q3 Q fun w H' Z' G r4 => q0 w H' Z' G (r4.trans rl.ext fun a ha => .inl (rl.new a ha))
          cases e3
          exact k
    · exact q0.elim
  · rw [q] at q0; exact q0
theorem s_bm (pa : PlainAttrs T) (slot : Slot T name id) (hty : typeOf (.builtin id) = pure (.type "method_descriptor")) (hm : MtR X id r) (hp : OkPr X.K cm (rM r) p) (ho : SE X cm W o f) (ha : SA X cm W (e :: es) (eL fs))
    (hbase : attributeBase o name X.env (eval o X.env) = eval o X.env := by rfl)
    (hfew : ((backTo cpos (starEach (e :: es) X.env)).all (fun x => !x.1) && (backToKw cpos (keywordEach [] X.env)).all (fun x => x.1.isSome)
      && decide ((e :: es).length + ([] : List Keyword).length + (if ([] : List Keyword).isEmpty then 0 else 1) < 30)) = true := by rfl)
    (hline : (apos.endLine == cpos.line) = true := by rfl) (hs : starEach (e :: es) X.env = (false, eval e X.env) :: starEach es X.env := by rfl) (hplain : (backTo cpos (starEach es X.env)).any (·.1) = false := by rfl) :
    SE X cm W (.Call (.Attribute o name apos) (e :: es) [] cpos) (eM T p f fs) := PE.imp (pe_bm pa slot hty hm ho ha hbase hfew hline hs hplain) fun σ H Q q => m_end hp q
end
def pJoin : List D → Option D
  | [.str a, .nd (.lst _) ds] => (strsD ds).bind fun ys => if (ys.map (·.length)).sum + ys.length * a.length ≤ 16777216 then some (.str (Txt.join a ys)) else none
  | _ => none
def pSplit : List D → Option D
  | [.str a, .str b] => if (b.length == 0) = false ∧ a.length + 2 ≤ sizeLine then some (.nd (.lst .own) ((Txt.split a b).map .str)) else none
  | _ => none
def pPart : List D → Option D
  | [.str a, .str b] => if (b.length == 0) = false ∧ a.length ≤ sizeLine then some (.nd .tup [.str (Txt.partition a b).1, .str (Txt.partition a b).2.1, .str (Txt.partition a b).2.2]) else none
  | _ => none
section
variable {K : PySem.W.Frag} {cm : Cm}
theorem ok_join : OkPr K cm (rM (fun x xs H Q => ∃ a p, ∃ ys : List Str, x = .str a ∧ xs = [.ref p] ∧ (SqL K H p (ys.map V.str) ∨ SqT K H p (ys.map V.str)) ∧ (ys.map (·.length)).sum + ys.length * a.length ≤ 16777216 ∧ Q (.str (Txt.join a ys)) H)) pJoin := by
  intro H Z ds vs Fs d dm rp nd nf e Q q
  unfold pJoin at e
  split at e
  · rename_i a f ds'
    cases q1 : strsD ds' with
    | none => rw [q1] at e; cases e
    | some ys =>
      rw [q1] at e
      have e2 : (if (ys.map (·.length)).sum + ys.length * a.length ≤ 16777216 then some (D.str (Txt.join a ys)) else none) = some d := e
      split at e2
      · rename_i hz
        cases e2
        have es := strsD_eq q1
        subst es
        obtain ⟨v, u, F, G, rfl, rfl, ⟨rfl, rfl⟩, ⟨p, us, Gs, rfl, hc, hl, rfl⟩⟩ := repL2 rp
        have ev := repL_strS hl
        subst ev
        exact ⟨_, _, rfl, a, p, ys, rfl, rfl, .inl (rdL hc.2.1), hz, q _ H Z [] (.atom (.refl dm) rep_str)⟩
      · cases e2
  · cases e
theorem ok_split : OkPr K cm (rM (fun x xs H Q => ∃ a b, x = .str a ∧ xs = [.str b] ∧ (b.length == 0) = false ∧ a.length + 2 ≤ sizeLine ∧ rNewStrs (Txt.split a b) H Q)) pSplit := by
  intro H Z ds vs Fs d dm rp nd nf e Q q
  unfold pSplit at e
  split at e
  · rename_i a b
    split at e
    · rename_i hz
      cases e
      obtain ⟨v, u, F, G, rfl, rfl, ⟨rfl, rfl⟩, ⟨rfl, rfl⟩⟩ := repL2 rp
      refine ⟨_, _, rfl, a, b, rfl, rfl, hz.1, hz.2, fun p hp => ?_⟩
      have rl : RepL K cm H Z ((Txt.split a b).map .str) ((Txt.split a b).map V.str) (List.replicate (Txt.split a b).length []) := repL_mk (fun _ => rep_str) _
      exact q _ _ Z _ (.newL dm rl (by rw [flatten_nils]; exact List.nodup_nil) (by rw [flatten_nils]; exact fun _ z => nomatch z) (by rw [flatten_nils]; exact fun _ z => nomatch z) hp)
    · cases e
  · cases e
theorem ok_part : OkPr K cm (rM (fun x xs H Q => ∃ a b, x = .str a ∧ xs = [.str b] ∧ (b.length == 0) = false ∧ a.length ≤ sizeLine ∧ ∀ p, H p = none → Q (.ref p) (upd H p (.tup [.str (Txt.partition a b).1, .str (Txt.partition a b).2.1, .str (Txt.partition a b).2.2])))) pPart := by
  intro H Z ds vs Fs d dm rp nd nf e Q q
  unfold pPart at e
  split at e
  · rename_i a b
    split at e
    · rename_i hz
      cases e
      obtain ⟨v, u, F, G, rfl, rfl, ⟨rfl, rfl⟩, ⟨rfl, rfl⟩⟩ := repL2 rp
      refine ⟨_, _, rfl, a, b, rfl, rfl, hz.1, hz.2, fun p hp => ?_⟩
      have rl : RepL K cm H Z [.str (Txt.partition a b).1, .str (Txt.partition a b).2.1, .str (Txt.partition a b).2.2] [.str (Txt.partition a b).1, .str (Txt.partition a b).2.1, .str (Txt.partition a b).2.2] [[], [], []] := repL_cons rep_str (repL_cons rep_str (repL_cons rep_str repL_nil))
      exact q _ _ Z _ (.newT dm rl (by simp) (by simp) (by simp) hp)
    · cases e
  · cases e
end
end OB

namespace OB
open PySem PySem.Spec PyProof.Rows L2

/-! ### all but some objects are kept -/
def Kept (H : Hp) (O : List Addr) (H' : Hp) : Prop := ∀ a o, H a = some o → a ∉ O → H' a = some o
theorem Kept.refl {H : Hp} {O : List Addr} : Kept H O H := fun _ _ h _ => h
theorem Kept.grow {H H' : Hp} {O : List Addr} (g : Grow H H') : Kept H O H' := fun a o h _ => g a o h
theorem Kept.trans {H H1 H2 : Hp} {O : List Addr} (a : Kept H O H1) (b : Kept H1 O H2) : Kept H O H2 := fun x o h n => b x o (a x o h n) n
section
variable {K : PySem.W.Frag} {cm : Cm} {H H' : Hp} {Z Z' : Zn}
theorem cell_kept {O : List Addr} (k : Kept H O H') (mu : ∀ a ∈ O, Mut (H a)) (nz : ∀ a ∈ O, ¬ Z.f a ∧ ¬ Z.b a ∧ ¬ Z.t a) (f : ∀ a, Z.f a → Z'.f a) (b : ∀ a, Z.b a → Z'.b a) (t : ∀ a, Z.t a → Z'.t a) :
    CellMove K cm H H' Z Z' id (fun a => a ∉ O) := fun a kd vs h ho => by
  have nm : ∀ u, Mut (some u) = False → H a = some u → a ∉ O := fun u e q z => by have := mu a z; rw [q, e] at this; exact this
  have ne : ∀ fl : Fl, (fl = .own → a ∉ O) → Z.ok a fl → a ∉ O := fun fl h1 h2 z => by
    obtain ⟨n1, n2, n3⟩ := nz a z
    cases fl with
    | own => exact h1 rfl z
    | frz => exact n1 h2
    | bor => exact n2 h2
    | tmp => exact n3 h2
  have rd : ∀ u, a ∉ O → Rd H a u → Rd H' a u := fun u n r => by
    rcases r with r | ⟨ob, r⟩
    · exact .inl (k a _ r n)
    · exact .inr ⟨ob, k a _ r n⟩
  cases kd with
  | tup =>
    rcases h with (h | ⟨ob, h⟩) | h
    · exact .inl (.inl (k a _ h (nm _ rfl h)))
    · exact .inl (.inr ⟨ob, k a _ h (nm _ rfl h)⟩)
    · exact .inr h
  | lst fl =>
    have n := ne fl (fun e => ho (by rw [e]; rfl)) h.2.2
    exact ⟨fun e => k a _ (h.1 e) n, rd _ n h.2.1, Zn.ok_mono f b t h.2.2⟩
  | dct fl ks =>
    have n := ne fl (fun e => ho (by rw [e]; rfl)) h.2.2.2
    exact ⟨fun e => k a _ (h.1 e) n, rd _ n h.2.1, h.2.2.1, Zn.ok_mono f b t h.2.2.2⟩
  | obj fl c fs =>
    have n := ne fl (fun e => ho (by rw [e]; rfl)) h.2.2
    obtain ⟨⟨dx, e⟩, l, q⟩ := h
    exact ⟨⟨dx, k a _ e n⟩, l, Zn.ok_mono f b t q⟩
  | adr fl b' =>
    obtain ⟨h1, h2, h3, ⟨us, h4⟩, h5⟩ := h
    exact ⟨h1, h2, h3, ⟨us, rd _ (ne fl (fun e => absurd e h1) h5) h4⟩, Zn.ok_mono f b t h5⟩
  | exc fl c fs =>
    have n := ne fl (fun e => ho (by rw [e]; rfl)) h.2.2
    obtain ⟨⟨dx, e, q⟩, l, z⟩ := h
    refine ⟨⟨dx, k a _ e n, ?_⟩, l, Zn.ok_mono f b t z⟩
    cases dx with
    | none => exact q
    | some d =>
      refine k d _ q fun hd => ?_
      have q : H d = some (.xd (fs.zip vs)) := q
      have := mu d hd
      rw [q] at this
      exact this
theorem Rep.kept {O : List Addr} {d : D} {v : V} {F : List Addr} (h : Rep K cm H Z d v F) (k : Kept H O H') (mu : ∀ a ∈ O, Mut (H a)) (nz : ∀ a ∈ O, ¬ Z.f a ∧ ¬ Z.b a ∧ ¬ Z.t a) (f : ∀ a, Z.f a → Z'.f a) (b : ∀ a, Z.b a → Z'.b a) (t : ∀ a, Z.t a → Z'.t a)
    (nF : ∀ a ∈ F, a ∉ O) : Rep K cm H' Z' d v F := h.stay (cell_kept k mu nz f b t) nF
/-- to lend -/
theorem cell_dom {a : Addr} {k : Kd} {vs : List V} (h : Cell K cm H Z a k vs) (n : k ≠ .tup) : H a ≠ none := by
  cases k with
  | tup => exact absurd rfl n
  | lst f =>
    rcases h.2.1 with h | ⟨o, h⟩
    · exact fun z => by rw [z] at h; cases h
    · exact fun z => by rw [z] at h; cases h
  | dct f ks =>
    rcases h.2.1 with h | ⟨o, h⟩
    · exact fun z => by rw [z] at h; cases h
    · exact fun z => by rw [z] at h; cases h
  | obj f c fs =>
    obtain ⟨⟨dx, e⟩, _⟩ := h
    exact fun z => by rw [z] at e; cases e
  | adr f b =>
    obtain ⟨_, _, _, ⟨us, h⟩, _⟩ := h
    rcases h with h | ⟨o, h⟩
    · exact fun z => by rw [z] at h; cases h
    · exact fun z => by rw [z] at h; cases h
  | exc f c fs =>
    obtain ⟨⟨dx, e, _⟩, _⟩ := h
    exact fun z => by rw [z] at e; cases e
end
/-- handed over: a new thing is frozen, what is lent is borrowed -/
def Fl.toArg : Fl → Fl
  | .own => .frz
  | .frz => .frz
  | .bor => .bor
  | .tmp => .bor
def toArg (d : D) : D := mapF Fl.toArg d
def lentZ (H : Hp) (f : Addr → Prop) : Zn := ⟨f, fun a => H a ≠ none, fun _ => False⟩
theorem dom_lent {H : Hp} {f : Addr → Prop} (hf : ∀ a, f a → H a ≠ none) : Dom H (lentZ H f) := ⟨hf, fun _ h => h, fun _ h => h.elim⟩
section
variable {K : PySem.W.Frag} {cm : Cm} {H H' : Hp} {Z Z' : Zn}
theorem cell_arg {f : Addr → Prop} {O : Addr → Prop} (hO : ∀ a, O a → f a) (hf : ∀ a, Z.f a → f a) : CellMove K cm H H Z (lentZ H f) Fl.toArg O := fun a k vs h o => by
  have key : ∀ fl : Fl, k.fl = some fl → Z.ok a fl → (lentZ H f).ok a fl.toArg := fun fl e z => by
    have nt : k ≠ .tup := fun q => by rw [q] at e; cases e
    cases fl with
    | own => exact hO a (o (by unfold Kd.isOwn; rw [e]; rfl))
    | frz => exact hf a z
    | bor => exact cell_dom h nt
    | tmp => exact cell_dom h nt
  cases k with
  | tup => exact h
  | lst fl => exact ⟨(fun e => by cases fl <;> cases e), h.2.1, key fl rfl h.2.2⟩
  | dct fl ks => exact ⟨(fun e => by cases fl <;> cases e), h.2.1, h.2.2.1, key fl rfl h.2.2.2⟩
  | obj fl c fs => exact ⟨h.1, h.2.1, key fl rfl h.2.2⟩
  | exc fl c fs => exact ⟨h.1, h.2.1, key fl rfl h.2.2⟩
  | adr fl b => exact ⟨(fun z => by cases fl <;> cases z), h.2.1, h.2.2.1, h.2.2.2.1, key fl rfl h.2.2.2.2⟩
theorem RepL.arg {f : Addr → Prop} {ds : List D} {vs : List V} {Fs : List (List Addr)} (h : RepL K cm H Z ds vs Fs) (hO : ∀ a ∈ Fs.flatten, f a) (hf : ∀ a, Z.f a → f a) : ∃ Gs, Gs.flatten = [] ∧ RepL K cm H (lentZ H f) (ds.map toArg) vs Gs := by
  obtain ⟨Gs, a, b⟩ := RepL.give (g := Fl.toArg) (O := fun a => a ∈ Fs.flatten) (Z' := lentZ H f) (cell_arg hO hf) (fun f e => by cases f <;> cases e) ds h fun _ h => h
  rw [mapFL_eq] at b
  exact ⟨Gs, a, b⟩
end

/-! ### the promise of a def that changes nothing -/
def spP (K : PySem.W.Frag) (cm : Cm) (n : Nat) (m : List D → Ot D) : Sp := fun vs H Q E => ∃ f ds Gs, (∀ a, f a → H a ≠ none) ∧ ds.length = n ∧ Gs.flatten = [] ∧ RepL K cm H (lentZ H f) ds vs Gs ∧ FinD K cm (fun cls dd _ H' => E cls dd H') [] H (lentZ H f) Q (m ds)
theorem spP_len {K : PySem.W.Frag} {cm : Cm} {n : Nat} {m : List D → Ot D} {vs : List V} {H : Hp} {Q : VK} {E : XK} (h : spP K cm n m vs H Q E) : vs.length = n := by
  obtain ⟨f, ds, Gs, _, e, _, r, _⟩ := h
  rw [r.len.1, e]
/-- what comes back must be new or frozen -/
def back : Ot D → Ot D
  | .no => .no
  | .ok r => if noB r then .ok r else .no
  | .ex x => .ex x
/-- a call's value -/
def eCall (m : List D → Ot D) (dd : List D) (fs : List (En → Ot D)) : En → Ot D := fun ρ => (eL fs ρ).bind fun ds => back (m (ds.map toArg ++ dd))
section
variable {X : Cx} {cm : Cm} {W : WX}
/-- the call itself, behind its arguments -/
theorem call_end {K : PySem.W.Frag} {m : List D → Ot D} {n : Nat} {dd : List D} {fs : List (En → Ot D)} {dvs : List V} (hdd : dd.all isAt = true) (hdv : dvs = dd.map toV) (hlen : fs.length + dd.length = n) {σ : L2.St} {H : Hp} {Q : VK} (q0 : tP K cm W (eCall m dd fs) σ H Q) :
    tPL K cm W (eL fs) σ H (fun vs H1 => spP K cm n m (vs ++ dvs) H1 Q (fun cls d H' => W cls d σ H')) := by
  obtain ⟨Z, ρ, Fs, ok, q0⟩ := q0
  refine ⟨Z, ρ, Fs, ok, ?_⟩
  unfold eCall at q0
  cases q : eL fs ρ with
  | no => rw [q] at q0; exact q0
  | ex x => rw [q] at q0; exact q0
  | ok ds =>
    rw [q, Ot.bind_ok] at q0
    intro vs H1 Z1 Gs r1
    have dm1 := ok.dom.ext r1.ext
    obtain ⟨Ms, e1, e2⟩ := r1.rep.arg (f := fun a => Z1.f a ∨ a ∈ Gs.flatten) (fun a h => .inr h) (fun a h => .inl h)
    have rdd : ∀ (l : List D), l.all isAt = true → ∀ (Z2 : Zn), RepL K cm H1 Z2 l (l.map toV) (l.map fun _ => []) := by
      intro l
      induction l with
      | nil => exact fun _ _ => repL_nil
      | cons d l ih =>
        intro hl Z2
        rw [List.all_cons, Bool.and_eq_true] at hl
        refine repL_cons ?_ (ih hl.2 Z2)
        cases d with
        | nd k ds => cases hl.1
        | non => exact ⟨rfl, rfl⟩
        | bl b => exact ⟨rfl, rfl⟩
        | int i => exact ⟨rfl, rfl⟩
        | str s => exact ⟨rfl, rfl⟩
    have fl0 : ∀ l : List D, (l.map fun _ => ([] : List Addr)).flatten = [] := fun l => by induction l with
      | nil => rfl
      | cons d l ih => rw [List.map_cons, List.flatten_cons, ih]; rfl
    have hm := RepL.mut ds r1.rep
    have len : ds.length = fs.length := by
      have : ∀ (fs : List (En → Ot D)) (ds : List D), eL fs ρ = .ok ds → ds.length = fs.length := by
        intro fs
        induction fs with
        | nil => intro ds h; cases h; rfl
        | cons f fs ih =>
          intro ds h
          unfold eL at h
          cases q1 : f ρ with
          | no => rw [q1] at h; cases h
          | ex x => rw [q1] at h; cases h
          | ok d =>
            rw [q1, Ot.bind_ok] at h
            cases q2 : eL fs ρ with
            | no => rw [q2] at h; cases h
            | ex x => rw [q2] at h; cases h
            | ok es => rw [q2, Ot.bind_ok] at h; cases h; simp [ih es q2]
      exact this fs ds q
    refine ⟨fun a => Z1.f a ∨ a ∈ Gs.flatten, ds.map toArg ++ dd, Ms ++ (dd.map fun _ => []), fun a h => h.elim (dm1.f a) fun z => mut_ne (hm a z), by simp [len, hlen], by rw [List.flatten_append, e1, fl0]; rfl, ?_, ?_⟩
    · rw [hdv]; exact e2.app (rdd dd hdd _)
    · have extB : ∀ {H2 : Hp} {Z2 : Zn}, Ext H1 (lentZ H1 fun a => Z1.f a ∨ a ∈ Gs.flatten) H2 Z2 → Ext H Z H2 ⟨Z2.f, Z.b, Z.t⟩ := fun {H2 Z2} e =>
        ⟨r1.ext.gr.trans e.gr, fun a h => e.f a (.inl (r1.ext.f a h)), fun a h => (e.fn a h).elim (fun q => q.elim (r1.ext.fn a) fun z => .inr (r1.new a z)) fun q => .inr (r1.ext.gr.back q), e.fd, rfl, rfl⟩
      cases q2 : m (ds.map toArg ++ dd) with
      | no => rw [q2] at q0; exact q0
      | ok r =>
        rw [q2] at q0
        have q0 : FinD K cm W σ H Z Q (if noB r then .ok r else .no) := q0
        split at q0
        · rename_i nb
          intro v H2 Z2 F r2
          exact q0 v H2 ⟨Z2.f, Z.b, Z.t⟩ F ⟨extB r2.ext, noB_only r2.rep nb fun _ h => h, r2.nd, fun a h => .inl (r1.ext.gr.back (r2.new a h)), r2.nf⟩
        · exact q0.elim
      | ex x =>
        rw [q2] at q0
        have q0 : FinD K cm W σ H Z Q (.ex x) := q0
        intro cls d H2 Z2 e xr
        exact q0 cls d H2 ⟨Z2.f, Z.b, Z.t⟩ (extB e) (xr.back fun _ h => h)
variable {k : Nat} {f : Addr} {fd : FuncData} {ps : List Str} {n : Nat} {m : List D → Ot D} {dd : List D} {dvs : List V} {ds : List Value} {x : Str} {p pos : Pos} {e : Expr} {es : List Expr} {fs : List (En → Ot D)}
theorem s_call (tk : Takes X W) (F : FnOk X.prog X.w X.K X.mg X.base (L2.CX X.prog X.w) k f fd ps (spP X.K cm n m)) (hr : Room k X.A) (hg : Gl X x) (hm : X.mg x = some (.ref f)) (hk : PySem.W.keepIn X.K (.ref f) = true) (hb : Binds X.K fd ps ds) (hd : Vals dvs ds)
    (hdd : dd.all isAt = true) (hdv : dvs = dd.map toV) (hlen : fs.length + dd.length = n) (ha : SA X cm W (e :: es) (eL fs))
    (hdb : (x == ("__debug__" : Str)) = false := by decide) (he : starEach (e :: es) X.env = (false, eval e X.env) :: starEach es X.env := by rfl) (hpl : (backTo pos (starEach es X.env)).any (·.1) = false := by rfl) :
    SE X cm W (.Call (.Name x p) (e :: es) [] pos) (eCall m dd fs) :=
  PE.imp (pe_callSD (E := fun σ cls d H => W cls d σ H) F hr hg hm hk hb hd (fun σ => passAt tk σ) ha hdb he hpl) fun σ H Q q0 => call_end hdd hdv hlen q0
/-- without arguments: no exception is let out -/
def noX : Ot D → Ot D
  | .ok d => .ok d
  | _ => .no
theorem s_call0 (F : FnOk X.prog X.w X.K X.mg X.base (L2.CX X.prog X.w) k f fd ps (spP X.K cm n m)) (hr : Room k X.A) (hg : Gl X x) (hm : X.mg x = some (.ref f)) (hk : PySem.W.keepIn X.K (.ref f) = true) (hb : Binds X.K fd ps ds) (hd : Vals dvs ds)
    (hdd : dd.all isAt = true) (hdv : dvs = dd.map toV) (hlen : dd.length = n) (hdb : (x == ("__debug__" : Str)) = false := by decide) :
    SE X cm W (.Call (.Name x p) [] [] pos) (fun ρ => noX (eCall m dd [] ρ)) :=
  PE.imp (pe_call0 (E := E0) F hr hg hm hk hb hd passL hdb) fun σ H Q q0 => by
    have q1 : tP X.K cm (fun _ _ _ _ => False) (eCall m dd []) σ H Q := by
      obtain ⟨Z, ρ, Fs, ok, q0⟩ := q0
      refine ⟨Z, ρ, Fs, ok, ?_⟩
      have q0 : FinD X.K cm W σ H Z Q (noX (eCall m dd [] ρ)) := q0
      cases q : eCall m dd [] ρ with
      | no => rw [q] at q0; exact q0.elim
      | ok d => rw [q] at q0; exact q0
      | ex x => rw [q] at q0; exact q0.elim
    have q2 := call_end (n := n) hdd hdv (by simpa using hlen) q1
    obtain ⟨Z, ρ, Fs, ok, q3⟩ := q2
    exact q3 [] H Z [] (.nil ok.dom)
end
end OB

namespace OB
open PySem PySem.Spec PyProof.Rows L2

def Fl.toFrz : Fl → Fl
  | .own => .frz
  | f => f
def toFrz (d : D) : D := mapF Fl.toFrz d
def noT (d : D) : Bool := allF (fun f => f != .tmp) d
def Safe (H : Hp) (O : List Addr) (Z : Zn) : Prop := ∀ a ∈ O, Mut (H a) ∧ ¬ Z.f a ∧ ¬ Z.b a ∧ ¬ Z.t a
structure Walks (K : PySem.W.Frag) (cm : Cm) (J : It) (H : Hp) (O : List Addr) (Z : Zn) (ds : List D) : Prop where
  go : ∀ i H2, Kept H O H2 → i < ds.length → J.go i H2
  stop : ∀ i H2, Kept H O H2 → ds.length ≤ i → J.stop i H2
  yld : ∀ i H2 x H3, Kept H O H2 → J.yld i H2 x H3 → ∀ d, ds[i]? = some d → Grow H2 H3 ∧ Rep K cm H3 Z d x []
/-- the items, and whether none of them is lent -/
abbrev Its' := List D × Bool
def FinI (K : PySem.W.Frag) (cm : Cm) (W : WX) (σ : L2.St) (H : Hp) (Z : Zn) (R : It → Hp → Prop) : Ot Its' → Prop
  | .no => False
  | .ok p => ∀ J H' Z', Ext H Z H' Z' → (∀ O t', (p.2 = true ∨ t' = Z'.t) → Safe H' O ⟨Z'.f, Z'.b, t'⟩ → Walks K cm J H' O ⟨Z'.f, Z'.b, t'⟩ p.1) → R J H'
  | .ex x => ∀ cls dd H' Z', Ext H Z H' Z' → XRep K cm H' Z' x cls dd → W cls dd σ H'
def tPI (K : PySem.W.Frag) (cm : Cm) (W : WX) (g : En → Ot Its') : TI := fun σ H R => ∃ Z ρ Fs, OkP K cm H σ ρ Fs Z ∧ FinI K cm W σ H Z R (g ρ)
abbrev SI (X : Cx) (cm : Cm) (W : WX) (tg e : Expr) (g : En → Ot Its') : Prop := PI X tg e (tPI X.K cm W g)
theorem PI.imp {X : Cx} {tg e : Expr} {t t' : TI} (h : PI X tg e t) (i : ∀ σ H R, t' σ H R → t σ H R) : PI X tg e t' := ⟨fun pins s σ H R I q => h.run pins s σ H R I (i σ H R q)⟩
theorem PI.or {X : Cx} {tg e : Expr} {t t' : TI} (h : PI X tg e t) (h' : PI X tg e t') : PI X tg e (fun σ H R => t σ H R ∨ t' σ H R) := ⟨fun pins s σ H R I q => q.elim (h.run pins s σ H R I) (h'.run pins s σ H R I)⟩
def itemsD : D → Option Its'
  | .nd (.lst f) ds => some (ds.map toFrz, f != .tmp && ds.all noT)
  | .nd .tup ds => some (ds.map toFrz, ds.all noT)
  | .str s => some (s.cps.toList.map fun c => .str ⟨#[c]⟩, true)
  | _ => none
def itV (f : En → Ot D) : En → Ot Its' := fun ρ => (f ρ).bind fun d => .of (itemsD d)
section
variable {K : PySem.W.Frag} {cm : Cm} {H : Hp} {O : List Addr} {Z : Zn}
theorem Safe.kept {H' : Hp} (s : Safe H O Z) (k : Kept H O H') {d : D} {v : V} (r : Rep K cm H Z d v []) : Rep K cm H' Z d v [] :=
  r.kept k (fun a h => (s a h).1) (fun a h => (s a h).2) (fun _ h => h) (fun _ h => h) (fun _ h => h) (fun _ h => nomatch h)
theorem Kept.rd {H' : Hp} {a : Addr} {u : HO} (k : Kept H O H') (n : a ∉ O) (h : Rd H a u) : Rd H' a u := by
  rcases h with h | ⟨o, h⟩
  · exact .inl (k _ _ h n)
  · exact .inr ⟨o, k _ _ h n⟩
theorem walk_list {a : Addr} {vs : List V} {ds : List D} {Gs : List (List Addr)} (h : Rd H a (.lst vs)) (n : a ∉ O) (s : Safe H O Z) (r : RepL K cm H Z ds vs Gs) (e : Gs.flatten = []) : Walks K cm (Itl K a) H O Z ds := by
  have len := r.len.1
  refine ⟨fun i H2 k l => ⟨vs, vs[i]'(by omega), rdL (k.rd n h), by simp⟩, fun i H2 k l => ⟨vs, rdL (k.rd n h), by omega⟩, fun i H2 x H3 k y d hd => ?_⟩
  obtain ⟨rfl, y⟩ := y
  obtain ⟨v, F, e1, e2, e3⟩ := r.get hd
  have e4 := y vs (rdL (k.rd n h))
  rw [e1] at e4
  cases e4
  have eF : F = [] := List.eq_nil_iff_forall_not_mem.mpr fun z hz => by
    have := flat_mem e2 hz
    rw [e] at this; cases this
  subst eF
  exact ⟨.refl _, s.kept k e3⟩
theorem walk_tup {a : Addr} {vs : List V} {ds : List D} {Gs : List (List Addr)} (h : SqT K H a vs) (s : Safe H O Z) (r : RepL K cm H Z ds vs Gs) (e : Gs.flatten = []) : Walks K cm (Itt K a) H O Z ds := by
  have len := r.len.1
  have ht : ∀ H2, Kept H O H2 → SqT K H2 a vs := fun H2 k => by
    have nm : ∀ u, Mut (some u) = False → H a = some u → a ∉ O := fun u e q z => by have := (s a z).1; rw [q, e] at this; exact this
    rcases h with (h | ⟨ob, h⟩) | h
    · exact .inl (.inl (k a _ h (nm _ rfl h)))
    · exact .inl (.inr ⟨ob, k a _ h (nm _ rfl h)⟩)
    · exact .inr h
  refine ⟨fun i H2 k l => ⟨vs, vs[i]'(by omega), ht H2 k, by simp⟩, fun i H2 k l => ⟨vs, ht H2 k, by omega⟩, fun i H2 x H3 k y d hd => ?_⟩
  obtain ⟨rfl, y⟩ := y
  obtain ⟨v, F, e1, e2, e3⟩ := r.get hd
  have e4 := y vs (ht H3 k)
  rw [e1] at e4
  cases e4
  have eF : F = [] := List.eq_nil_iff_forall_not_mem.mpr fun z hz => by
    have := flat_mem e2 hz
    rw [e] at this; cases this
  subst eF
  exact ⟨.refl _, s.kept k e3⟩
theorem walk_str {x : Str} : Walks K cm (Its x) H O Z (x.cps.toList.map fun c => .str ⟨#[c]⟩) := by
  refine ⟨fun i H2 k l => (show i < x.cps.size by simpa using l), fun i H2 k l => (show x.cps.size ≤ i by simpa using l), fun i H2 v H3 k y d hd => ?_⟩
  obtain ⟨rfl, c, e, rfl⟩ := y
  have e2 : x.cps.toList[i]? = some c := by simpa using e
  rw [List.getElem?_map, e2] at hd
  cases hd
  exact ⟨.refl _, rep_str⟩
theorem walk_rng {lo : Int} {n : Nat} : Walks K cm (Itr lo n) H O Z ((List.range n).map fun i : Nat => .int (lo + (i : Int))) := by
  refine ⟨fun i H2 k l => (show i < n by simpa using l), fun i H2 k l => (show n ≤ i by simpa using l), fun i H2 v H3 k y d hd => ?_⟩
  obtain ⟨rfl, rfl⟩ := y
  rw [List.getElem?_map] at hd
  by_cases hi : i < n
  · rw [List.getElem?_range hi] at hd
    cases hd
    exact ⟨.refl _, rep_int⟩
  · rw [List.getElem?_eq_none (by simpa using hi)] at hd
    cases hd
theorem walk_rngC {lo c : Int} {n : Nat} : Walks K cm (Itc lo c n) H O Z ((List.range n).map fun i : Nat => .int (lo + (i : Int) * c)) := by
  refine ⟨fun i H2 k l => (show i < n by simpa using l), fun i H2 k l => (show n ≤ i by simpa using l), fun i H2 v H3 k y d hd => ?_⟩
  obtain ⟨rfl, rfl⟩ := y
  rw [List.getElem?_map] at hd
  by_cases hi : i < n
  · rw [List.getElem?_range hi] at hd
    cases hd
    exact ⟨.refl _, rep_int⟩
  · rw [List.getElem?_eq_none (by simpa using hi)] at hd
    cases hd
/-- enumerate -/
def enumD (ds : List D) : List D := (List.range ds.length).zipWith (fun (i : Nat) d => .nd .tup [.int (i : Int), d]) ds
theorem enumD_get {ds : List D} {i : Nat} {e : D} (h : (enumD ds)[i]? = some e) : ∃ d, ds[i]? = some d ∧ e = .nd .tup [.int (i : Int), d] := by
  unfold enumD at h
  rw [List.getElem?_zipWith] at h
  cases q : ds[i]? with
  | none => rw [q] at h; cases q2 : (List.range ds.length)[i]? <;> rw [q2] at h <;> cases h
  | some d =>
    have hi : i < ds.length := (List.getElem?_eq_some_iff.mp q).1
    rw [q, List.getElem?_range hi] at h
    cases h
    exact ⟨d, rfl, rfl⟩
theorem walk_enum {a : Addr} {vs : List V} {ds : List D} {Gs : List (List Addr)} (h : Rd H a (.lst vs)) (n : a ∉ O) (s : Safe H O Z) (r : RepL K cm H Z ds vs Gs) (e : Gs.flatten = []) : Walks K cm (Ite K a) H O Z (enumD ds) := by
  have len := r.len.1
  have len2 : (enumD ds).length = ds.length := by unfold enumD; simp
  refine ⟨fun i H2 k l => ⟨vs, vs[i]'(by omega), rdL (k.rd n h), by simp⟩, fun i H2 k l => ⟨vs, rdL (k.rd n h), by omega⟩, fun i H2 x H3 k y d hd => ?_⟩
  obtain ⟨T, x, rfl, hT, rfl, y⟩ := y
  obtain ⟨d0, hd0, rfl⟩ := enumD_get hd
  obtain ⟨v, F, e1, e2, e3⟩ := r.get hd0
  have e4 := y vs (rdL (k.rd n h))
  rw [e1] at e4
  cases e4
  have eF : F = [] := List.eq_nil_iff_forall_not_mem.mpr fun z hz => by
    have := flat_mem e2 hz
    rw [e] at this; cases this
  subst eF
  have g : Grow H2 (upd H2 T (.tup [.int (i : Nat), x])) := .new hT
  refine ⟨g, ⟨T, _, [[], []], rfl, SqT.of upd_same, repL_cons rep_int (repL_cons ?_ repL_nil), rfl⟩⟩
  exact (s.kept k e3).grow g (fun _ h => h) (fun _ h => h) (fun _ h => h)
/-- zip -/
def zipD (ds es : List D) : List D := ds.zipWith (fun a b => .nd .tup [a, b]) es
theorem zipD_get {ds es : List D} {i : Nat} {e : D} (h : (zipD ds es)[i]? = some e) : ∃ d d', ds[i]? = some d ∧ es[i]? = some d' ∧ e = .nd .tup [d, d'] := by
  unfold zipD at h
  rw [List.getElem?_zipWith] at h
  cases q : ds[i]? with
  | none => rw [q] at h; cases q2 : es[i]? <;> rw [q2] at h <;> cases h
  | some d =>
    cases q2 : es[i]? with
    | none => rw [q, q2] at h; cases h
    | some d' => rw [q, q2] at h; cases h; exact ⟨d, d', rfl, rfl, rfl⟩
theorem walk_zip {a b : Addr} {vs us : List V} {ds es : List D} {Gs Ms : List (List Addr)} (h : Rd H a (.lst vs)) (h' : Rd H b (.lst us)) (n : a ∉ O) (n' : b ∉ O) (s : Safe H O Z) (r : RepL K cm H Z ds vs Gs) (r' : RepL K cm H Z es us Ms) (e : Gs.flatten = []) (e' : Ms.flatten = []) :
    Walks K cm (Itz K a b) H O Z (zipD ds es) := by
  have len := r.len.1
  have len' := r'.len.1
  have len2 : (zipD ds es).length = min ds.length es.length := by unfold zipD; simp
  have nilOf : ∀ {Gs : List (List Addr)} {F : List Addr} {i : Nat}, Gs.flatten = [] → Gs[i]? = some F → F = [] := fun {Gs F i} e e2 => List.eq_nil_iff_forall_not_mem.mpr fun z hz => by
    have := flat_mem e2 hz
    rw [e] at this; cases this
  refine ⟨fun i H2 k l => ⟨vs, us, vs[i]'(by omega), us[i]'(by omega), rdL (k.rd n h), rdL (k.rd n' h'), by simp, by simp⟩, fun i H2 k l => ⟨vs, us, rdL (k.rd n h), rdL (k.rd n' h'), by omega⟩, fun i H2 x H3 k y d hd => ?_⟩
  obtain ⟨T, x, x', rfl, hT, rfl, y, y'⟩ := y
  obtain ⟨d0, d1, hd0, hd1, rfl⟩ := zipD_get hd
  obtain ⟨v, F, e1, e2, e3⟩ := r.get hd0
  obtain ⟨v', F', e1', e2', e3'⟩ := r'.get hd1
  have e4 := y vs (rdL (k.rd n h))
  have e4' := y' us (rdL (k.rd n' h'))
  rw [e1] at e4
  rw [e1'] at e4'
  cases e4
  cases e4'
  have eF := nilOf e e2
  have eF' := nilOf e' e2'
  subst eF eF'
  have g : Grow H2 (upd H2 T (.tup [x, x'])) := .new hT
  refine ⟨g, ⟨T, _, [[], []], rfl, SqT.of upd_same, repL_cons ?_ (repL_cons ?_ repL_nil), rfl⟩⟩
  · exact (s.kept k e3).grow g (fun _ h => h) (fun _ h => h) (fun _ h => h)
  · exact (s.kept k e3').grow g (fun _ h => h) (fun _ h => h) (fun _ h => h)
/-- reversed -/
theorem walk_rev {a : Addr} {vs : List V} {ds : List D} {Gs : List (List Addr)} (h : Rd H a (.lst vs)) (n : a ∉ O) (s : Safe H O Z) (r : RepL K cm H Z ds vs Gs) (e : Gs.flatten = []) : Walks K cm (Itv K a vs.length) H O Z ds.reverse := by
  have len := r.len.1
  refine ⟨fun i H2 k l => ⟨by simpa [len] using l, vs, vs[vs.length - 1 - i]'(by simp at l; omega), rdL (k.rd n h), by simp⟩, fun i H2 k l => (show vs.length ≤ i by simpa [len] using l), fun i H2 x H3 k y d hd => ?_⟩
  obtain ⟨rfl, y⟩ := y
  have hi : i < ds.length := by
    have := (List.getElem?_eq_some_iff.mp hd).1
    simpa using this
  rw [List.getElem?_reverse hi] at hd
  obtain ⟨v, F, e1, e2, e3⟩ := r.get hd
  have e4 := y vs (rdL (k.rd n h))
  rw [len] at e4
  rw [e1] at e4
  cases e4
  have eF : F = [] := List.eq_nil_iff_forall_not_mem.mpr fun z hz => by
    have := flat_mem e2 hz
    rw [e] at this; cases this
  subst eF
  exact ⟨.refl _, s.kept k e3⟩
end
/-! ### a sequence's value, ready to be walked: what is new in it is frozen -/
def noTK : Kd → Bool
  | .lst f => f != .tmp
  | .dct f _ => f != .tmp
  | .obj f _ _ => f != .tmp
  | .exc f _ _ => f != .tmp
  | .adr f _ => f != .tmp
  | .tup => true
section
variable {K : PySem.W.Frag} {cm : Cm} {H H1 : Hp} {Z Z1 : Zn}
/-- the frozen view -/
def frzZ (Z1 : Zn) (F : List Addr) : Zn := ⟨fun a => Z1.f a ∨ a ∈ F, Z1.b, Z1.t⟩
theorem Res.frzExt {d : D} {v : V} {F : List Addr} (r : Res K cm H Z H1 Z1 [] d v F) : Ext H Z H1 (frzZ Z1 F) := by
  have hm := Rep.mut d r.rep
  exact ⟨r.ext.gr, fun a h => .inl (r.ext.f a h), fun a h => h.elim (r.ext.fn a) fun q => .inr (r.new a q), fun a h => h.elim (r.ext.fd a) fun q => mut_ne (hm a q), r.ext.b, r.ext.t⟩
theorem RepL.frz {F : List Addr} {ds : List D} {vs : List V} {Fs : List (List Addr)} (r : RepL K cm H Z1 ds vs Fs) (hF : ∀ a ∈ Fs.flatten, a ∈ F) : ∃ Gs, Gs.flatten = [] ∧ RepL K cm H (frzZ Z1 F) (ds.map toFrz) vs Gs := by
  obtain ⟨Gs, a, b⟩ := RepL.give (g := Fl.toFrz) (O := fun a => a ∈ F) (Z' := frzZ Z1 F) (cell_flag (fun a ha f ef _ => by subst ef; exact .inr ha) (fun a f hf hz => by cases f with
      | own => exact absurd rfl hf
      | frz => exact .inl hz
      | _ => exact hz) (fun f e => by cases f <;> first | rfl | cases e)) (fun f e => by cases f <;> cases e) ds r fun a h => hF a h
  rw [mapFL_eq] at b
  exact ⟨Gs, a, b⟩
theorem noT_frz : ∀ {ds : List D}, ds.all noT = true → allFL (fun f => f != .tmp) (ds.map toFrz) = true
  | [], _ => rfl
  | d :: ds, h => by
    rw [List.all_cons, Bool.and_eq_true] at h
    rw [List.map_cons, allFL, noT_frz h.2, Bool.and_true]
    exact allF_mapF (p := fun f => f != .tmp) (fun f hf => by cases f <;> first | rfl | exact hf) d h.1

end
/-! ### the rules for what is walked -/
theorem allF_or {p : Fl → Bool} {Z Z' : Zn} (h : ∀ a f, p f = true → Z.ok a f → Z'.ok a f) : True := trivial
section
variable {X : Cx} {cm : Cm} {W : WX} {tg e e2 : Expr} {f g : En → Ot D} {p pos : Pos}
/-- a list's value, about to be walked -/
theorem seq_ready {K : PySem.W.Frag} {H H1 : Hp} {Z Z1 : Zn} {v : V} {F : List Addr} {fl : Fl} {ds : List D} (r : Res K cm H Z H1 Z1 [] (.nd (.lst fl) ds) v F) : ∃ a vs Gs, v = .ref a ∧ Rd H1 a (.lst vs) ∧ Gs.flatten = [] ∧ RepL K cm H1 (frzZ Z1 F) (ds.map toFrz) vs Gs ∧
    Ext H Z H1 (frzZ Z1 F) ∧ ∀ O t', (fl != .tmp && ds.all noT) = true ∨ t' = (frzZ Z1 F).t → Safe H1 O ⟨(frzZ Z1 F).f, (frzZ Z1 F).b, t'⟩ → a ∉ O ∧ RepL K cm H1 ⟨(frzZ Z1 F).f, (frzZ Z1 F).b, t'⟩ (ds.map toFrz) vs Gs := by
  have ext := r.frzExt
  obtain ⟨a, vs, Fs, rfl, hc, hl, rfl⟩ := r.rep
  obtain ⟨Gs, e1, e2⟩ := hl.frz (F := ownA (.lst fl) a ++ Fs.flatten) fun x hx => List.mem_append_right _ hx
  refine ⟨a, vs, Gs, rfl, hc.2.1, e1, e2, ext, fun O t' ht s => ⟨fun ha => ?_, ?_⟩⟩
  · obtain ⟨_, n1, n2, n3⟩ := s a ha
    cases fl with
    | own => exact n1 (.inr (List.mem_append_left _ (by simp [ownA, Kd.isOwn, Kd.fl])))
    | frz => exact n1 (.inl hc.2.2)
    | bor => exact n2 hc.2.2
    | tmp =>
      rcases ht with ht | ht
      · cases ht
      · rw [ht] at n3; exact n3 hc.2.2
  · rcases ht with ht | ht
    · rw [Bool.and_eq_true] at ht
      refine RepL.only (pf := fun f => f != .tmp) (fun a f hf hz => ?_) _ e2 (noT_frz ht.2)
      cases f with
      | tmp => cases hf
      | _ => exact hz
    · rw [ht]; exact e2
theorem tup_ready {K : PySem.W.Frag} {H H1 : Hp} {Z Z1 : Zn} {v : V} {F : List Addr} {ds : List D} (r : Res K cm H Z H1 Z1 [] (.nd .tup ds) v F) : ∃ a vs Gs, v = .ref a ∧ SqT K H1 a vs ∧ Gs.flatten = [] ∧ RepL K cm H1 (frzZ Z1 F) (ds.map toFrz) vs Gs ∧
    Ext H Z H1 (frzZ Z1 F) ∧ ∀ O t', (ds.all noT) = true ∨ t' = (frzZ Z1 F).t → Safe H1 O ⟨(frzZ Z1 F).f, (frzZ Z1 F).b, t'⟩ → RepL K cm H1 ⟨(frzZ Z1 F).f, (frzZ Z1 F).b, t'⟩ (ds.map toFrz) vs Gs := by
  have ext := r.frzExt
  obtain ⟨a, vs, Fs, rfl, hc, hl, rfl⟩ := r.rep
  obtain ⟨Gs, e1, e2⟩ := hl.frz (F := ownA .tup a ++ Fs.flatten) fun x hx => List.mem_append_right _ hx
  refine ⟨a, vs, Gs, rfl, hc, e1, e2, ext, fun O t' ht s => ?_⟩
  rcases ht with ht | ht
  · refine RepL.only (pf := fun f => f != .tmp) (fun a f hf hz => ?_) _ e2 (noT_frz ht)
    cases f with
    | tmp => cases hf
    | _ => exact hz
  · rw [ht]; exact e2
theorem si_val (he : SE X cm W e f) : SI X cm W tg e (itV f) := PI.imp (PI.or (pi_list he) (PI.or (pi_tup he) (pi_str he))) fun σ H R q0 => by
  obtain ⟨Z, ρ, Fs, ok, q0⟩ := q0
  unfold itV at q0
  cases q : f ρ with
  | no => rw [q] at q0; exact q0.elim
  | ex x =>
    rw [q] at q0
    exact .inl ⟨Z, ρ, Fs, ok, by rw [q]; exact q0⟩
  | ok d =>
    rw [q, Ot.bind_ok] at q0
    cases q2 : itemsD d with
    | none => rw [q2] at q0; exact q0.elim
    | some it =>
      rw [q2, Ot.of_some] at q0
      unfold itemsD at q2
      split at q2
      · rename_i fl ds
        cases q2
        refine .inl ⟨Z, ρ, Fs, ok, ?_⟩
        rw [q]
        intro v H1 Z1 F r1
        obtain ⟨a, vs, Gs, rfl, h1, h2, h3, h4, h5⟩ := seq_ready r1
        exact ⟨a, rfl, ⟨vs, rdL h1⟩, q0 _ H1 _ h4 fun O t' ht s => walk_list h1 (h5 O t' ht s).1 s (h5 O t' ht s).2 h2⟩
      · rename_i ds
        cases q2
        refine .inr (.inl ⟨Z, ρ, Fs, ok, ?_⟩)
        rw [q]
        intro v H1 Z1 F r1
        obtain ⟨a, vs, Gs, rfl, h1, h2, h3, h4, h5⟩ := tup_ready r1
        exact ⟨a, rfl, ⟨vs, h1⟩, q0 _ H1 _ h4 fun O t' ht s => walk_tup h1 s (h5 O t' ht s) h2⟩
      · rename_i x
        cases q2
        refine .inr (.inr ⟨Z, ρ, Fs, ok, ?_⟩)
        rw [q]
        intro v H1 Z1 F r1
        obtain ⟨rfl, rfl⟩ := r1.rep
        exact ⟨x, rfl, q0 _ H1 Z1 r1.ext fun O t' _ _ => walk_str⟩
      · cases q2
/-- range -/
def rngOk (i : Int) : Bool := decide (-(2 ^ 62) ≤ i) && decide (i < 2 ^ 62)
def rngD (lo hi : Int) : List D := (List.range (hi - lo).toNat).map fun i : Nat => .int (lo + (i : Int))
def itR1 (fs : List (En → Ot D)) : En → Ot Its' := fun ρ => (eL fs ρ).bind fun ds => match ds with
  | [.int j] => if rngOk j then .ok (rngD 0 j, true) else .no
  | _ => .no
def itR2 (fs : List (En → Ot D)) : En → Ot Its' := fun ρ => (eL fs ρ).bind fun ds => match ds with
  | [.int i, .int j] => if rngOk i && rngOk j then .ok (rngD i j, true) else .no
  | _ => .no
theorem rng_ok {i : Int} (h : rngOk i = true) : -(2 ^ 62) ≤ i ∧ i < 2 ^ 62 := by
  unfold rngOk at h
  rw [Bool.and_eq_true] at h
  exact ⟨of_decide_eq_true h.1, of_decide_eq_true h.2⟩
theorem si_r1 (hg : Gl X "range") (hm : X.mg "range" = none) (ha : SA X cm W [e] (eL [f])) (hs : starEach [e] X.env = [(false, eval e X.env)] := by rfl) : SI X cm W tg (.Call (.Name "range" p) [e] [] pos) (itR1 [f]) := PI.imp (pi_range1 hg hm ha hs) fun σ H R q0 => by
  obtain ⟨Z, ρ, Fs, ok, q0⟩ := q0
  unfold itR1 at q0
  refine ⟨Z, ρ, Fs, ok, ?_⟩
  cases q : eL [f] ρ with
  | no => rw [q] at q0; exact q0
  | ex x => rw [q] at q0; exact q0
  | ok ds =>
    rw [q, Ot.bind_ok] at q0
    intro vs H1 Z1 Gs r1
    split at q0
    · rename_i j
      split at q0
      · rename_i hj
        obtain ⟨v, F, rfl, rfl, ⟨rfl, rfl⟩⟩ := repL1 r1.rep
        obtain ⟨a, b⟩ := rng_ok hj
        refine ⟨j, rfl, a, b, q0 _ H1 Z1 r1.ext fun O t' _ _ => ?_⟩
        have := walk_rng (K := X.K) (cm := cm) (H := H1) (O := O) (Z := ⟨Z1.f, Z1.b, t'⟩) (lo := 0) (n := j.toNat)
        unfold rngD
        rw [Int.sub_zero]
        exact this
      · exact q0.elim
    · exact q0.elim
theorem si_r2 (hg : Gl X "range") (hm : X.mg "range" = none) (ha : SA X cm W [e, e2] (eL [f, g])) (hs : starEach [e, e2] X.env = [(false, eval e X.env), (false, eval e2 X.env)] := by rfl) (hs2 : starEach [e2] X.env = [(false, eval e2 X.env)] := by rfl) : SI X cm W tg (.Call (.Name "range" p) [e, e2] [] pos) (itR2 [f, g]) := PI.imp (pi_range2 hg hm ha hs hs2) fun σ H R q0 => by
  obtain ⟨Z, ρ, Fs, ok, q0⟩ := q0
  unfold itR2 at q0
  refine ⟨Z, ρ, Fs, ok, ?_⟩
  cases q : eL [f, g] ρ with
  | no => rw [q] at q0; exact q0
  | ex x => rw [q] at q0; exact q0
  | ok ds =>
    rw [q, Ot.bind_ok] at q0
    intro vs H1 Z1 Gs r1
    split at q0
    · rename_i i j
      split at q0
      · rename_i hj
        rw [Bool.and_eq_true] at hj
        obtain ⟨v, u, F, G, rfl, rfl, ⟨rfl, rfl⟩, ⟨rfl, rfl⟩⟩ := repL2 r1.rep
        obtain ⟨a, b⟩ := rng_ok hj.1
        obtain ⟨a', b'⟩ := rng_ok hj.2
        exact ⟨i, j, rfl, ⟨a, b, a', b'⟩, q0 _ H1 Z1 r1.ext fun O t' _ _ => walk_rng⟩
      · exact q0.elim
    · exact q0.elim
/-- enumerate(list), reversed(list) -/
def listOf : List D → Option Its'
  | [.nd (.lst fl) ds] => some (ds.map toFrz, fl != .tmp && ds.all noT)
  | _ => none
def itEnum (fs : List (En → Ot D)) : En → Ot Its' := fun ρ => (eL fs ρ).bind fun ds => .of ((listOf ds).map fun p => (enumD p.1, p.2))
def itRev (fs : List (En → Ot D)) : En → Ot Its' := fun ρ => (eL fs ρ).bind fun ds => .of ((listOf ds).map fun p => (p.1.reverse, p.2))
theorem ResL.one {K : PySem.W.Frag} {H H1 : Hp} {Z Z1 : Zn} {d : D} {vs : List V} {Fs : List (List Addr)} (r : ResL K cm H Z H1 Z1 [] [d] vs Fs) : ∃ v F, vs = [v] ∧ Res K cm H Z H1 Z1 [] d v F := by
  obtain ⟨v, F, rfl, rfl, h⟩ := repL1 r.rep
  exact ⟨v, F, rfl, r.ext, h, by simpa using r.nd, by simpa using r.fr, by simpa using r.nf⟩
theorem ResL.two {K : PySem.W.Frag} {H H1 : Hp} {Z Z1 : Zn} {d e : D} {vs : List V} {Fs : List (List Addr)} (r : ResL K cm H Z H1 Z1 [] [d, e] vs Fs) : ∃ v u F G, vs = [v, u] ∧ Fs = [F, G] ∧ Rep K cm H1 Z1 d v F ∧ Rep K cm H1 Z1 e u G := by
  obtain ⟨v, u, F, G, rfl, rfl, h, h'⟩ := repL2 r.rep
  exact ⟨v, u, F, G, rfl, rfl, h, h'⟩
theorem si_enum {elts : List Expr} {kk : Nat} {tpos : Pos} (hg : Gl X "enumerate") (hm : X.mg "enumerate" = none) (ha : SA X cm W [e] (eL [f])) (hs : starEach [e] X.env = [(false, eval e X.env)] := by rfl) :
    SI X cm W (.Tuple elts kk tpos) (.Call (.Name "enumerate" p) [e] [] pos) (itEnum [f]) := PI.imp (pi_enum hg hm ha hs) fun σ H R q0 => by
  obtain ⟨Z, ρ, Fs, ok, q0⟩ := q0
  unfold itEnum at q0
  refine ⟨Z, ρ, Fs, ok, ?_⟩
  cases q : eL [f] ρ with
  | no => rw [q] at q0; exact q0
  | ex x => rw [q] at q0; exact q0
  | ok ds =>
    rw [q, Ot.bind_ok] at q0
    intro vs H1 Z1 Gs r1
    cases q2 : listOf ds with
    | none => rw [q2] at q0; exact q0.elim
    | some it =>
      rw [q2] at q0
      unfold listOf at q2
      split at q2
      · rename_i fl ds'
        cases q2
        obtain ⟨v, F, rfl, r2⟩ := r1.one
        obtain ⟨a, us, Ms, rfl, h1, h2, h3, h4, h5⟩ := seq_ready r2
        exact ⟨a, us, rfl, rdL h1, q0 _ H1 _ h4 fun O t' ht s => walk_enum h1 (h5 O t' ht s).1 s (h5 O t' ht s).2 h2⟩
      · cases q2
theorem si_rev (hg : Gl X "reversed") (hm : X.mg "reversed" = none) (ha : SA X cm W [e] (eL [f])) (hs : starEach [e] X.env = [(false, eval e X.env)] := by rfl) :
    SI X cm W tg (.Call (.Name "reversed" p) [e] [] pos) (itRev [f]) := PI.imp (pi_reversed hg hm ha hs) fun σ H R q0 => by
  obtain ⟨Z, ρ, Fs, ok, q0⟩ := q0
  unfold itRev at q0
  refine ⟨Z, ρ, Fs, ok, ?_⟩
  cases q : eL [f] ρ with
  | no => rw [q] at q0; exact q0
  | ex x => rw [q] at q0; exact q0
  | ok ds =>
    rw [q, Ot.bind_ok] at q0
    intro vs H1 Z1 Gs r1
    cases q2 : listOf ds with
    | none => rw [q2] at q0; exact q0.elim
    | some it =>
      rw [q2] at q0
      unfold listOf at q2
      split at q2
      · rename_i fl ds'
        cases q2
        obtain ⟨v, F, rfl, r2⟩ := r1.one
        obtain ⟨a, us, Ms, rfl, h1, h2, h3, h4, h5⟩ := seq_ready r2
        exact ⟨a, us, rfl, rdL h1, q0 _ H1 _ h4 fun O t' ht s => walk_rev h1 (h5 O t' ht s).1 s (h5 O t' ht s).2 h2⟩
      · cases q2
end
end OB

namespace OB
open PySem PySem.Spec PyProof.Rows L2

section
variable {X : Cx} {cm : Cm} {W : WX} {tg e e2 : Expr} {f g : En → Ot D} {p pos : Pos}
def itZip (fs : List (En → Ot D)) : En → Ot Its' := fun ρ => (eL fs ρ).bind fun ds => match ds with
  | [.nd (.lst fl) ds, .nd (.lst fl') es] => .ok (zipD (ds.map toFrz) (es.map toFrz), (fl != .tmp && ds.all noT) && (fl' != .tmp && es.all noT))
  | _ => .no
theorem si_zip {elts : List Expr} {kk : Nat} {tpos : Pos} (hg : Gl X "zip") (hm : X.mg "zip" = none) (ha : SA X cm W [e, e2] (eL [f, g]))
    (hs : starEach [e, e2] X.env = (false, eval e X.env) :: starEach [e2] X.env := by rfl) (hpl : (backTo pos (starEach [e2] X.env)).any (·.1) = false := by rfl) :
    SI X cm W (.Tuple elts kk tpos) (.Call (.Name "zip" p) [e, e2] [] pos) (itZip [f, g]) := PI.imp (pi_zip hg hm ha hs hpl) fun σ H R q0 => by
  obtain ⟨Z, ρ, Fs, ok, q0⟩ := q0
  unfold itZip at q0
  refine ⟨Z, ρ, Fs, ok, ?_⟩
  cases q : eL [f, g] ρ with
  | no => rw [q] at q0; exact q0
  | ex x => rw [q] at q0; exact q0
  | ok ds0 =>
    rw [q, Ot.bind_ok] at q0
    intro vs H1 Z1 Gs r1
    split at q0
    · rename_i fl ds fl' es
      have hm := RepL.mut _ r1.rep
      obtain ⟨v, u, F, G, rfl, rfl, ⟨a, us, Ms, rfl, hc, hl, rfl⟩, ⟨b, ws, Ns, rfl, hc', hl', rfl⟩⟩ := repL2 r1.rep
      let A := [ownA (.lst fl) a ++ Ms.flatten, ownA (.lst fl') b ++ Ns.flatten].flatten
      have hA : A = (ownA (.lst fl) a ++ Ms.flatten) ++ (ownA (.lst fl') b ++ Ns.flatten) := by simp [A]
      have ext : Ext H Z H1 (frzZ Z1 A) := ⟨r1.ext.gr, fun a h => .inl (r1.ext.f a h), fun a h => h.elim (r1.ext.fn a) fun q => .inr (r1.new a q), fun a h => h.elim (r1.ext.fd a) fun q => mut_ne (hm a q), r1.ext.b, r1.ext.t⟩
      obtain ⟨Gs1, e1, r2⟩ := hl.frz (F := A) fun x hx => by rw [hA]; exact List.mem_append_left _ (List.mem_append_right _ hx)
      obtain ⟨Gs2, e2, r3⟩ := hl'.frz (F := A) fun x hx => by rw [hA]; exact List.mem_append_right _ (List.mem_append_right _ hx)
      have nin : ∀ {fl : Fl} {a : Addr} {vs : List V} {ds : List D} (hc : Cell X.K cm H1 Z1 a (.lst fl) vs) (hAa : fl = .own → a ∈ A) (O : List Addr) (t' : Addr → Prop), ((fl != .tmp && ds.all noT) = true ∨ t' = (frzZ Z1 A).t) → Safe H1 O ⟨(frzZ Z1 A).f, (frzZ Z1 A).b, t'⟩ → a ∉ O := fun {fl a vs ds} hc hAa O t' ht s ha => by
        obtain ⟨_, n1, n2, n3⟩ := s a ha
        cases fl with
        | own => exact n1 (.inr (hAa rfl))
        | frz => exact n1 (.inl hc.2.2)
        | bor => exact n2 hc.2.2
        | tmp =>
          rcases ht with ht | ht
          · cases ht
          · rw [ht] at n3; exact n3 hc.2.2
      have conv : ∀ {fl : Fl} {ds : List D} {vs : List V} {Gs : List (List Addr)} (r : RepL X.K cm H1 (frzZ Z1 A) (ds.map toFrz) vs Gs) (t' : Addr → Prop), ((fl != .tmp && ds.all noT) = true ∨ t' = (frzZ Z1 A).t) → RepL X.K cm H1 ⟨(frzZ Z1 A).f, (frzZ Z1 A).b, t'⟩ (ds.map toFrz) vs Gs := fun {fl ds vs Gs} r t' ht => by
        rcases ht with ht | ht
        · rw [Bool.and_eq_true] at ht
          refine RepL.only (pf := fun f => f != .tmp) (fun a f hf hz => ?_) _ r (noT_frz ht.2)
          cases f with
          | tmp => cases hf
          | _ => exact hz
        · rw [ht]; exact r
      refine ⟨a, b, us, ws, rfl, rdL hc.2.1, rdL hc'.2.1, q0 _ H1 _ ext fun O t' ht s => ?_⟩
      have h1 : (fl != .tmp && ds.all noT) = true ∨ t' = (frzZ Z1 A).t := ht.elim (fun q => .inl (by
        have q : ((fl != .tmp && ds.all noT) && (fl' != .tmp && es.all noT)) = true := q
        rw [Bool.and_eq_true] at q; exact q.1)) .inr
      have h2 : (fl' != .tmp && es.all noT) = true ∨ t' = (frzZ Z1 A).t := ht.elim (fun q => .inl (by
        have q : ((fl != .tmp && ds.all noT) && (fl' != .tmp && es.all noT)) = true := q
        rw [Bool.and_eq_true] at q; exact q.2)) .inr
      exact walk_zip hc.2.1 hc'.2.1 (nin (ds := ds) hc (fun e => by rw [hA]; subst e; simp [ownA, Kd.isOwn, Kd.fl]) O t' h1 s) (nin (ds := es) hc' (fun e => by rw [hA]; subst e; simp [ownA, Kd.isOwn, Kd.fl]) O t' h2 s) s (conv r2 t' h1) (conv r3 t' h2) e1 e2
    · exact q0.elim
end

/-! ### targets -/
theorem RepE.set {K : PySem.W.Frag} {cm : Cm} {H : Hp} {Z : Zn} {σ : L2.St} {ρ : En} {Fs : List (List Addr)} (r : RepE K cm H Z σ ρ Fs) (i : Nat) {d : D} {v : V} {F : List Addr} (h : Rep K cm H Z d v F) : RepE K cm H Z (σ.set i (some v)) (ρ.set i (some d)) (Fs.set i F) := by
  refine ⟨by simp [r.lσ], by simp [r.lF], fun j e q => ?_⟩
  have l1 := r.lσ
  have l2 := r.lF
  by_cases hj : i = j
  · subst hj
    by_cases hi : i < ρ.length
    · rw [List.getElem?_set_self hi] at q
      cases q
      exact ⟨v, F, List.getElem?_set_self (by omega), List.getElem?_set_self (by omega), h⟩
    · rw [List.getElem?_eq_none (by simpa using hi)] at q
      cases q
  · rw [List.getElem?_set_ne hj] at q ⊢
    rw [List.getElem?_set_ne hj]
    exact r.get j e q
theorem wipe_set {σ : L2.St} {i : Nat} {x : Option V} : ∀ {vs : List Nat}, i ∈ vs → wipe (σ.set i x) vs = wipe σ vs
  | [], h => nomatch h
  | v :: vs, h => by
    have sub : ∀ (vs : List Nat), i ∉ vs → wipe (σ.set i x) vs = (wipe σ vs).set i x := by
      intro vs
      induction vs with
      | nil => intro _; rfl
      | cons w vs ih =>
        intro h
        have h1 : i ≠ w := fun e => h (by simp [e])
        have h2 : i ∉ vs := fun e => h (by simp [e])
        unfold wipe
        rw [ih h2, List.set_comm _ _ h1]
    unfold wipe
    by_cases hv : i ∈ vs
    · rw [wipe_set hv]
    · have e : i = v := by
        rcases List.mem_cons.mp h with e | e
        · exact e
        · exact absurd e hv
      subst e
      rw [sub vs hv, List.set_set]
theorem wipe_in {σ : L2.St} {i : Nat} : ∀ {vs : List Nat}, i ∈ vs → (wipe σ vs).set i none = wipe σ vs
  | [], h => nomatch h
  | v :: vs, h => by
    unfold wipe
    by_cases e : i = v
    · subst e; rw [List.set_set]
    · have hv : i ∈ vs := by
        rcases List.mem_cons.mp h with e' | e'
        · exact absurd e' e
        · exact e'
      rw [List.set_comm _ _ (fun q => e q.symm), wipe_in hv]
theorem wipe_wipe {σ : L2.St} : ∀ {vs ws : List Nat}, (∀ i ∈ vs, i ∈ ws) → wipe (wipe σ ws) vs = wipe σ ws
  | [], _, _ => rfl
  | v :: vs, ws, h => by
    show (wipe (wipe σ ws) vs).set v none = wipe σ ws
    rw [wipe_wipe (fun i hi => h i (List.mem_cons_of_mem _ hi)), wipe_in (h v List.mem_cons_self)]
/-- a target keeps the relation, and stores at S alone -/
def OkTg (K : PySem.W.Frag) (cm : Cm) (S : List Nat) (g : TG) (t : D → En → Option En) : Prop := ∀ H Z d v σ ρ Fs ρ1, Rep K cm H Z d v [] → RepE K cm H Z σ ρ Fs → t d ρ = some ρ1 →
  ∀ Q : L2.St → Hp → Prop, (∀ σ1 Fs1, RepE K cm H Z σ1 ρ1 Fs1 → Fs1.flatten.Sublist Fs.flatten → (∀ vs, (∀ i ∈ S, i ∈ vs) → wipe σ1 vs = wipe σ vs) → (∀ i, i ∉ S → σ1[i]? = σ[i]?) → Q σ1 H) → g v σ H Q
def tgName (i : Nat) : D → En → Option En := fun d ρ => some (ρ.set i (some d))
theorem set_nil_sub : ∀ (Fs : List (List Addr)) (i : Nat), (Fs.set i []).flatten.Sublist Fs.flatten
  | [], _ => List.Sublist.refl _
  | F :: Fs, 0 => by rw [List.set_cons_zero, List.flatten_cons, List.flatten_cons]; exact (List.nil_sublist F).append (List.Sublist.refl _)
  | F :: Fs, i + 1 => by rw [List.set_cons_succ, List.flatten_cons, List.flatten_cons]; exact (List.Sublist.refl _).append (set_nil_sub Fs i)
theorem okTg_name {K : PySem.W.Frag} {cm : Cm} {i : Nat} : OkTg K cm [i] (gName i) (tgName i) := by
  intro H Z d v σ ρ Fs ρ1 hd hr e Q q
  cases e
  exact q _ _ (hr.set i hd) (set_nil_sub _ _) (fun vs h => wipe_set (h i (by simp))) (fun j hj => List.getElem?_set_ne (fun e => hj (by simp [e])))
/-- the parts of a tuple, one by one -/
def tgs : List (D → En → Option En) → List D → En → Option En
  | [], [], ρ => some ρ
  | t :: ts, d :: ds, ρ => (t d ρ).bind fun ρ1 => tgs ts ds ρ1
  | _, _, _ => none
def tgTup (ts : List (D → En → Option En)) : D → En → Option En := fun d ρ => match d with
  | .nd .tup ds => tgs ts ds ρ
  | _ => none
def OkTgs (K : PySem.W.Frag) (cm : Cm) (S : List Nat) (g : TGs) (t : List D → En → Option En) : Prop := ∀ H Z ds vs Gs σ ρ Fs ρ1, RepL K cm H Z ds vs Gs → Gs.flatten = [] → RepE K cm H Z σ ρ Fs → t ds ρ = some ρ1 →
  ∀ Q : L2.St → Hp → Prop, (∀ σ1 Fs1, RepE K cm H Z σ1 ρ1 Fs1 → Fs1.flatten.Sublist Fs.flatten → (∀ vs, (∀ i ∈ S, i ∈ vs) → wipe σ1 vs = wipe σ vs) → (∀ i, i ∉ S → σ1[i]? = σ[i]?) → Q σ1 H) → g vs σ H Q
theorem tgs_len : ∀ {ts : List (D → En → Option En)} {ds : List D} {ρ ρ1 : En}, tgs ts ds ρ = some ρ1 → ds.length = ts.length
  | [], [], _, _, _ => rfl
  | [], _ :: _, _, _, e => nomatch e
  | _ :: _, [], _, _, e => nomatch e
  | t :: ts, d :: ds, ρ, ρ1, e => by
    unfold tgs at e
    cases q1 : t d ρ with
    | none => rw [q1] at e; cases e
    | some ρ2 =>
      rw [q1] at e
      have e : tgs ts ds ρ2 = some ρ1 := e
      simp [tgs_len e]
theorem okTgs_nil {K : PySem.W.Frag} {cm : Cm} : OkTgs K cm [] gNil (tgs []) := by
  intro H Z ds vs Gs σ ρ Fs ρ1 hd _ hr e Q q
  cases ds with
  | nil => cases e; exact ⟨hd.1, q σ Fs hr (List.Sublist.refl _) (fun _ _ => rfl) fun _ _ => rfl⟩
  | cons d ds => cases e
theorem okTgs_cons {K : PySem.W.Frag} {cm : Cm} {S S' : List Nat} {g : TG} {gs : TGs} {t : D → En → Option En} {ts : List (D → En → Option En)} (h : OkTg K cm S g t) (hs : OkTgs K cm S' gs (tgs ts)) : OkTgs K cm (S ++ S') (gCons g gs) (tgs (t :: ts)) := by
  intro H Z ds vs Gs σ ρ Fs ρ1 hd hG hr e Q q
  cases ds with
  | nil => cases e
  | cons d ds =>
    obtain ⟨v, vs', F, Gs', rfl, rfl, h1, h2⟩ := hd
    rw [List.flatten_cons] at hG
    obtain ⟨eF, eG⟩ := List.append_eq_nil_iff.mp hG
    subst eF
    unfold tgs at e
    cases q1 : t d ρ with
    | none => rw [q1] at e; cases e
    | some ρ2 =>
      rw [q1] at e
      have e : tgs ts ds ρ2 = some ρ1 := e
      refine ⟨v, vs', rfl, ?_⟩
      refine h H Z d v σ ρ Fs ρ2 h1 hr q1 _ fun σ1 Fs1 r1 sb w1 k1 => ?_
      refine hs H Z ds vs' Gs' σ1 ρ2 Fs1 ρ1 h2 eG r1 e Q fun σ2 Fs2 r2 sb2 w2 k2 => q σ2 Fs2 r2 (sb2.trans sb) (fun vs hv => (w2 vs fun i hi => hv i (List.mem_append_right _ hi)).trans (w1 vs fun i hi => hv i (List.mem_append_left _ hi))) fun i hi => (k2 i fun z => hi (List.mem_append_right _ z)).trans (k1 i fun z => hi (List.mem_append_left _ z))
theorem okTg_tup {K : PySem.W.Frag} {cm : Cm} {S : List Nat} {gs : TGs} {ts : List (D → En → Option En)} {n : Nat} (hn : ts.length = n) (hs : OkTgs K cm S gs (tgs ts)) : OkTg K cm S (gTup K n gs) (tgTup ts) := by
  intro H Z d v σ ρ Fs ρ1 hd hr e Q q
  unfold tgTup at e
  split at e
  · rename_i ds
    obtain ⟨a, vs, Gs, rfl, hc, hl, eF⟩ := hd
    have eG : Gs.flatten = [] := by simpa [ownA, Kd.isOwn, Kd.fl] using eF.symm
    exact ⟨a, vs, rfl, hc, by rw [hl.len.1, tgs_len e, hn], hs H Z ds vs Gs σ ρ Fs ρ1 hl eG hr e Q q⟩
  · cases e

/-! ### comprehensions -/
def wipeE (ρ : En) : List Nat → En
  | [] => ρ
  | v :: vs => (wipeE ρ vs).set v none
theorem RepE.none {K : PySem.W.Frag} {cm : Cm} {H : Hp} {Z : Zn} {σ : L2.St} {ρ : En} {Fs : List (List Addr)} (r : RepE K cm H Z σ ρ Fs) (i : Nat) : RepE K cm H Z (σ.set i none) (ρ.set i none) (Fs.set i []) := by
  refine ⟨by simp [r.lσ], by simp [r.lF], fun j e q => ?_⟩
  by_cases hj : i = j
  · subst hj
    by_cases hi : i < ρ.length
    · rw [List.getElem?_set_self hi] at q; cases q
    · rw [List.getElem?_eq_none (by simpa using hi)] at q; cases q
  · rw [List.getElem?_set_ne hj] at q ⊢
    rw [List.getElem?_set_ne hj]
    exact r.get j e q
theorem RepE.wiped {K : PySem.W.Frag} {cm : Cm} {H : Hp} {Z : Zn} {σ : L2.St} {ρ : En} {Fs : List (List Addr)} (r : RepE K cm H Z σ ρ Fs) : ∀ vs, ∃ Gs, RepE K cm H Z (wipe σ vs) (wipeE ρ vs) Gs ∧ Gs.flatten.Sublist Fs.flatten
  | [] => ⟨Fs, r, List.Sublist.refl _⟩
  | v :: vs => by
    obtain ⟨Gs, a, b⟩ := RepE.wiped r vs
    exact ⟨Gs.set v [], a.none v, (set_nil_sub _ _).trans b⟩
def compL (tg : D → En → Option En) (c : En → Ot Bool) (f : En → Ot D) (ρ : En) : List D → Option (List D)
  | [] => some []
  | d :: ds => (tg d ρ).bind fun ρ1 => match c ρ1 with
    | .ok true => (match f ρ1 with
      | .ok y => (compL tg c f ρ ds).map (y :: ·)
      | _ => none)
    | .ok false => compL tg c f ρ ds
    | _ => none
def eComp (it : En → Ot Its') (tg : D → En → Option En) (c : En → Ot Bool) (f : En → Ot D) (vs : List Nat) : En → Ot D := fun ρ => (it ρ).bind fun p => match compL tg c f (wipeE ρ vs) p.1 with
  | some ys => if ys.length ≤ sizeLine then .ok (.nd (.lst .own) ys) else .no
  | none => .no
abbrev W0 : WX := fun _ _ _ _ => False
def cYes : En → Ot Bool := fun _ => .ok true
/-- the state between two turns: what the list at D holds so far -/
structure CompAt (K : PySem.W.Frag) (cm : Cm) (H1 : Hp) (Z1 : Zn) (D0 : Addr) (H2 : Hp) (ys : List D) : Prop where
  ex : ∃ (zf : Addr → Prop) (us : List V) (Gs : List (List Addr)), Grow H1 H2 ∧ H2 D0 = some (.lst us) ∧ (∀ a, Z1.f a → zf a) ∧ (∀ a, zf a → Z1.f a ∨ H1 a = none) ∧ (∀ a, zf a → a ≠ D0 ∧ H2 a ≠ none) ∧
    RepL K cm H2 ⟨zf, Z1.b, Z1.t⟩ ys us Gs ∧ Gs.flatten.Nodup ∧ ∀ a ∈ Gs.flatten, H1 a = none ∧ a ≠ D0 ∧ ¬ zf a
section
variable {X : Cx} {cm : Cm} {W : WX}
theorem comp_core {K : PySem.W.Frag} {tg : D → En → Option En} {g : TG} {S : List Nat} {c : En → Ot Bool} {tt : TT} {f : En → Ot D} {vs : List Nat} (hg : OkTg K cm S g tg) (hS : ∀ i ∈ S, i ∈ vs) (hT : ∀ σ H Q, tPT K cm W0 c σ H Q → tt σ H Q)
    {σ : L2.St} {H1 : Hp} {Z1 : Zn} {ρ : En} {Fs : List (List Addr)} {J : It} {ds all : List D} {D0 : Addr} {Q : VK} (ok1 : OkP K cm H1 σ ρ Fs Z1) (w : Walks K cm J H1 [] Z1 ds) (q1 : compL tg c f (wipeE ρ vs) ds = some all) (hz : all.length ≤ sizeLine) (hD : H1 D0 = none)
    (q0 : ∀ H2 Z2 F, Res K cm H1 Z1 H2 Z2 [] (.nd (.lst .own) all) (.ref D0) F → Q (.ref D0) H2) :
    ∃ W : Nat → Nat → Hp → Prop, (∃ m, W 0 m (L2.upd H1 D0 (.lst []))) ∧ ∀ i m H, W i m H →
      (J.stop i H ∧ Q (.ref D0) H) ∨ (J.go i H ∧ ∃ Nx : Hp → Prop, (∀ H', Nx H' → ∃ m', m' < m ∧ W (i + 1) m' H') ∧ ∀ x H', J.yld i H x H' → g x (wipe σ vs) H' fun σ2 H2 => wipe σ2 vs = wipe σ vs ∧ tt σ2 H2 fun b H3 =>
        if b = true then (tP K cm W0 f) σ2 H3 fun y H4 => ∃ acc, H4 D0 = some (.lst acc) ∧ acc.length < sizeLine ∧ Nx (L2.upd H4 D0 (.lst (acc ++ [y]))) else Nx H3) := by
  obtain ⟨Es, rE, sE⟩ := ok1.rep.wiped vs
  let Pv : Nat → Hp → Prop := fun i H2 => ∃ ys rest, CompAt K cm H1 Z1 D0 H2 ys ∧ compL tg c f (wipeE ρ vs) (ds.drop i) = some rest ∧ all = ys ++ rest
  have gD : Grow H1 (L2.upd H1 D0 (.lst [])) := .new hD
  have h0 : Pv 0 (L2.upd H1 D0 (.lst [])) := ⟨[], all, ⟨Z1.f, [], [], gD, upd_same, fun _ h => h, fun _ h => .inl h, fun a h => ⟨fun e => by subst e; exact ok1.dom.f _ h hD, fun e => ok1.dom.f a h (gD.back e)⟩, repL_nil, List.nodup_nil, fun _ h => nomatch h⟩, by simpa using q1, by simp⟩
  refine ⟨fun i m H2 => m = ds.length - i ∧ i ≤ ds.length ∧ Pv i H2, ⟨ds.length, by simp, Nat.zero_le _, h0⟩, ?_⟩
  rintro i m H2 ⟨rfl, hi, ys, rest, ⟨zf, us, Gs, gr, hD2, f1, f2, f3, rl, nd, nf⟩, hc, ea⟩
  by_cases hlt : i < ds.length
  · refine .inr ⟨w.go i H2 (.grow gr) hlt, Pv (i + 1), fun H' p' => ⟨ds.length - (i + 1), by omega, rfl, hlt, p'⟩, fun x H3 y => ?_⟩
    obtain ⟨d, hd⟩ : ∃ d, ds[i]? = some d := ⟨_, List.getElem?_eq_getElem hlt⟩
    obtain ⟨gr3, rx⟩ := w.yld i H2 x H3 (.grow gr) y d hd
    have drop_eq : ds.drop i = d :: ds.drop (i + 1) := by
      rw [List.drop_eq_getElem_cons hlt]
      rw [List.getElem?_eq_getElem hlt] at hd
      cases hd; rfl
    rw [drop_eq] at hc
    unfold compL at hc
    cases q2 : tg d (wipeE ρ vs) with
    | none => rw [q2] at hc; cases hc
    | some ρ1 =>
      rw [q2] at hc
      have gr13 : Grow H1 H3 := gr.trans gr3
      let Z3 : Zn := ⟨zf, Z1.b, Z1.t⟩
      have rx3 : Rep K cm H3 Z3 d x [] := rx.grow (.refl _) f1 (fun _ h => h) (fun _ h => h)
      have rE3 : RepE K cm H3 Z3 (wipe σ vs) (wipeE ρ vs) Es := ⟨rE.lσ, rE.lF, fun j e h => by
        obtain ⟨v, F, a1, a2, a3⟩ := rE.get j e h
        exact ⟨v, F, a1, a2, a3.grow gr13 f1 (fun _ h => h) (fun _ h => h)⟩⟩
      refine hg H3 Z3 d x (wipe σ vs) (wipeE ρ vs) Es ρ1 rx3 rE3 q2 _ fun σ1 Fs1 r1 sb wp _ => ⟨?_, ?_⟩
      · rw [wp vs hS, wipe_wipe (fun _ h => h)]
      · have ok3 : OkP K cm H3 σ1 ρ1 Fs1 Z3 := ⟨r1, ⟨fun a h z => (f3 a h).2 (gr3.back z), fun a h z => ok1.dom.b a h (gr13.back z), fun a h z => ok1.dom.t a h (gr13.back z)⟩, fun a h => ok1.tm a (sE.subset (sb.subset h))⟩
        refine hT _ _ _ ⟨Z3, ρ1, Fs1, ok3, ?_⟩
        have hc : (match c ρ1 with
          | .ok true => (match f ρ1 with
            | .ok y => (compL tg c f (wipeE ρ vs) (ds.drop (i + 1))).map (y :: ·)
            | _ => none)
          | .ok false => compL tg c f (wipeE ρ vs) (ds.drop (i + 1))
          | _ => none) = some rest := hc
        cases q3 : c ρ1 with
        | no => rw [q3] at hc; cases hc
        | ex x => rw [q3] at hc; cases hc
        | ok b =>
          rw [q3] at hc
          intro H4 Z4 ext4
          have nD : ∀ a, Z4.f a → a ≠ D0 := fun a h e => by
            subst e
            rcases ext4.fn _ h with h | h
            · exact (f3 _ h).1 rfl
            · rw [gr3 _ _ hD2] at h; cases h
          have gr4 : Grow H2 H4 := gr3.trans ext4.gr
          cases b with
          | false =>
            have hc : compL tg c f (wipeE ρ vs) (ds.drop (i + 1)) = some rest := hc
            refine ⟨ys, rest, ⟨Z4.f, us, Gs, gr.trans gr4, gr4 _ _ hD2, fun a h => ext4.f a (f1 a h), fun a h => (ext4.fn a h).elim (f2 a) fun z => .inr (gr13.back z), fun a h => ⟨nD a h, ext4.fd a h⟩, ?_, nd, fun a h => ?_⟩, hc, ea⟩
            · exact rl.grow gr4 ext4.f (fun _ h => h) (fun _ h => h)
            · obtain ⟨n1, n2, n3⟩ := nf a h
              refine ⟨n1, n2, fun z => (ext4.fn a z).elim n3 fun z2 => ?_⟩
              exact mut_ne (RepL.mut ys rl a h) (gr3.back z2)
          | true =>
            show tP K cm W0 f σ1 H4 _
            refine ⟨Z4, ρ1, Fs1, ok3.ext ext4, ?_⟩
            have hc : (match f ρ1 with
              | .ok y => (compL tg c f (wipeE ρ vs) (ds.drop (i + 1))).map (y :: ·)
              | _ => none) = some rest := hc
            cases q4 : f ρ1 with
            | no => rw [q4] at hc; cases hc
            | ex x => rw [q4] at hc; cases hc
            | ok yd =>
              rw [q4] at hc
              have hc : (compL tg c f (wipeE ρ vs) (ds.drop (i + 1))).map (yd :: ·) = some rest := hc
              cases q5 : compL tg c f (wipeE ρ vs) (ds.drop (i + 1)) with
              | none => rw [q5] at hc; cases hc
              | some rest' =>
                rw [q5] at hc
                cases hc
                intro yv H5 Z5 F5 r5
                have gr5 : Grow H2 H5 := gr4.trans r5.ext.gr
                have hD5 : H5 D0 = some (.lst us) := gr5 _ _ hD2
                have mD : Mut (H5 D0) := by rw [hD5]; trivial
                have hyl : us.length = ys.length := rl.len.1
                have nD5 : ∀ a, Z5.f a → a ≠ D0 := fun a h e => by
                  subst e
                  rcases r5.ext.fn _ h with h | h
                  · exact nD _ h rfl
                  · rw [gr4 _ _ hD2] at h; cases h
                refine ⟨us, hD5, ?_, ys ++ [yd], rest', ?_, q5, by simp [ea]⟩
                · have : all.length = ys.length + (rest'.length + 1) := by rw [ea]; simp
                  omega
                · have e5b : Z5.b = Z1.b := r5.ext.b.trans ext4.b
                  have e5t : Z5.t = Z1.t := r5.ext.t.trans ext4.t
                  have nbD : ¬ Z1.b D0 := fun h => ok1.dom.b _ h hD
                  have ntD : ¬ Z1.t D0 := fun h => ok1.dom.t _ h hD
                  have hyz : Rep K cm H5 ⟨Z5.f, Z1.b, Z1.t⟩ yd yv F5 := by
                    have := r5.rep
                    rw [show Z5 = ⟨Z5.f, Z1.b, Z1.t⟩ by rw [← e5b, ← e5t]] at this
                    exact this
                  have f15 : ∀ a, zf a → Z5.f a := fun a h => r5.ext.f a (ext4.f a h)
                  have rl5 : RepL K cm H5 ⟨Z5.f, Z1.b, Z1.t⟩ ys us Gs := rl.grow gr5 f15 (fun _ h => h) (fun _ h => h)
                  have newF : ∀ a ∈ F5, H4 a = none := r5.new
                  have nDF : D0 ∉ F5 := fun h => by
                    have := newF D0 h
                    rw [gr4 _ _ hD2] at this; cases this
                  refine ⟨Z5.f, us ++ [yv], Gs ++ [F5], fun a o h => ?_, upd_same, fun a h => f15 a (f1 a h), fun a h => ?_, fun a h => ⟨nD5 a h, ?_⟩, ?_, ?_, fun a h => ?_⟩
                  · have ne : a ≠ D0 := fun e => by subst e; rw [hD] at h; cases h
                    rw [upd_ne ne]; exact gr5 _ _ (gr _ _ h)
                  · rcases r5.ext.fn a h with h | h
                    · rcases ext4.fn a h with h | h
                      · exact f2 a h
                      · exact .inr (gr13.back h)
                    · exact .inr (gr.back (gr4.back h))
                  · rw [upd_ne (nD5 a h)]; exact r5.ext.fd a h
                  · exact (rl5.upd mD (fun h => (nf D0 h).2.1 rfl) (fun h => nD5 _ h rfl) nbD ntD).app (repL_cons (hyz.upd mD nDF (fun h => nD5 _ h rfl) nbD ntD) repL_nil)
                  · rw [List.flatten_append]
                    simp only [List.flatten_cons, List.flatten_nil, List.append_nil]
                    rw [List.nodup_append]
                    exact ⟨nd, r5.nd, fun a ha b hb e => by
                      subst e
                      exact mut_ne (RepL.mut ys rl a ha) (gr4.back (newF a hb))⟩
                  · rw [List.flatten_append] at h
                    simp only [List.flatten_cons, List.flatten_nil, List.append_nil] at h
                    rcases List.mem_append.mp h with h | h
                    · obtain ⟨n1, n2, n3⟩ := nf a h
                      refine ⟨n1, n2, fun z => ?_⟩
                      rcases r5.ext.fn a z with z | z
                      · rcases ext4.fn a z with z | z
                        · exact n3 z
                        · exact mut_ne (RepL.mut ys rl a h) (gr3.back z)
                      · exact mut_ne (RepL.mut ys rl a h) (gr4.back z)
                    · exact ⟨gr.back (gr4.back (newF a h)), fun e => nDF (e ▸ h), r5.nf a h⟩
  · have e : i = ds.length := by omega
    subst e
    refine .inl ⟨w.stop _ H2 (.grow gr) (Nat.le_refl _), ?_⟩
    rw [List.drop_length] at hc
    cases hc
    rw [List.append_nil] at ea
    subst ea
    refine q0 H2 ⟨zf, Z1.b, Z1.t⟩ (ownA (.lst .own) D0 ++ Gs.flatten) ⟨⟨gr, f1, f2, fun a h => (f3 a h).2, rfl, rfl⟩, ⟨D0, us, Gs, rfl, ⟨fun _ => hD2, .inl hD2, trivial⟩, rl, rfl⟩, ?_, fun a h => ?_, fun a h => ?_⟩
    · have eo : ownA (.lst .own) D0 = [D0] := by simp [ownA, Kd.isOwn, Kd.fl]
      rw [eo, List.nodup_append]
      refine ⟨by simp, nd, fun a ha b hb e => ?_⟩
      have e2 : a = D0 := by simpa using ha
      exact (nf b hb).2.1 (e ▸ e2)
    · have eo : ownA (.lst .own) D0 = [D0] := by simp [ownA, Kd.isOwn, Kd.fl]
      rw [eo] at h
      rcases List.mem_append.mp h with h | h
      · have e2 : a = D0 := by simpa using h
        rw [e2]; exact .inl hD
      · exact .inl (nf a h).1
    · have eo : ownA (.lst .own) D0 = [D0] := by simp [ownA, Kd.isOwn, Kd.fl]
      rw [eo] at h
      rcases List.mem_append.mp h with h | h
      · have e2 : a = D0 := by simpa using h
        rw [e2]; exact fun z => (f3 _ z).1 rfl
      · exact (nf a h).2.2
theorem comp_end {K : PySem.W.Frag} {it : En → Ot Its'} {tg : D → En → Option En} {g : TG} {S : List Nat} {c : En → Ot Bool} {tt : TT} {f : En → Ot D} {vs : List Nat} (hg : OkTg K cm S g tg) (hS : ∀ i ∈ S, i ∈ vs) (hT : ∀ σ H Q, tPT K cm W0 c σ H Q → tt σ H Q)
    {σ : L2.St} {H : Hp} {Q : VK} (q0 : tP K cm W (eComp it tg c f vs) σ H Q) : tLc (tPI K cm W it) g tt (tP K cm W0 f) vs σ H Q := by
  obtain ⟨Z, ρ, Fs, ok, q0⟩ := q0
  unfold eComp at q0
  refine ⟨Z, ρ, Fs, ok, ?_⟩
  cases q : it ρ with
  | no => rw [q] at q0; exact q0
  | ex x => rw [q] at q0; exact q0
  | ok p =>
    rw [q, Ot.bind_ok] at q0
    cases q1 : compL tg c f (wipeE ρ vs) p.1 with
    | none => rw [q1] at q0; exact q0.elim
    | some all =>
      rw [q1] at q0
      have q0 : FinD K cm W σ H Z Q (if all.length ≤ sizeLine then .ok (.nd (.lst .own) all) else .no) := q0
      split at q0
      · rename_i hz
        intro J H1 Z1 ext1 wk D0 hD
        exact comp_core hg hS hT (ok.ext ext1) (wk [] Z1.t (.inr rfl) (fun _ h => nomatch h)) q1 hz hD fun H2 Z2 F r => q0 _ H2 Z2 F (r.trans0 ext1)
      · exact q0.elim
variable {elt tgx iter : Expr} {ifs : List Expr} {scope : Scope} {own : List (Str × Nat)} {pos : Pos} {it : En → Ot Its'} {tg : D → En → Option En} {g : TG} {S : List Nat} {c : En → Ot Bool} {tt : TT} {f : En → Ot D} {t : Expr}
/-- [elt for target in iter if ..] -/
theorem s_comp (hc : X.calm = true) (hN : X.N.Nodup) (hi : SI X cm W tgx iter it) (ok : BlkOk X.N X.env.scope scope own) (hS : (S.all fun i => (own.map (·.2)).contains i) = true) (hgo : OkTg X.K cm S g tg)
    (hg : ∀ (s : Shared) (H : Hp) (C : Addr) (cl : List (Str × Addr)) (fp : List Addr), PG (X.blk s H scope (compEnvC scope cl C X.env) fp) tgx g) (ht : ∀ (s : Shared) (H : Hp) (C : Addr) (cl : List (Str × Addr)) (fp : List Addr), PTs (X.blk s H scope (compEnvC scope cl C X.env) fp) ifs tt)
    (hT : ∀ σ H Q, tPT X.K cm W0 c σ H Q → tt σ H Q)
    (he : ∀ (s : Shared) (H : Hp) (C : Addr) (cl : List (Str × Addr)) (fp : List Addr), SE (X.blk s H scope (compEnvC scope cl C X.env) fp) cm W0 elt f) (hs : ∀ x, foldedSetIterable iter X.env x = pure x := by intro _; rfl) :
    SE X cm W (.ListComp elt [⟨tgx, iter, ifs, 0⟩] scope pos) (eComp it tg c f (own.map (·.2))) :=
  PE.imp (pe_lc hc hN hi ok hg ht he hs) fun σ H Q q0 => comp_end hgo (fun i hi => by
    have := List.all_eq_true.mp hS i hi
    simpa using this) hT q0
theorem yes_T {K : PySem.W.Frag} : ∀ σ H Q, tPT K cm W0 cYes σ H Q → tYes σ H Q := fun σ H Q q0 => by
  obtain ⟨Z, ρ, Fs, ok, q0⟩ := q0
  exact q0 H Z (.refl ok.dom)
end
end OB

namespace OB
open PySem PySem.Spec PyProof.Rows L2

inductive Out where
  | nx | brk | cnt | ret (d : D) | ex (x : XD)
abbrev Mst := En → Option (Out × En)
structure Ok (K : PySem.W.Frag) (cm : Cm) (H : Hp) (σ : L2.St) (ρ : En) (Fs : List (List Addr)) (Z : Zn) : Prop where
  rep : RepE K cm H Z σ ρ Fs
  dom : Dom H Z
  mu : ∀ a ∈ Fs.flatten, Mut (H a)
  nd : Fs.flatten.Nodup
  nz : ∀ a ∈ Fs.flatten, ¬ Z.f a ∧ ¬ Z.b a
  t : ∀ a, ¬ Z.t a
structure SStep (P : List Nat) (σ : L2.St) (H : Hp) (Z : Zn) (Fs : List (List Addr)) (σ' : L2.St) (H' : Hp) (Z' : Zn) (Fs' : List (List Addr)) : Prop where
  keep : Kept H Fs.flatten H'
  own : ∀ a ∈ Fs'.flatten, a ∈ Fs.flatten ∨ H a = none
  f : ∀ a, Z.f a → Z'.f a
  fn : ∀ a, Z'.f a → Z.f a ∨ a ∈ Fs.flatten ∨ H a = none
  b : Z'.b = Z.b
  prot : ∀ i ∈ P, σ'[i]? = σ[i]?
section
variable {K : PySem.W.Frag} {cm : Cm} {P : List Nat} {H H1 H' : Hp} {Z Z1 Z' : Zn} {σ σ1 σ' : L2.St} {ρ ρ1 : En} {Fs Fs1 Fs' : List (List Addr)}
theorem Kept.back {O : List Addr} (k : Kept H O H') {a : Addr} (h : H' a = none) : H a = none ∨ a ∈ O := by
  cases e : H a with
  | none => exact .inl rfl
  | some o =>
    by_cases ho : a ∈ O
    · exact .inr ho
    · have := k a o e ho; rw [h] at this; cases this
theorem SStep.refl : SStep P σ H Z Fs σ H Z Fs := ⟨.refl, fun _ h => .inl h, fun _ h => h, fun _ h => .inl h, rfl, fun _ _ => rfl⟩
theorem SStep.trans (a : SStep P σ H Z Fs σ1 H1 Z1 Fs1) (b : SStep P σ1 H1 Z1 Fs1 σ' H' Z' Fs') : SStep P σ H Z Fs σ' H' Z' Fs' where
  keep := fun x o h n => b.keep x o (a.keep x o h n) fun z => (a.own x z).elim n fun q => by rw [h] at q; cases q
  own := fun x h => (b.own x h).elim (a.own x) fun q => (a.keep.back q).elim .inr .inl
  f := fun x h => b.f x (a.f x h)
  fn := fun x h => by
    rcases b.fn x h with h | h | h
    · exact a.fn x h
    · exact .inr (a.own x h)
    · exact .inr ((a.keep.back h).symm)
  b := b.b.trans a.b
  prot := fun i h => (b.prot i h).trans (a.prot i h)
/-- for expressions: what is owned may be lent -/
def lendZ (Z : Zn) (Fs : List (List Addr)) : Zn := ⟨Z.f, Z.b, fun a => a ∈ Fs.flatten⟩
theorem Ok.pure (ok : Ok K cm H σ ρ Fs Z) : OkP K cm H σ ρ Fs (lendZ Z Fs) :=
  ⟨⟨ok.rep.lσ, ok.rep.lF, fun i d q => by
    obtain ⟨v, F, a, b, c⟩ := ok.rep.get i d q
    exact ⟨v, F, a, b, c.grow (.refl _) (fun _ h => h) (fun _ h => h) fun a h => (ok.t a h).elim⟩⟩, ⟨ok.dom.f, ok.dom.b, fun a h => mut_ne (ok.mu a h)⟩, fun _ h => h⟩
theorem Grow.mut (g : Grow H H') {a : Addr} (h : Mut (H a)) : Mut (H' a) := by
  cases e : H a with
  | none => rw [e] at h; exact h.elim
  | some o => rw [g a o e, ← e]; exact h
/-- behind an expression -/
theorem Ok.ext (ok : Ok K cm H σ ρ Fs Z) (e : Ext H (lendZ Z Fs) H1 Z1) : Ok K cm H1 σ ρ Fs ⟨Z1.f, Z.b, fun _ => False⟩ := by
  have nf : ∀ a ∈ Fs.flatten, ¬ Z1.f a := fun a h q => (e.fn a q).elim (ok.nz a h).1 (mut_ne (ok.mu a h))
  refine ⟨⟨ok.rep.lσ, ok.rep.lF, fun i d q => ?_⟩, ⟨e.fd, fun a h q => ok.dom.b a h (e.gr.back q), fun _ h => h.elim⟩, fun a h => e.gr.mut (ok.mu a h), ok.nd, fun a h => ⟨nf a h, (ok.nz a h).2⟩, fun _ h => h⟩
  obtain ⟨v, F, a, b, c⟩ := ok.rep.get i d q
  exact ⟨v, F, a, b, c.grow e.gr e.f (fun _ h => h) fun a h => (ok.t a h).elim⟩
theorem SStep.ext (ok : Ok K cm H σ ρ Fs Z) (e : Ext H (lendZ Z Fs) H1 Z1) : SStep P σ H Z Fs σ H1 ⟨Z1.f, Z.b, fun _ => False⟩ Fs :=
  ⟨.grow e.gr, fun _ h => .inl h, e.f, fun a h => (e.fn a h).elim .inl fun q => .inr (.inr q), rfl, fun _ _ => rfl⟩
/-- .. with values in hand that are new, nothing in them lent -/
structure OkT (K : PySem.W.Frag) (cm : Cm) (H : Hp) (σ : L2.St) (ρ : En) (Fs : List (List Addr)) (Z : Zn) (ds : List D) (vs : List V) (Gs : List (List Addr)) : Prop where
  ok : Ok K cm H σ ρ Fs Z
  rep : RepL K cm H Z ds vs Gs
  nd : (Fs.flatten ++ Gs.flatten).Nodup
  nz : ∀ a ∈ Gs.flatten, ¬ Z.f a ∧ ¬ Z.b a
theorem noT_rep {d : D} {v : V} {F : List Addr} {t' : Addr → Prop} (r : Rep K cm H Z d v F) (h : noT d = true) : Rep K cm H ⟨Z.f, Z.b, t'⟩ d v F :=
  Rep.only (pf := fun f => f != .tmp) (fun a f hf hz => by
    cases f with
    | tmp => cases hf
    | _ => exact hz) d r h
theorem Ok.one (ok : Ok K cm H σ ρ Fs Z) {d : D} {v : V} {F : List Addr} (r : Res K cm H (lendZ Z Fs) H1 Z1 [] d v F) (h : noT d = true) : OkT K cm H1 σ ρ Fs ⟨Z1.f, Z.b, fun _ => False⟩ [d] [v] [F] := by
  have hb : Z1.b = Z.b := r.ext.b
  refine ⟨ok.ext r.ext, repL_cons ?_ repL_nil, ?_, fun a ha => ?_⟩
  · have := noT_rep (t' := fun _ => False) r.rep h
    rwa [hb] at this
  · simp only [List.flatten_cons, List.flatten_nil, List.append_nil]
    rw [List.nodup_append]
    exact ⟨ok.nd, r.nd, fun a ha b hb e => by subst e; exact mut_ne (ok.mu a ha) (r.new a hb)⟩
  · have ha : a ∈ F := by simpa using ha
    exact ⟨r.nf a ha, fun q => ok.dom.b a q (r.new a ha)⟩
theorem set_mem {α : Type} : ∀ {Fs : List (List α)} {i : Nat} {F : List α} {x : α}, x ∈ (Fs.set i F).flatten → x ∈ Fs.flatten ∨ x ∈ F
  | [], _, _, _, h => .inl h
  | G :: Fs, 0, F, x, h => by
    rw [List.set_cons_zero, List.flatten_cons] at h
    rcases List.mem_append.mp h with h | h
    · exact .inr h
    · exact .inl (by rw [List.flatten_cons]; exact List.mem_append_right _ h)
  | G :: Fs, i + 1, F, x, h => by
    rw [List.set_cons_succ, List.flatten_cons] at h
    rw [List.flatten_cons]
    rcases List.mem_append.mp h with h | h
    · exact .inl (List.mem_append_left _ h)
    · rcases set_mem h with h | h
      · exact .inl (List.mem_append_right _ h)
      · exact .inr h
theorem set_nodup {α : Type} : ∀ {Fs : List (List α)} {i : Nat} {F : List α}, Fs.flatten.Nodup → F.Nodup → (∀ x ∈ Fs.flatten, x ∉ F) → (Fs.set i F).flatten.Nodup
  | [], _, _, h, _, _ => h
  | G :: Fs, 0, F, h, hF, hx => by
    rw [List.flatten_cons, List.nodup_append] at h
    rw [List.set_cons_zero, List.flatten_cons, List.nodup_append]
    exact ⟨hF, h.2.1, fun a ha b hb e => hx b (by rw [List.flatten_cons]; exact List.mem_append_right _ hb) (e ▸ ha)⟩
  | G :: Fs, i + 1, F, h, hF, hx => by
    rw [List.flatten_cons, List.nodup_append] at h
    rw [List.set_cons_succ, List.flatten_cons, List.nodup_append]
    refine ⟨h.1, set_nodup h.2.1 hF fun x hx' => hx x (by rw [List.flatten_cons]; exact List.mem_append_right _ hx'), fun a ha b hb e => ?_⟩
    rcases set_mem hb with q | q
    · exact h.2.2 a ha b q e
    · exact hx a (by rw [List.flatten_cons]; exact List.mem_append_left _ ha) (e ▸ q)
/-- a slot takes the first value in hand -/
theorem OkT.set {d : D} {ds : List D} {v : V} {vs : List V} {F : List Addr} {Gs : List (List Addr)} (o : OkT K cm H σ ρ Fs Z (d :: ds) (v :: vs) (F :: Gs)) (i : Nat) : OkT K cm H (σ.set i (some v)) (ρ.set i (some d)) (Fs.set i F) Z ds vs Gs := by
  obtain ⟨ok, rp, nd, nz⟩ := o
  obtain ⟨_, _, _, _, e1, e2, h1, h2⟩ := rp
  cases e1
  cases e2
  rw [List.flatten_cons] at nd nz
  rw [List.nodup_append] at nd
  obtain ⟨n1, n2, n3⟩ := nd
  rw [List.nodup_append] at n2
  obtain ⟨n4, n5, n6⟩ := n2
  have hm := Rep.mut d h1
  have sm : ∀ a ∈ (Fs.set i F).flatten, a ∈ Fs.flatten ∨ a ∈ F := fun a h => set_mem h
  refine ⟨⟨ok.rep.set i h1, ok.dom, fun a h => (sm a h).elim (ok.mu a) (hm a), set_nodup ok.nd n4 (fun x hx hf => n3 x hx x (List.mem_append_left _ hf) rfl), fun a h => (sm a h).elim (ok.nz a) fun q => nz a (List.mem_append_left _ q), ok.t⟩, h2, ?_, fun a h => nz a (List.mem_append_right _ h)⟩
  rw [List.nodup_append]
  refine ⟨set_nodup ok.nd n4 (fun x hx hf => n3 x hx x (List.mem_append_left _ hf) rfl), n5, fun a ha b hb e => ?_⟩
  rcases sm a ha with q | q
  · exact n3 a q b (List.mem_append_right _ hb) e
  · exact n6 a q b hb e
theorem Ok.drop {ds : List D} {vs : List V} {Gs : List (List Addr)} (o : OkT K cm H σ ρ Fs Z ds vs Gs) : Ok K cm H σ ρ Fs Z := o.ok
end

/-! ### the reading of a statement -/
def EndO (K : PySem.W.Frag) (cm : Cm) (W : WX) (D0 : Ends) (H0 : Hp) (Fs0 : List (List Addr)) (σ : L2.St) (H : Hp) (Z : Zn) (Fs : List (List Addr)) : Out → Prop
  | .nx => D0.nx σ H
  | .brk => D0.bk σ H
  | .cnt => D0.ct σ H
  | .ret d => ∀ v F, Rep K cm H Z d v F → (Fs.flatten ++ F).Nodup → (∀ a ∈ F, ¬ Z.f a ∧ ¬ Z.b a) → (∀ a ∈ F, a ∈ Fs0.flatten ∨ H0 a = none) → D0.rt v H
  | .ex x => ∀ cls dd, XRep K cm H Z x cls dd → W cls dd σ H
def FinS (K : PySem.W.Frag) (cm : Cm) (W : WX) (P : List Nat) (D0 : Ends) (σ : L2.St) (H : Hp) (Z : Zn) (Fs : List (List Addr)) : Option (Out × En) → Prop
  | none => False
  | some p => ∀ σ' H' Z' Fs', SStep P σ H Z Fs σ' H' Z' Fs' → Ok K cm H' σ' p.2 Fs' Z' → EndO K cm W D0 H Fs σ' H' Z' Fs' p.1
def tS (K : PySem.W.Frag) (cm : Cm) (W : WX) (P : List Nat) (g : Mst) : TS := fun D0 σ H => ∃ Z ρ Fs, Ok K cm H σ ρ Fs Z ∧ FinS K cm W P D0 σ H Z Fs (g ρ)
abbrev SS (X : Cx) (cm : Cm) (W : WX) (P : List Nat) (st : Stmt) (g : Mst) : Prop := PS X st (tS X.K cm W P g)
abbrev SB (X : Cx) (cm : Cm) (W : WX) (P : List Nat) (sts : List Stmt) (g : Mst) : Prop := PSs X sts (tS X.K cm W P g)
theorem PS.imp {X : Cx} {e : Stmt} {t t' : TS} (h : PS X e t) (i : ∀ D σ H, t' D σ H → t D σ H) : PS X e t' := ⟨fun pins s σ H D I q => h.run pins s σ H D I (i D σ H q)⟩
theorem PSs.imp {X : Cx} {e : List Stmt} {t t' : TS} (h : PSs X e t) (i : ∀ D σ H, t' D σ H → t D σ H) : PSs X e t' := ⟨fun pins s σ H D I q => h.run pins s σ H D I (i D σ H q)⟩
def sNil : Mst := fun ρ => some (.nx, ρ)
def sSeq (g h : Mst) : Mst := fun ρ => match g ρ with
  | some (.nx, ρ1) => h ρ1
  | r => r
section
variable {K : PySem.W.Frag} {cm : Cm} {W : WX} {P : List Nat} {D0 : Ends} {H H1 : Hp} {Z Z1 : Zn} {σ σ1 : L2.St} {ρ ρ1 : En} {Fs Fs1 : List (List Addr)}
/-- from a later point -/
theorem FinS.step {r : Option (Out × En)} (h : FinS K cm W P D0 σ H Z Fs r) (s : SStep P σ H Z Fs σ1 H1 Z1 Fs1) : FinS K cm W P D0 σ1 H1 Z1 Fs1 r := by
  cases r with
  | none => exact h
  | some p =>
    intro σ' H' Z' Fs' s' ok'
    have := h σ' H' Z' Fs' (s.trans s') ok'
    cases e : p.1 with
    | ret d =>
      rw [e] at this
      exact fun v F r nd nz org => this v F r nd nz fun a ha => (org a ha).elim (s.own a) fun q => (s.keep.back q).symm
    | _ => rw [e] at this; exact this
theorem FinS.at_ (h : FinS K cm W P D0 σ H Z Fs (some (.nx, ρ1))) (s : SStep P σ H Z Fs σ1 H1 Z1 Fs1) (ok : Ok K cm H1 σ1 ρ1 Fs1 Z1) : D0.nx σ1 H1 := h σ1 H1 Z1 Fs1 s ok
theorem tS.of {g : Mst} (ok : Ok K cm H σ ρ Fs Z) (h : FinS K cm W P D0 σ H Z Fs (g ρ)) : tS K cm W P g D0 σ H := ⟨Z, ρ, Fs, ok, h⟩
/-- other ends -/
theorem FinS.ends {D1 : Ends} {r : Option (Out × En)} (h : FinS K cm W P D0 σ H Z Fs r) (h1 : ∀ σ' H' Z' Fs' p, r = some p → SStep P σ H Z Fs σ' H' Z' Fs' → Ok K cm H' σ' p.2 Fs' Z' → EndO K cm W D0 H Fs σ' H' Z' Fs' p.1 → EndO K cm W D1 H Fs σ' H' Z' Fs' p.1) : FinS K cm W P D1 σ H Z Fs r := by
  cases r with
  | none => exact h
  | some p => exact fun σ' H' Z' Fs' s ok => h1 σ' H' Z' Fs' p rfl s ok (h σ' H' Z' Fs' s ok)
end
section
variable {X : Cx} {cm : Cm} {W : WX} {P : List Nat} {st : Stmt} {rest : List Stmt} {g h : Mst} {e : Expr} {f : En → Ot D} {pos : Pos}
theorem sb_nil : SB X cm W P [] sNil := PSs.imp pss_nil fun D0 σ H q => by
  obtain ⟨Z, ρ, Fs, ok, q⟩ := q
  exact q.at_ .refl ok
theorem sb_cons (h1 : SS X cm W P st g) (h2 : SB X cm W P rest h) : SB X cm W P (st :: rest) (sSeq g h) := PSs.imp (pss_cons h1 h2) fun D0 σ H q => by
  obtain ⟨Z, ρ, Fs, ok, q⟩ := q
  refine ⟨Z, ρ, Fs, ok, ?_⟩
  unfold sSeq at q
  cases e : g ρ with
  | none => rw [e] at q; exact q
  | some p =>
    obtain ⟨o, ρ1⟩ := p
    rw [e] at q
    cases o with
    | nx => exact fun σ1 H1 Z1 Fs1 s ok1 => ⟨Z1, ρ1, Fs1, ok1, q.step s⟩
    | brk => exact q
    | cnt => exact q
    | ret d => exact q
    | ex x => exact q
theorem sb_one (h1 : SS X cm W P st g) : SB X cm W P [st] g := pss_one h1
theorem ss_pass : SS X cm W P (.Pass pos) sNil := PS.imp ps_pass fun D0 σ H q => by
  obtain ⟨Z, ρ, Fs, ok, q⟩ := q
  exact q.at_ .refl ok
theorem ss_cont : SS X cm W P (.Continue pos) (fun ρ => some (.cnt, ρ)) := PS.imp ps_continue fun D0 σ H q => by
  obtain ⟨Z, ρ, Fs, ok, q⟩ := q
  exact q σ H Z Fs .refl ok
theorem ss_brk : SS X cm W P (.Break pos) (fun ρ => some (.brk, ρ)) := PS.imp ps_break fun D0 σ H q => by
  obtain ⟨Z, ρ, Fs, ok, q⟩ := q
  exact q σ H Z Fs .refl ok
/-- never reached -/
theorem ss_never : SS X cm W P st (fun _ => none) := PS.imp ps_never fun D0 σ H q => by
  obtain ⟨Z, ρ, Fs, ok, q⟩ := q
  exact q
/-! an expression ahead of a statement's own work -/
def sOn (f : En → Ot D) (k : D → Mst) : Mst := fun ρ => match f ρ with
  | .no => none
  | .ok d => k d ρ
  | .ex x => some (.ex x, ρ)
theorem on_go {K : PySem.W.Frag} {k : D → Mst} {D0 : Ends} {σ : L2.St} {H : Hp} {Z : Zn} {ρ : En} {Fs : List (List Addr)} {Q : VK} (ok : Ok K cm H σ ρ Fs Z) (q : FinS K cm W P D0 σ H Z Fs (sOn f k ρ))
    (hk : ∀ d v H1 Z1 F, f ρ = .ok d → Res K cm H (lendZ Z Fs) H1 Z1 [] d v F → FinS K cm W P D0 σ H1 ⟨Z1.f, Z.b, fun _ => False⟩ Fs (k d ρ) → Q v H1) : tP K cm W f σ H Q := by
  refine ⟨lendZ Z Fs, ρ, Fs, ok.pure, ?_⟩
  unfold sOn at q
  cases e : f ρ with
  | no => rw [e] at q; exact q.elim
  | ok d =>
    rw [e] at q
    exact fun v H1 Z1 F r => hk d v H1 Z1 F e r (q.step (.ext ok r.ext))
  | ex x =>
    rw [e] at q
    intro cls dd H1 Z1 ex xr
    exact q σ H1 _ Fs (.ext ok ex) (ok.ext ex) cls dd (xr.back fun _ h => h)
/-- x = e -/
def sSet (i : Nat) (f : En → Ot D) : Mst := sOn f fun d ρ => if noT d then some (.nx, ρ.set i (some d)) else none
theorem prot_set {P : List Nat} {i : Nat} {σ : L2.St} {x : Option V} (hi : (!P.contains i) = true) : ∀ j ∈ P, (σ.set i x)[j]? = σ[j]? := fun j hj => List.getElem?_set_ne (fun e => by
  subst e
  rw [Bool.not_eq_true'] at hi
  rw [List.contains_iff_mem.mpr hj] at hi
  cases hi)
theorem SStep.set' {K : PySem.W.Frag} {cm : Cm} {H H1 : Hp} {Z Z1 : Zn} {σ : L2.St} {Fs : List (List Addr)} {ρ : En} {i : Nat} {d : D} {v : V} {F : List Addr} (ok : Ok K cm H σ ρ Fs Z) (r : Res K cm H (lendZ Z Fs) H1 Z1 [] d v F) (hi : (!P.contains i) = true) :
    SStep P σ H1 ⟨Z1.f, Z.b, fun _ => False⟩ Fs (σ.set i (some v)) H1 ⟨Z1.f, Z.b, fun _ => False⟩ (Fs.set i F) → True := fun _ => trivial
theorem ss_set {i : Nat} (hi : (!P.contains i) = true) (hs : PS X st (tAsg (tP X.K cm W f) (gName i))) : SS X cm W P st (sSet i f) := PS.imp hs fun D0 σ H q => by
  obtain ⟨Z, ρ, Fs, ok, q⟩ := q
  refine on_go ok q fun d v H1 Z1 F e r q1 => ?_
  split at q1
  · rename_i nt
    have o := (ok.one r nt).set i
    have ok1 := ok.ext r.ext
    -- one step from the very start: what the slot takes is new
    have s : SStep P σ H Z Fs (σ.set i (some v)) H1 ⟨Z1.f, Z.b, fun _ => False⟩ (Fs.set i F) :=
      ⟨.grow r.ext.gr, fun a h => (set_mem h).elim .inl fun q => .inr (r.new a q), r.ext.f, fun a h => (r.ext.fn a h).elim .inl fun q => .inr (.inr q), rfl, prot_set hi⟩
    have q2 : FinS X.K cm W P D0 σ H Z Fs (some (.nx, ρ.set i (some d))) := by
      have q3 := q
      unfold sSet sOn at q3
      rw [e] at q3
      have q3 : FinS X.K cm W P D0 σ H Z Fs (if noT d then some (.nx, ρ.set i (some d)) else none) := q3
      rw [if_pos nt] at q3
      exact q3
    exact q2.at_ s o.ok
  · exact q1.elim
/-- an expression alone -/
def sExpr (f : En → Ot D) : Mst := sOn f fun _ ρ => some (.nx, ρ)
theorem ss_expr (he : SE X cm W e f) (hs : swapsWith e none pos.line X.env = pure false := by rfl) : SS X cm W P (.Expr e pos) (sExpr f) := PS.imp (ps_expr he hs) fun D0 σ H q => by
  obtain ⟨Z, ρ, Fs, ok, q⟩ := q
  exact on_go ok q fun d v H1 Z1 F e r q1 => q1.at_ .refl (ok.ext r.ext)
/-- return e, nothing in it lent -/
def sRet (f : En → Ot D) : Mst := sOn f fun d ρ => if noT d then some (.ret d, ρ) else none
theorem ss_ret (he : SE X cm W e f) : SS X cm W P (.Return (some e) pos) (sRet f) := PS.imp (ps_ret he) fun D0 σ H q => by
  obtain ⟨Z, ρ, Fs, ok, q⟩ := q
  refine on_go ok q fun d v H1 Z1 F e r q1 => ?_
  have q2 := q
  unfold sRet sOn at q2
  rw [e] at q2
  have q2 : FinS X.K cm W P D0 σ H Z Fs (if noT d then some (.ret d, ρ) else none) := q2
  split at q2
  · rename_i nt
    have o := ok.one r nt
    obtain ⟨v', F', e1, e2, hr⟩ := repL1 o.rep
    cases e1
    cases e2
    exact q2 σ H1 _ Fs (.ext ok r.ext) o.ok v F hr (by simpa using o.nd) (by simpa using o.nz) fun a ha => .inr (r.new a ha)
  · exact q2.elim
def sRetN : Mst := fun ρ => some (.ret .non, ρ)
theorem ss_retN : SS X cm W P (.Return none pos) sRetN := PS.imp ps_retN fun D0 σ H q => by
  obtain ⟨Z, ρ, Fs, ok, q⟩ := q
  exact q σ H Z Fs .refl ok .non [] rep_non (by simpa using ok.nd) (fun _ h => nomatch h) fun _ h => nomatch h
/-- return x: the name's own thing goes along -/
def sRetV (i : Nat) : Mst := fun ρ => (getV ρ i).map fun d => (.ret d, ρ.set i none)
theorem flat_set_nil {Fs : List (List Addr)} {i : Nat} {F : List Addr} (h : Fs[i]? = some F) (nd : Fs.flatten.Nodup) : ((Fs.set i []).flatten ++ F).Nodup ∧ ∀ a ∈ F, a ∈ Fs.flatten := by
  refine ⟨?_, fun a ha => flat_mem h ha⟩
  have key : ∀ (Fs : List (List Addr)) (i : Nat) (F : List Addr), Fs[i]? = some F → Fs.flatten.Nodup → ((Fs.set i []).flatten ++ F).Nodup := by
    intro Fs
    induction Fs with
    | nil => intro i F h; simp at h
    | cons G Fs ih =>
      intro i F h nd
      rw [List.flatten_cons, List.nodup_append] at nd
      cases i with
      | zero =>
        simp at h
        subst h
        rw [List.set_cons_zero, List.flatten_cons, List.nil_append, List.nodup_append]
        exact ⟨nd.2.1, nd.1, fun a ha b hb e => nd.2.2 b hb a ha e.symm⟩
      | succ i =>
        have h : Fs[i]? = some F := by simpa using h
        have q := ih i F h nd.2.1
        rw [List.set_cons_succ, List.flatten_cons, List.append_assoc, List.nodup_append]
        refine ⟨nd.1, q, fun a ha b hb e => ?_⟩
        rcases List.mem_append.mp hb with hb | hb
        · rcases set_mem hb with hb | hb
          · exact nd.2.2 a ha b hb e
          · cases hb
        · exact nd.2.2 a ha b (flat_mem h hb) e
  exact key Fs i F h nd
theorem Ok.gone {K : PySem.W.Frag} {H : Hp} {σ : L2.St} {ρ : En} {Fs : List (List Addr)} {Z : Zn} (ok : Ok K cm H σ ρ Fs Z) (i : Nat) : Ok K cm H (σ.set i none) (ρ.set i none) (Fs.set i []) Z :=
  ⟨ok.rep.none i, ok.dom, fun a h => ok.mu a ((set_nil_sub _ _).subset h), ok.nd.sublist (set_nil_sub _ _), fun a h => ok.nz a ((set_nil_sub _ _).subset h), ok.t⟩
theorem ss_retV {i : Nat} {x : Str} {p : Pos} (hi : (!P.contains i) = true) (he : PE X (.Name x p) (tVar i)) : SS X cm W P (.Return (some (.Name x p)) pos) (sRetV i) := PS.imp (ps_ret he) fun D0 σ H q => by
  obtain ⟨Z, ρ, Fs, ok, q⟩ := q
  unfold sRetV at q
  cases e : getV ρ i with
  | none => rw [e] at q; exact q.elim
  | some d =>
    rw [e] at q
    obtain ⟨v, F, e1, e2, r⟩ := ok.rep.get i d (getV_some e)
    obtain ⟨n1, n2⟩ := flat_set_nil e2 ok.nd
    refine ⟨v, e1, ?_⟩
    exact q (σ.set i none) H Z (Fs.set i []) ⟨.refl, fun a h => .inl ((set_nil_sub _ _).subset h), fun _ h => h, fun _ h => .inl h, rfl, prot_set hi⟩ (ok.gone i) v F r n1 (fun a h => ok.nz a (n2 a h)) fun a h => .inl (n2 a h)
/-- return of what is lent: all is frozen -/
def Fl.tmpFrz : Fl → Fl
  | .own => .frz
  | .tmp => .frz
  | f => f
theorem flat_nils : ∀ (Fs : List (List Addr)), (Fs.map fun _ => ([] : List Addr)).flatten = []
  | [] => rfl
  | _ :: Fs => by rw [List.map_cons, List.flatten_cons, flat_nils Fs]; rfl
def frzE (ρ : En) : En := ρ.map (Option.map toFrz)
def sRetF (f : En → Ot D) : Mst := sOn f fun d ρ => some (.ret (mapF Fl.tmpFrz d), frzE ρ)
theorem Ok.frozen {K : PySem.W.Frag} {H : Hp} {σ : L2.St} {ρ : En} {Fs : List (List Addr)} {Z : Zn} (ok : Ok K cm H σ ρ Fs Z) {zf : Addr → Prop} (h1 : ∀ a, Z.f a → zf a) (h2 : ∀ a ∈ Fs.flatten, zf a) (h3 : ∀ a, zf a → H a ≠ none) : Ok K cm H σ (frzE ρ) (Fs.map fun _ => []) ⟨zf, Z.b, fun _ => False⟩ := by
  have fl0 : (Fs.map fun _ => ([] : List Addr)).flatten = [] := flat_nils Fs
  refine ⟨⟨by simp [frzE, ok.rep.lσ], by simp [frzE, ok.rep.lF], fun i d q => ?_⟩, ⟨h3, ok.dom.b, fun _ h => h.elim⟩, (by rw [fl0]; exact fun _ h => (nomatch h)), (by rw [fl0]; exact List.nodup_nil), (by rw [fl0]; exact fun _ h => (nomatch h)), fun _ h => h⟩
  unfold frzE at q
  rw [List.getElem?_map] at q
  cases e : ρ[i]? with
  | none => rw [e] at q; cases q
  | some o =>
    rw [e] at q
    cases o with
    | none => cases q
    | some d0 =>
      cases q
      obtain ⟨v, F, a, b, c⟩ := ok.rep.get i d0 e
      refine ⟨v, [], a, by rw [List.getElem?_map, b]; rfl, ?_⟩
      refine Rep.give (g := Fl.toFrz) (O := fun a => a ∈ F) (cell_flag (fun a ha f ef _ => by subst ef; exact h2 a (flat_mem b ha)) (fun a f hf hz => by cases f with
        | own => exact absurd rfl hf
        | frz => exact h1 a hz
        | bor => exact hz
        | tmp => exact (ok.t a hz).elim) (fun f e => by cases f <;> first | rfl | cases e)) (fun f e => by cases f <;> cases e) d0 c fun a h => h
theorem ss_retF (he : SE X cm W e f) : SS X cm W P (.Return (some e) pos) (sRetF f) := PS.imp (ps_ret he) fun D0 σ H q => by
  obtain ⟨Z, ρ, Fs, ok, q⟩ := q
  refine on_go ok q fun d v H1 Z1 F e r q1 => ?_
  have q2 := q
  unfold sRetF sOn at q2
  rw [e] at q2
  have ok1 := ok.ext r.ext
  have hm := Rep.mut d r.rep
  have ok2 := ok1.frozen (zf := fun a => Z1.f a ∨ a ∈ Fs.flatten ∨ a ∈ F) (fun a h => .inl h) (fun a h => .inr (.inl h)) (fun a h => h.elim (r.ext.fd a) fun h => h.elim (fun h => mut_ne (ok1.mu a h)) fun h => mut_ne (hm a h))
  have rr : Rep X.K cm H1 ⟨fun a => Z1.f a ∨ a ∈ Fs.flatten ∨ a ∈ F, Z.b, fun _ => False⟩ (mapF Fl.tmpFrz d) v [] :=
    Rep.give (g := Fl.tmpFrz) (O := fun a => a ∈ F) (cell_flag (fun a ha f ef _ => by subst ef; exact .inr (.inr ha)) (fun a f hf hz => by cases f with
        | own => exact absurd rfl hf
        | frz => exact .inl hz
        | bor => exact (show Z.b a by have := r.ext.b; rw [show (lendZ Z Fs).b = Z.b from rfl] at this; rw [← this]; exact hz)
        | tmp => exact .inr (.inl (show a ∈ Fs.flatten by have := r.ext.t; rw [show (lendZ Z Fs).t = fun a => a ∈ Fs.flatten from rfl] at this; have hz : Z1.t a := hz; rw [this] at hz; exact hz))) (fun f e => by cases f <;> first | rfl | cases e)) (fun f e => by cases f <;> cases e) d r.rep fun a h => h
  have fl0 : (Fs.map fun _ => ([] : List Addr)).flatten = [] := flat_nils Fs
  refine q2 σ H1 ⟨fun a => Z1.f a ∨ a ∈ Fs.flatten ∨ a ∈ F, Z.b, fun _ => False⟩ _ ⟨.grow r.ext.gr, (by rw [fl0]; exact fun _ h => (nomatch h)), fun a h => Or.inl (r.ext.f a h), fun a h => ?_, rfl, fun _ _ => rfl⟩ ok2 v [] rr (by rw [fl0]; exact List.nodup_nil) (fun _ h => (nomatch h)) fun _ h => (nomatch h)
  rcases h with h | h | h
  · exact (r.ext.fn a h).elim .inl fun q => .inr (.inr q)
  · exact .inr (.inl h)
  · exact .inr (.inr (r.new a h))

/-! ### if -/
def sIf (t : En → Ot Bool) (g h : Mst) : Mst := fun ρ => match t ρ with
  | .no => none
  | .ok b => if b then g ρ else h ρ
  | .ex x => some (.ex x, ρ)
theorem test_go {K : PySem.W.Frag} {t : En → Ot Bool} {k : Bool → Mst} {D0 : Ends} {σ : L2.St} {H : Hp} {Z : Zn} {ρ : En} {Fs : List (List Addr)} {Q : Bool → Hp → Prop} (ok : Ok K cm H σ ρ Fs Z)
    (q : FinS K cm W P D0 σ H Z Fs (match t ρ with
      | .no => none
      | .ok b => k b ρ
      | .ex x => some (.ex x, ρ)))
    (hk : ∀ b H1 Z1, t ρ = .ok b → Ext H (lendZ Z Fs) H1 Z1 → FinS K cm W P D0 σ H1 ⟨Z1.f, Z.b, fun _ => False⟩ Fs (k b ρ) → Q b H1) : tPT K cm W t σ H Q := by
  refine ⟨lendZ Z Fs, ρ, Fs, ok.pure, ?_⟩
  cases e : t ρ with
  | no => rw [e] at q; exact q.elim
  | ok d =>
    rw [e] at q
    exact fun H1 Z1 ex => hk d H1 Z1 e ex (q.step (.ext ok ex))
  | ex x =>
    rw [e] at q
    intro cls dd H1 Z1 ex xr
    exact q σ H1 _ Fs (.ext ok ex) (ok.ext ex) cls dd (xr.back fun _ h => h)
theorem ss_if {c : Expr} {a b : List Stmt} {t : En → Ot Bool} (hc : ST X cm W c t) (ha : SB X cm W P a g) (hb : SB X cm W P b h) : SS X cm W P (.If c a b pos) (sIf t g h) := PS.imp (ps_if hc ha hb) fun D0 σ H q => by
  obtain ⟨Z, ρ, Fs, ok, q⟩ := q
  refine test_go (k := fun b => if b then g else h) ok (by
    have q2 := q
    unfold sIf at q2
    cases e : t ρ with
    | no => rw [e] at q2; exact q2
    | ok b => rw [e] at q2; cases b <;> exact q2
    | ex x => rw [e] at q2; exact q2) fun k H1 Z1 e ex q1 => ?_
  cases k with
  | true => exact ⟨_, ρ, Fs, ok.ext ex, q1⟩
  | false => exact ⟨_, ρ, Fs, ok.ext ex, q1⟩

/-! ### for -/
def forL (tg : D → En → Option En) (body : Mst) : List D → Mst
  | [], ρ => some (.nx, ρ)
  | d :: ds, ρ => match tg d ρ with
    | none => none
    | some ρ1 => match body ρ1 with
      | none => none
      | some (.nx, ρ2) => forL tg body ds ρ2
      | some (.cnt, ρ2) => forL tg body ds ρ2
      | some (.brk, ρ2) => some (.nx, ρ2)
      | some (.ret d, ρ2) => some (.ret d, ρ2)
      | some (.ex x, ρ2) => some (.ex x, ρ2)
def sFor (it : En → Ot Its') (tg : D → En → Option En) (body : Mst) : Mst := fun ρ => match it ρ with
  | .no => none
  | .ok p => if p.2 then forL tg body p.1 ρ else none
  | .ex x => some (.ex x, ρ)
theorem Ok.grow {K : PySem.W.Frag} {H H1 : Hp} {σ : L2.St} {ρ : En} {Fs : List (List Addr)} {Z : Zn} (ok : Ok K cm H σ ρ Fs Z) (g : Grow H H1) : Ok K cm H1 σ ρ Fs Z :=
  ⟨⟨ok.rep.lσ, ok.rep.lF, fun i d q => by
    obtain ⟨v, F, a, b, c⟩ := ok.rep.get i d q
    exact ⟨v, F, a, b, c.grow g (fun _ h => h) (fun _ h => h) fun _ h => h⟩⟩, ⟨fun a h q => ok.dom.f a h (g.back q), fun a h q => ok.dom.b a h (g.back q), fun a h q => ok.dom.t a h (g.back q)⟩, fun a h => g.mut (ok.mu a h), ok.nd, ok.nz, ok.t⟩
theorem ss_for {tg iter : Expr} {body : List Stmt} {it : En → Ot Its'} {g : TG} {S : List Nat} {t : D → En → Option En} {b : Mst} (hp : PassesOwn (model X.prog X.w) X.A X.env X.xe) (hc : X.calm = true) (hi : SI X cm W tg iter it) (hg : PG X tg g) (hgo : OkTg X.K cm S g t)
    (hS : (S.all fun i => !P.contains i) = true) (hb : SB X cm W P body b) (hs : ∀ x, foldedSetIterable iter X.env x = pure x := by intro _; rfl) : SS X cm W P (.For tg iter body [] pos) (sFor it t b) := PS.imp (ps_for hp hc hi hg hb hs) fun D0 σ H q => by
  obtain ⟨Z, ρ, Fs, ok, q⟩ := q
  refine ⟨lendZ Z Fs, ρ, Fs, ok.pure, ?_⟩
  unfold sFor at q
  cases e : it ρ with
  | no => rw [e] at q; exact q.elim
  | ex x =>
    rw [e] at q
    intro cls dd H1 Z1 ex xr
    exact q σ H1 _ Fs (.ext ok ex) (ok.ext ex) cls dd (xr.back fun _ h => h)
  | ok p =>
    rw [e] at q
    have q : FinS X.K cm W P D0 σ H Z Fs (if p.2 then forL t b p.1 ρ else none) := q
    split at q
    · rename_i hp2
      intro J H1 Z1 ex wk
      have ok1 := ok.ext ex
      have q1 := q.step (.ext ok ex)
      have w := wk Fs.flatten (fun _ => False) (.inl hp2) fun a h => ⟨ok1.mu a h, (ok1.nz a h).1, (by have := (ok1.nz a h).2; have eb := ex.b; rw [show (lendZ Z Fs).b = Z.b from rfl] at eb; rw [eb]; exact this), fun h => h⟩
      let Zs : Zn := ⟨Z1.f, Z.b, fun _ => False⟩
      let Pv : Nat → L2.St → Hp → Prop := fun i σ2 H2 => ∃ Z2 ρ2 Fs2, Ok X.K cm H2 σ2 ρ2 Fs2 Z2 ∧ SStep P σ H1 Zs Fs σ2 H2 Z2 Fs2 ∧ FinS X.K cm W P D0 σ2 H2 Z2 Fs2 (forL t b (p.1.drop i) ρ2)
      have h0 : Pv 0 σ H1 := ⟨Zs, ρ, Fs, ok1, .refl, by simpa using q1⟩
      refine ⟨fun i m σ2 H2 => m = p.1.length - i ∧ i ≤ p.1.length ∧ Pv i σ2 H2, ⟨p.1.length, by simp, Nat.zero_le _, h0⟩, ?_⟩
      rintro i m σ2 H2 ⟨rfl, hi2, Z2, ρ2, Fs2, ok2, s2, q2⟩
      have kp : Kept H1 Fs.flatten H2 := s2.keep
      by_cases hlt : i < p.1.length
      · refine .inr ⟨w.go i H2 kp hlt, Pv (i + 1), fun σ' H' p' => ⟨p.1.length - (i + 1), by omega, rfl, hlt, p'⟩, fun x H3 y => ?_⟩
        obtain ⟨d, hd⟩ : ∃ d, p.1[i]? = some d := ⟨_, List.getElem?_eq_getElem hlt⟩
        obtain ⟨gr3, rx⟩ := w.yld i H2 x H3 kp y d hd
        have drop_eq : p.1.drop i = d :: p.1.drop (i + 1) := by
          rw [List.drop_eq_getElem_cons hlt]
          rw [List.getElem?_eq_getElem hlt] at hd
          cases hd; rfl
        rw [drop_eq] at q2
        unfold forL at q2
        cases e2 : t d ρ2 with
        | none => rw [e2] at q2; exact q2.elim
        | some ρ3 =>
          rw [e2] at q2
          have ok3 := ok2.grow gr3
          have rx3 : Rep X.K cm H3 Z2 d x [] := rx.grow (.refl _) (fun a h => s2.f a h) (fun a h => by rw [s2.b]; have eb := ex.b; rw [show (lendZ Z Fs).b = Z.b from rfl] at eb; have h : Z1.b a := h; rw [eb] at h; exact h) fun a h => h.elim
          refine hgo H3 Z2 d x σ2 ρ2 Fs2 ρ3 rx3 ok3.rep e2 _ fun σ3 Fs3 r3 sb _ kpr => ?_
          have ok4 : Ok X.K cm H3 σ3 ρ3 Fs3 Z2 := ⟨r3, ok3.dom, fun a h => ok3.mu a (sb.subset h), ok3.nd.sublist sb, fun a h => ok3.nz a (sb.subset h), ok3.t⟩
          have s3 : SStep P σ2 H2 Z2 Fs2 σ3 H3 Z2 Fs3 := ⟨.grow gr3, fun a h => .inl (sb.subset h), fun _ h => h, fun _ h => .inl h, rfl, fun j hj => kpr j fun hjS => by
            have := List.all_eq_true.mp hS j hjS
            rw [Bool.not_eq_true'] at this
            rw [List.contains_iff_mem.mpr hj] at this
            cases this⟩
          refine ⟨Z2, ρ3, Fs3, ok4, ?_⟩
          have q3 := q2.step s3
          dsimp only at q3
          cases e3 : b ρ3 with
          | none => rw [e3] at q3; exact q3
          | some r =>
            obtain ⟨o, ρ4⟩ := r
            rw [e3] at q3
            intro σ4 H4 Z4 Fs4 s4 ok5
            cases o with
            | nx => exact ⟨Z4, ρ4, Fs4, ok5, s2.trans (s3.trans s4), q3.step s4⟩
            | cnt => exact ⟨Z4, ρ4, Fs4, ok5, s2.trans (s3.trans s4), q3.step s4⟩
            | brk => exact (q3.step s4).at_ .refl ok5
            | ret dd => exact q3 σ4 H4 Z4 Fs4 s4 ok5
            | ex x => exact q3 σ4 H4 Z4 Fs4 s4 ok5
      · have ei : i = p.1.length := by omega
        subst ei
        rw [List.drop_length] at q2
        exact .inl ⟨w.stop _ H2 kp (Nat.le_refl _), q2.at_ .refl ok2⟩
    · exact q.elim

/-! ### while -/
def whileL (t : En → Ot Bool) (body : Mst) : Nat → Mst
  | 0, _ => none
  | n + 1, ρ => match t ρ with
    | .no => none
    | .ex x => some (.ex x, ρ)
    | .ok b => if b then (match body ρ with
      | none => none
      | some (.nx, ρ2) => whileL t body n ρ2
      | some (.cnt, ρ2) => whileL t body n ρ2
      | some (.brk, ρ2) => some (.nx, ρ2)
      | some (.ret d, ρ2) => some (.ret d, ρ2)
      | some (.ex x, ρ2) => some (.ex x, ρ2)) else some (.nx, ρ)
open Classical in
noncomputable def sWhile (t : En → Ot Bool) (body : Mst) : Mst := fun ρ => if h : ∃ n, (whileL t body n ρ).isSome then whileL t body (Classical.choose h) ρ else none
theorem ss_while {c : Expr} {body : List Stmt} {t : En → Ot Bool} {b : Mst} (hp : PassesOwn (model X.prog X.w) X.A X.env X.xe) (hc : ST X cm W c t) (hb : SB X cm W P body b) : SS X cm W P (.While c body [] pos) (sWhile t b) := PS.imp (ps_while hp hc hb) fun D0 σ H q => by
  obtain ⟨Z, ρ, Fs, ok, q⟩ := q
  unfold sWhile at q
  split at q
  · rename_i hex
    generalize Classical.choose hex = n at q
    refine ⟨fun m σ2 H2 => ∃ Z2 ρ2 Fs2, Ok X.K cm H2 σ2 ρ2 Fs2 Z2 ∧ FinS X.K cm W P D0 σ2 H2 Z2 Fs2 (whileL t b m ρ2), ⟨n, Z, ρ, Fs, ok, q⟩, ?_⟩
    rintro m σ2 H2 ⟨Z2, ρ2, Fs2, ok2, q2⟩
    cases m with
    | zero => exact q2.elim
    | succ m =>
      unfold whileL at q2
      refine test_go (k := fun bb ρ2 => if bb then (match b ρ2 with
        | none => none
        | some (.nx, ρ2) => whileL t b m ρ2
        | some (.cnt, ρ2) => whileL t b m ρ2
        | some (.brk, ρ2) => some (.nx, ρ2)
        | some (.ret d, ρ2) => some (.ret d, ρ2)
        | some (.ex x, ρ2) => some (.ex x, ρ2)) else some (.nx, ρ2)) ok2 (by
          cases e : t ρ2 with
          | no => rw [e] at q2; exact q2
          | ok bb => rw [e] at q2; exact q2
          | ex x => rw [e] at q2; exact q2) fun k H3 Z3 e ex q3 => ?_
      have ok3 := ok2.ext ex
      cases k with
      | false => exact q3.at_ .refl ok3
      | true =>
        rw [if_pos rfl]
        rw [if_pos rfl] at q3
        refine ⟨fun σ' H' => ∃ Z2 ρ2 Fs2, Ok X.K cm H' σ' ρ2 Fs2 Z2 ∧ FinS X.K cm W P D0 σ' H' Z2 Fs2 (whileL t b m ρ2), fun σ' H' n => ⟨m, Nat.lt_succ_self _, n⟩, _, ρ2, Fs2, ok3, ?_⟩
        cases e3 : b ρ2 with
        | none => rw [e3] at q3; exact q3
        | some r =>
          obtain ⟨o, ρ4⟩ := r
          rw [e3] at q3
          intro σ4 H4 Z4 Fs4 s4 ok5
          cases o with
          | nx => exact ⟨Z4, ρ4, Fs4, ok5, q3.step s4⟩
          | cnt => exact ⟨Z4, ρ4, Fs4, ok5, q3.step s4⟩
          | brk => exact (q3.step s4).at_ .refl ok5
          | ret dd => exact q3 σ4 H4 Z4 Fs4 s4 ok5
          | ex x => exact q3 σ4 H4 Z4 Fs4 s4 ok5
  · exact q.elim
/-- more turns change nothing -/
theorem whileL_mono {t : En → Ot Bool} {b : Mst} : ∀ {n m : Nat} {ρ : En} {r : Out × En}, whileL t b n ρ = some r → n ≤ m → whileL t b m ρ = some r
  | 0, _, _, _, h, _ => nomatch h
  | n + 1, 0, _, _, _, l => absurd l (by omega)
  | n + 1, m + 1, ρ, r, h, l => by
    have ih := fun ρ2 => whileL_mono (t := t) (b := b) (n := n) (m := m) (ρ := ρ2) (r := r)
    unfold whileL at h ⊢
    cases e : t ρ with
    | no => rw [e] at h; cases h
    | ex x => rw [e] at h; exact h
    | ok bb =>
      rw [e] at h
      cases bb with
      | false => exact h
      | true =>
        simp only [if_true] at h ⊢
        cases e2 : b ρ with
        | none => rw [e2] at h; cases h
        | some q =>
          obtain ⟨o, ρ2⟩ := q
          rw [e2] at h
          cases o with
          | nx => exact ih ρ2 h (by omega)
          | cnt => exact ih ρ2 h (by omega)
          | brk => exact h
          | ret d => exact h
          | ex x => exact h
theorem sWhile_of {t : En → Ot Bool} {b : Mst} {n : Nat} {ρ : En} {r : Out × En} (h : whileL t b n ρ = some r) : sWhile t b ρ = some r := by
  have hex : ∃ n, (whileL t b n ρ).isSome := ⟨n, by rw [h]; rfl⟩
  unfold sWhile
  rw [dif_pos hex]
  have h2 := Classical.choose_spec hex
  obtain ⟨r2, e2⟩ := Option.isSome_iff_exists.mp h2
  rw [e2]
  rcases Nat.le_total n (Classical.choose hex) with l | l
  · rw [← e2, whileL_mono h l]
  · rw [← h, whileL_mono e2 l]
end
end OB

namespace OB
open PySem PySem.Spec PyProof.Rows L2

def initE (n : Nat) (ds : List D) : En := ds.map some ++ List.replicate (n - ds.length) none
def bodyM (n : Nat) (g : Mst) : List D → Ot D := fun ds => match g (initE n ds) with
  | some (.nx, _) => .ok .non
  | some (.ret d, _) => .ok d
  | some (.ex x, _) => .ex x
  | _ => .no
section
variable {P : Program} {w : World} {K : PySem.W.Frag} {mg : Str → Option Value} {base : Heap} {cm : Cm}
theorem init_ok {H : Hp} {f : Addr → Prop} {ds : List D} {vs : List V} {Gs : List (List Addr)} {N : List Str} (hf : ∀ a, f a → H a ≠ none) (e : Gs.flatten = []) (r : RepL K cm H (lentZ H f) ds vs Gs) (hl : vs.length ≤ N.length) :
    Ok K cm H (start N vs) (initE N.length ds) (Gs ++ List.replicate (N.length - ds.length) []) (lentZ H f) := by
  have fl : (Gs ++ List.replicate (N.length - ds.length) ([] : List Addr)).flatten = [] := by
    rw [List.flatten_append, e, List.nil_append]
    induction N.length - ds.length with
    | zero => rfl
    | succ n ih => rw [List.replicate_succ, List.flatten_cons, ih]; rfl
  obtain ⟨l1, l2⟩ := r.len
  refine ⟨⟨?_, ?_, ?_⟩, dom_lent hf, (by rw [fl]; exact fun _ h => (nomatch h)), (by rw [fl]; exact List.nodup_nil), (by rw [fl]; exact fun _ h => (nomatch h)), fun _ h => h⟩
  · simp [L2.start, initE, l1]
  · simp [initE, l1, l2]
  · intro i d q
    unfold L2.start
    unfold initE at q
    by_cases hi : i < ds.length
    · rw [List.getElem?_append_left (by simpa using hi), List.getElem?_map] at q
      cases qd : ds[i]? with
      | none => rw [qd] at q; cases q
      | some d' =>
        rw [qd] at q
        cases q
        obtain ⟨v, F, a, b, c⟩ := r.get qd
        refine ⟨v, F, ?_, ?_, c⟩
        · rw [List.getElem?_append_left (by rw [List.length_map, l1]; exact hi), List.getElem?_map, a]; rfl
        · rw [List.getElem?_append_left (by rw [l2]; exact hi), b]
    · rw [List.getElem?_append_right (by simp; omega), List.getElem?_replicate] at q
      split at q <;> cases q
theorem body_fin {H : Hp} {f : Addr → Prop} {ds : List D} {vs : List V} {Gs : List (List Addr)} {N : List Str} {g : Mst} {Q : VK} {E : XK} (hf : ∀ a, f a → H a ≠ none) (e : Gs.flatten = []) (r : RepL K cm H (lentZ H f) ds vs Gs) (hl : vs.length ≤ N.length)
    (q : FinD K cm (fun cls dd _ H' => E cls dd H') [] H (lentZ H f) Q (bodyM N.length g ds)) : tS K cm (fun cls dd _ H' => E cls dd H') [] g { nx := fun _ H' => Q .non H', rt := Q } (start N vs) H := by
  refine ⟨_, _, _, init_ok hf e r hl, ?_⟩
  have fl : (Gs ++ List.replicate (N.length - ds.length) ([] : List Addr)).flatten = [] := by
    rw [List.flatten_append, e, List.nil_append]
    induction N.length - ds.length with
    | zero => rfl
    | succ n ih => rw [List.replicate_succ, List.flatten_cons, ih]; rfl
  have ext : ∀ {σ' H' Z' Fs'}, SStep [] (start N vs) H (lentZ H f) (Gs ++ List.replicate (N.length - ds.length) []) σ' H' Z' Fs' → Dom H' Z' → Ext H (lentZ H f) H' ⟨Z'.f, (lentZ H f).b, (lentZ H f).t⟩ := fun {σ' H' Z' Fs'} s dm =>
    ⟨fun a o h => s.keep a o h (by rw [fl]; exact fun h => (nomatch h)), s.f, fun a h => (s.fn a h).elim .inl fun h => h.elim (by rw [fl]; exact fun h => (nomatch h)) .inr, dm.f, rfl, rfl⟩
  have ze : ∀ {σ' H' Z' Fs' ρ'}, SStep [] (start N vs) H (lentZ H f) (Gs ++ List.replicate (N.length - ds.length) []) σ' H' Z' Fs' → Ok K cm H' σ' ρ' Fs' Z' → Z' = ⟨Z'.f, (lentZ H f).b, (lentZ H f).t⟩ := fun {σ' H' Z' Fs' ρ'} s ok => by
    have h1 := s.b
    have h2 : Z'.t = fun _ => False := funext fun a => propext ⟨ok.t a, fun h => h.elim⟩
    cases Z'
    simp only at h1 h2
    rw [h1, h2]
    rfl
  unfold bodyM at q
  cases e1 : g (initE N.length ds) with
  | none => rw [e1] at q; exact q.elim
  | some p =>
    obtain ⟨o, ρ1⟩ := p
    rw [e1] at q
    intro σ' H' Z' Fs' s ok
    have xt := ext s ok.dom
    have zz := ze s ok
    cases o with
    | nx => exact q .non H' _ [] ⟨xt, ⟨rfl, rfl⟩, List.nodup_nil, fun _ h => (nomatch h), fun _ h => (nomatch h)⟩
    | brk => exact q.elim
    | cnt => exact q.elim
    | ret d =>
      intro v F r nd nz org
      rw [zz] at r
      exact q v H' _ F ⟨xt, r, (List.nodup_append.mp nd).2.1, fun a h => (org a h).elim (by rw [fl]; exact fun h => (nomatch h)) .inl, fun a h => (nz a h).1⟩
    | ex x =>
      intro cls dd xr
      rw [zz] at xr
      exact q cls dd H' _ xt xr
theorem fn_pure {x qual : Str} {st : Stmt} {f : Addr} {fd : FuncData} {N ps : List Str} {k : Nat} {g : Mst} (F : Fun K x qual st f fd) (S : FnScope N ps (defScope st)) (hl : ps.length ≤ N.length)
    (hb : ∀ (cdv : Value) (A : Around) (outer : List Env) (s : Shared) (H : Hp) (E : XK), Room k (A.deeper (envOfC qual (defScope st) s.heap.objs.size f cdv)) →
      SB (cxOf (L2.CX P w) P w K mg base N qual (defScope st) f cdv A outer s H E) cm (fun cls dd _ H' => E cls dd H') [] (defBody st) g) :
    FnOk P w K mg base (L2.CX P w) (k + 1) f fd ps (spP K cm ps.length (bodyM N.length g)) :=
  F.okX S (fun _ _ _ _ h => spP_len h) fun cdv A outer s H vs Q E hr h => ⟨_, hb cdv A outer s H E hr, by
    have hv := spP_len h
    obtain ⟨f, ds, Gs, hf, _, e, r, q⟩ := h
    exact body_fin hf e r (by rw [hv]; exact hl) q⟩
end
end OB

namespace OB
open PySem PySem.Spec PyProof.Rows L2

def getP : D → List Nat → Option D
  | d, [] => some d
  | .nd _ ds, j :: js => match ds[j]? with
    | some dj => getP dj js
    | none => none
  | _, _ :: _ => none
def putP (d : D) (js : List Nat) (d1 : D) : D := match js with
  | [] => d1
  | j :: js => match d with
    | .nd k ds => match ds[j]? with
      | some dj => .nd k (ds.set j (putP dj js d1))
      | none => d
    | d => d
def Reach (K : PySem.W.Frag) (cm : Cm) (H : Hp) (Z : Zn) : D → V → List Nat → V → Prop
  | _, v, [], v0 => v = v0
  | .nd k ds, v, j :: js, v0 => ∃ a vs vj dj, v = .ref a ∧ Cell K cm H Z a k vs ∧ vs.length = ds.length ∧ ds[j]? = some dj ∧ vs[j]? = some vj ∧ Reach K cm H Z dj vj js v0
  | _, _, _ :: _, _ => False
section
variable {K : PySem.W.Frag} {cm : Cm} {H H' : Hp} {Z Z' : Zn}
theorem RepL.focus : ∀ (ds : List D) {vs : List V} {Fs : List (List Addr)} {j : Nat} {dj : D}, RepL K cm H Z ds vs Fs → ds[j]? = some dj → ∃ vj Fj A B, vs[j]? = some vj ∧ Fs.flatten = A ++ Fj ++ B ∧ Rep K cm H Z dj vj Fj ∧
    ∀ (H' : Hp) (Z' : Zn) (d1 : D) (F1 : List Addr), (∀ d v F, Rep K cm H Z d v F → (∀ x ∈ F, x ∈ A ∨ x ∈ B) → Rep K cm H' Z' d v F) → Rep K cm H' Z' d1 vj F1 → ∃ Fs', Fs'.flatten = A ++ F1 ++ B ∧ RepL K cm H' Z' (ds.set j d1) vs Fs'
  | [], _, _, _, _, _, e => by simp at e
  | d :: ds, _, _, 0, dj, h, e => by
    obtain ⟨v, vs', F, Fs', rfl, rfl, h1, h2⟩ := h
    cases e
    refine ⟨v, F, [], Fs'.flatten, rfl, by simp, h1, fun H' Z' d1 F1 m r => ⟨F1 :: Fs', by simp, repL_cons r ?_⟩⟩
    have key : ∀ (ds : List D) (vs : List V) (Gs : List (List Addr)), RepL K cm H Z ds vs Gs → (∀ x ∈ Gs.flatten, x ∈ Fs'.flatten) → RepL K cm H' Z' ds vs Gs := by
      intro ds
      induction ds with
      | nil => exact fun vs Gs h _ => h
      | cons d ds ih =>
        intro vs Gs h sub
        obtain ⟨v, vs', F, Fs', rfl, rfl, h1, h2⟩ := h
        exact repL_cons (m d v F h1 fun x hx => .inr (sub x (by rw [List.flatten_cons]; exact List.mem_append_left _ hx))) (ih _ _ h2 fun x hx => sub x (by rw [List.flatten_cons]; exact List.mem_append_right _ hx))
    exact key ds vs' Fs' h2 fun _ h => h
  | d :: ds, _, _, j + 1, dj, h, e => by
    obtain ⟨v, vs', F, Fs', rfl, rfl, h1, h2⟩ := h
    obtain ⟨vj, Fj, A, B, e1, e2, r, k⟩ := RepL.focus ds (j := j) h2 (by simpa using e)
    refine ⟨vj, Fj, F ++ A, B, by simpa using e1, by rw [List.flatten_cons, e2]; simp, r, fun H' Z' d1 F1 m r1 => ?_⟩
    obtain ⟨Gs, g1, g2⟩ := k H' Z' d1 F1 (fun d v F' h hx => m d v F' h fun x q => (hx x q).elim (fun q => .inl (List.mem_append_right _ q)) .inr) r1
    exact ⟨F :: Gs, by rw [List.flatten_cons, g1]; simp, repL_cons (m d v F h1 fun x hx => .inl (List.mem_append_left _ hx)) g2⟩
theorem Rep.focus : ∀ (js : List Nat) {d : D} {v : V} {F : List Addr} {d0 : D}, Rep K cm H Z d v F → getP d js = some d0 → ∃ v0 F0 A B, F = A ++ F0 ++ B ∧ Rep K cm H Z d0 v0 F0 ∧ Reach K cm H Z d v js v0 ∧
    ∀ (p : Addr) (H' : Hp) (Z' : Zn) (d1 : D) (F1 : List Addr), p ∈ F0 → F.Nodup → CellMove K cm H H' Z Z' id (fun a => a ≠ p) → Rep K cm H' Z' d1 v0 F1 → Rep K cm H' Z' (putP d js d1) v (A ++ F1 ++ B)
  | [], d, v, F, d0, h, e => by
    simp only [getP, Option.some.injEq] at e
    subst e
    exact ⟨v, F, [], [], by simp, h, by unfold Reach; rfl, fun p H' Z' d1 F1 _ _ _ r => by simpa [putP] using r⟩
  | j :: js, .nd k ds, v, F, d0, h, e => by
    obtain ⟨a, vs, Fs, rfl, c, l, rfl⟩ := h
    unfold getP at e
    cases ej : ds[j]? with
    | none => rw [ej] at e; cases e
    | some dj =>
      rw [ej] at e
      obtain ⟨vj, Fj, A, B, e1, e2, r, kk⟩ := RepL.focus ds l ej
      obtain ⟨v0, F0, A2, B2, e3, r0, rc, k2⟩ := Rep.focus js r e
      refine ⟨v0, F0, ownA k a ++ A ++ A2, B2 ++ B, by rw [e2, e3]; simp, r0, ⟨a, vs, vj, dj, rfl, c, l.len.1, ej, e1, rc⟩, fun p H' Z' d1 F1 hp nd mv r1 => ?_⟩
      have nd2 := nd
      rw [e2, e3] at nd2
      have hpA : p ∉ ownA k a := fun q => (List.nodup_append.mp nd2).2.2 p q p (by simp [hp]) rfl
      have nd3 := (List.nodup_append.mp nd2).2.1
      have ndj : Fj.Nodup := by
        rw [← e3] at nd3
        exact (List.nodup_append.mp (List.nodup_append.mp nd3).1).2.1
      have hx : ∀ x, x ∈ A ∨ x ∈ B → x ≠ p := fun x hx q => by
        subst q
        rw [← e3, List.append_assoc] at nd3
        have pj : x ∈ Fj := by rw [e3]; simp [hp]
        rcases hx with hx | hx
        · exact (List.nodup_append.mp nd3).2.2 x hx x (List.mem_append_left _ pj) rfl
        · exact (List.nodup_append.mp (List.nodup_append.mp nd3).2.1).2.2 x pj x hx rfl
      obtain ⟨Gs, g1, g2⟩ := kk H' Z' (putP dj js d1) (A2 ++ F1 ++ B2) (fun d v F h hF => h.stay mv fun x q => hx x (hF x q)) (k2 p H' Z' d1 F1 hp ndj mv r1)
      have cc := mv a k vs c (fun q z => hpA (by unfold ownA; rw [if_pos q, z]; exact List.mem_cons_self))
      rw [Kd.mapF_id] at cc
      refine (show Rep K cm H' Z' (putP (.nd k ds) (j :: js) d1) (.ref a) _ from ?_)
      unfold putP
      dsimp only
      rw [ej]
      exact ⟨a, vs, Gs, rfl, cc, g2, by rw [g1]; simp⟩
  | _ :: _, .non, _, _, _, _, e => by simp [getP] at e
  | _ :: _, .bl _, _, _, _, _, e => by simp [getP] at e
  | _ :: _, .int _, _, _, _, _, e => by simp [getP] at e
  | _ :: _, .str _, _, _, _, _, e => by simp [getP] at e
theorem set_nodup2 : ∀ {Fs : List (List Addr)} {i : Nat} {F F' : List Addr}, Fs.flatten.Nodup → Fs[i]? = some F → F'.Nodup → (∀ x ∈ F', x ∈ F ∨ x ∉ Fs.flatten) → (Fs.set i F').flatten.Nodup
  | [], _, _, _, h, e, _, _ => h
  | G :: Fs, 0, F, F', h, e, hF, hx => by
    cases e
    rw [List.flatten_cons, List.nodup_append] at h
    rw [List.set_cons_zero, List.flatten_cons, List.nodup_append]
    exact ⟨hF, h.2.1, fun a ha b hb e => by
      subst e
      rcases hx a ha with q | q
      · exact h.2.2 a q a hb rfl
      · exact q (by rw [List.flatten_cons]; exact List.mem_append_right _ hb)⟩
  | G :: Fs, i + 1, F, F', h, e, hF, hx => by
    rw [List.flatten_cons, List.nodup_append] at h
    rw [List.set_cons_succ, List.flatten_cons, List.nodup_append]
    have e : Fs[i]? = some F := by simpa using e
    refine ⟨h.1, set_nodup2 h.2.1 e hF fun x q => (hx x q).imp id fun z w => z (by rw [List.flatten_cons]; exact List.mem_append_right _ w), fun a ha b hb ee => ?_⟩
    subst ee
    rcases set_mem hb with q | q
    · exact h.2.2 a ha a q rfl
    · rcases hx a q with z | z
      · exact h.2.2 a ha a (flat_mem e z) rfl
      · exact z (by rw [List.flatten_cons]; exact List.mem_append_left _ ha)
theorem RepE.upd1 {σ : L2.St} {ρ : En} {Fs : List (List Addr)} {i : Nat} {d' : D} {v : V} {F F' : List Addr} {p : Addr} (r : RepE K cm H Z σ ρ Fs) (nd : Fs.flatten.Nodup) (hs : σ[i]? = some (some v)) (hF : Fs[i]? = some F) (hp : p ∈ F)
    (mv : CellMove K cm H H' Z Z' id (fun a => a ≠ p)) (h : Rep K cm H' Z' d' v F') : RepE K cm H' Z' σ (ρ.set i (some d')) (Fs.set i F') := by
  refine ⟨by simpa using r.lσ, by simpa using r.lF, fun j d q => ?_⟩
  by_cases e : i = j
  · subst e
    rw [List.getElem?_set] at q
    split at q
    · split at q
      · cases q
        refine ⟨v, F', hs, ?_, h⟩
        rw [List.getElem?_set_self]
        have := (List.getElem?_eq_some_iff.mp hF).1
        exact this
      · cases q
    · rename_i n
      exact absurd rfl n
  · rw [List.getElem?_set_ne e] at q
    obtain ⟨v2, F2, a, b, c⟩ := r.get j d q
    refine ⟨v2, F2, a, by rw [List.getElem?_set_ne e]; exact b, c.stay mv (fun x z => ?_)⟩
    intro e2
    rw [e2] at z
    -- p is in slot i alone
    have key : ∀ {Fs : List (List Addr)} {i j : Nat} {F F2 : List Addr}, Fs.flatten.Nodup → Fs[i]? = some F → Fs[j]? = some F2 → i ≠ j → p ∈ F → p ∈ F2 → False := by
      intro Fs
      induction Fs with
      | nil => intro i j F F2 _ e; simp at e
      | cons G Fs ih =>
        intro i j F F2 nd e1 e2 ne h1 h2
        rw [List.flatten_cons, List.nodup_append] at nd
        cases i with
        | zero =>
          cases j with
          | zero => exact ne rfl
          | succ j =>
            cases e1
            exact nd.2.2 p h1 p (flat_mem (by simpa using e2) h2) rfl
        | succ i =>
          cases j with
          | zero =>
            cases e2
            exact nd.2.2 p h2 p (flat_mem (by simpa using e1) h1) rfl
          | succ j => exact ih nd.2.1 (by simpa using e1) (by simpa using e2) (fun q => ne (by rw [q])) h1 h2
    exact key nd hF b e hp z
theorem cell_then {H1 H2 : Hp} {Z1 Z2 : Zn} {O : Addr → Prop} (m1 : CellMove K cm H H1 Z Z1 id (fun _ => True)) (m2 : CellMove K cm H1 H2 Z1 Z2 id O) : CellMove K cm H H2 Z Z2 id O := fun a k vs h ho => by
  have c1 := m1 a k vs h fun _ => trivial
  rw [Kd.mapF_id] at c1
  exact m2 a k vs c1 ho
/-- the place js within the i-th local takes other content -/
theorem Ok.mutP {σ : L2.St} {ρ : En} {Fs : List (List Addr)} {i : Nat} {js : List Nat} {d : D} {k : Kd} {es : List D} (ok : Ok K cm H σ ρ Fs Z) (hi : ρ[i]? = some (some d)) (hj : getP d js = some (.nd k es)) (hk : k.isOwn = true) :
    ∃ v a us Es, σ[i]? = some (some v) ∧ Reach K cm H Z d v js (.ref a) ∧ a ∈ Fs.flatten ∧ Cell K cm H Z a k us ∧ RepL K cm H Z es us Es ∧ (∀ x ∈ Es.flatten, x ∈ Fs.flatten) ∧ Es.flatten.Nodup ∧ a ∉ Es.flatten ∧
      ∀ H1 Z1 ds vs Gs, Ext H (lendZ Z Fs) H1 Z1 → OkT K cm H1 σ ρ Fs ⟨Z1.f, Z.b, fun _ => False⟩ ds vs Gs →
      ∀ k' es' us' Es' o', k'.isOwn = true → Cell K cm (L2.upd H1 a o') ⟨Z1.f, Z.b, fun _ => False⟩ a k' us' → Mut (some o') → RepL K cm H1 ⟨Z1.f, Z.b, fun _ => False⟩ es' us' Es' → (∀ x ∈ Es'.flatten, x ∈ Es.flatten ∨ x ∈ Gs.flatten) → Es'.flatten.Nodup →
        ∃ Fs', Ok K cm (L2.upd H1 a o') σ (ρ.set i (some (putP d js (.nd k' es')))) Fs' ⟨Z1.f, Z.b, fun _ => False⟩ ∧ (∀ x ∈ Fs'.flatten, x ∈ Fs.flatten ∨ x ∈ Gs.flatten) := by
  obtain ⟨v, F, hs, hF, r⟩ := ok.rep.get i d hi
  obtain ⟨v0, F0, A, B, eF, r0, rc, kk⟩ := r.focus js hj
  obtain ⟨a, us, Es, rfl, c, l, rfl⟩ := r0
  have hO : ownA k a = [a] := by unfold ownA; rw [if_pos hk]
  rw [hO] at eF kk
  have sub : ∀ x ∈ F, x ∈ Fs.flatten := fun x hx => flat_mem hF hx
  have ndF : F.Nodup := by
    have := ok.nd
    have key : ∀ {Fs : List (List Addr)} {i : Nat}, Fs.flatten.Nodup → Fs[i]? = some F → F.Nodup := by
      intro Fs
      induction Fs with
      | nil => intro i _ e; simp at e
      | cons G Fs ih =>
        intro i nd e
        rw [List.flatten_cons, List.nodup_append] at nd
        cases i with
        | zero => cases e; exact nd.1
        | succ i => exact ih nd.2.1 (by simpa using e)
    exact key this hF
  have ha : a ∈ Fs.flatten := sub a (by rw [eF]; simp)
  have hEs : ∀ x ∈ Es.flatten, x ∈ Fs.flatten := fun x hx => sub x (by rw [eF]; exact List.mem_append_left _ (List.mem_append_right _ (List.mem_append_right _ hx)))
  have ndF2 := ndF
  rw [eF] at ndF2
  have n1 := List.nodup_append.mp ndF2
  have n2 := List.nodup_append.mp n1.1
  have n3 := List.nodup_append.mp n2.2.1
  have ndEs : Es.flatten.Nodup := n3.2.1
  have aE : a ∉ Es.flatten := fun q => n3.2.2 a (List.mem_singleton.mpr rfl) a q rfl
  refine ⟨v, a, us, Es, hs, rc, ha, c, l, hEs, ndEs, aE, fun H1 Z1 ds vs Gs ex o k' es' us' Es' o' hk' c' mu' l' sub' nd' => ?_⟩
  have ndG := List.nodup_append.mp o.nd
  have mu := o.ok.mu a ha
  have nz := o.ok.nz a ha
  have nt := o.ok.t a
  have aG : a ∉ Gs.flatten := fun q => ndG.2.2 a ha a q rfl
  have l2 := l'.upd (p := a) (o := o') mu (fun q => (sub' a q).elim aE aG) nz.1 nz.2 nt
  have mv : CellMove K cm H (L2.upd H1 a o') Z ⟨Z1.f, Z.b, fun _ => False⟩ id (fun x => x ≠ a) :=
    cell_then (Z1 := ⟨Z1.f, Z.b, fun _ => False⟩) (cell_grow ex.gr ex.f (fun _ h => h) fun x h => (ok.t x h).elim) (cell_upd mu nz.1 nz.2 nt)
  have rr := kk a (L2.upd H1 a o') ⟨Z1.f, Z.b, fun _ => False⟩ (.nd k' es') ([a] ++ Es'.flatten) (by simp) ndF mv ⟨a, us', Es', rfl, c', l2, by unfold ownA; rw [if_pos hk']⟩
  have hF' : ∀ x ∈ A ++ ([a] ++ Es'.flatten) ++ B, x ∈ F ∨ x ∈ Gs.flatten := fun x hx => by
    rw [eF]
    simp only [List.mem_append] at hx ⊢
    rcases hx with (hx | hx | hx) | hx
    · exact .inl (.inl (.inl hx))
    · exact .inl (.inl (.inr (.inl hx)))
    · exact (sub' x hx).elim (fun q => .inl (.inl (.inr (.inr q)))) .inr
    · exact .inl (.inr hx)
  have gF : ∀ x ∈ Gs.flatten, x ∉ Fs.flatten := fun x hx q => ndG.2.2 x q x hx rfl
  have nF' : (A ++ ([a] ++ Es'.flatten) ++ B).Nodup := by
    have old : ∀ x, x ∈ Es'.flatten → x ∈ ([a] ++ Es.flatten) ∨ x ∉ Fs.flatten := fun x hx => (sub' x hx).elim (fun q => .inl (List.mem_append_right _ q)) fun q => .inr (gF x q)
    have old2 : ∀ x, x ∈ [a] ++ Es'.flatten → x ∈ ([a] ++ Es.flatten) ∨ x ∉ Fs.flatten := fun x hx => (List.mem_append.mp hx).elim (fun q => .inl (List.mem_append_left _ q)) (old x)
    have inA : ∀ x ∈ A, x ∈ Fs.flatten := fun x hx => sub x (by rw [eF]; exact List.mem_append_left _ (List.mem_append_left _ hx))
    have inB : ∀ x ∈ B, x ∈ Fs.flatten := fun x hx => sub x (by rw [eF]; exact List.mem_append_right _ hx)
    rw [List.nodup_append, List.nodup_append]
    refine ⟨⟨n2.1, List.nodup_append.mpr ⟨n3.1, nd', fun x hx y hy e => ?_⟩, fun x hx y hy e => ?_⟩, n1.2.1, fun x hx y hy e => ?_⟩
    · rw [List.mem_singleton] at hx
      subst hx; subst e
      exact (sub' x hy).elim aE aG
    · subst e
      exact (old2 x hy).elim (fun q => n2.2.2 x hx x q rfl) fun q => q (inA x hx)
    · subst e
      rcases List.mem_append.mp hx with q | q
      · exact n1.2.2 x (List.mem_append_left _ q) x hy rfl
      · exact (old2 x q).elim (fun z => n1.2.2 x (List.mem_append_right _ z) x hy rfl) fun z => z (inB x hy)
  have smem : ∀ x ∈ (Fs.set i (A ++ ([a] ++ Es'.flatten) ++ B)).flatten, x ∈ Fs.flatten ∨ x ∈ Gs.flatten := fun x hx => (set_mem hx).elim .inl fun q => (hF' x q).imp (sub x) id
  have gm : ∀ x ∈ Gs.flatten, Mut (H1 x) := RepL.mut ds o.rep
  refine ⟨Fs.set i (A ++ ([a] ++ Es'.flatten) ++ B), ⟨ok.rep.upd1 ok.nd hs hF (by rw [eF]; simp) mv rr, ?_, fun x hx => ?_, set_nodup2 ok.nd hF nF' fun x hx => (hF' x hx).imp id (gF x), fun x hx => (smem x hx).elim (o.ok.nz x) (o.nz x), o.ok.t⟩, smem⟩
  · refine ⟨fun x hx => ?_, fun x hx => ?_, fun x hx => (o.ok.t x hx).elim⟩
    · by_cases e : x = a
      · subst e; exact absurd hx nz.1
      · rw [upd_ne e]; exact o.ok.dom.f x hx
    · by_cases e : x = a
      · subst e; exact absurd hx nz.2
      · rw [upd_ne e]; exact o.ok.dom.b x hx
  · by_cases e : x = a
    · subst e; rw [upd_same]; exact mu'
    · rw [upd_ne e]; exact (smem x hx).elim (o.ok.mu x) (gm x)
end
end OB

namespace OB
open PySem PySem.Spec PyProof.Rows L2

/-- the place π within the i-th local -/
abbrev Pi' := En → Option (List Nat)
def tPth (K : PySem.W.Frag) (cm : Cm) (i : Nat) (π : Pi') : TE := fun σ H Q => ∃ Z ρ d js v v0, σ[i]? = some (some v) ∧ ρ[i]? = some (some d) ∧ π ρ = some js ∧ Reach K cm H Z d v js v0 ∧ Q v0 H
def pHere : Pi' := fun _ => some []
abbrev SPth (X : Cx) (cm : Cm) (e : Expr) (i : Nat) (π : Pi') : Prop := PE X e (tPth X.K cm i π)
theorem sp_name {X : Cx} {cm : Cm} {x : Str} {p : Pos} {i : Nat} (he : PE X (.Name x p) (tVar i)) : SPth X cm (.Name x p) i pHere := PE.imp he fun σ H Q q => by
  obtain ⟨Z, ρ, d, js, v, v0, h1, h2, h3, h4, q⟩ := q
  cases h3
  have h4 : v = v0 := by
    cases d <;> exact h4
  subst h4
  exact ⟨v, h1, q⟩
def placeOf (i : Nat) (π : Pi') (ρ : En) : Option (D × List Nat × Kd × List D) := match ρ[i]? with
  | some (some d) => match π ρ with
    | some js => match getP d js with
      | some (.nd k es) => if k.isOwn then some (d, js, k, es) else none
      | _ => none
    | none => none
  | _ => none
theorem placeOf_eq {i : Nat} {π : Pi'} {ρ : En} {d : D} {js : List Nat} {k : Kd} {es : List D} (h : placeOf i π ρ = some (d, js, k, es)) : ρ[i]? = some (some d) ∧ π ρ = some js ∧ getP d js = some (.nd k es) ∧ k.isOwn = true := by
  unfold placeOf at h
  split at h
  · split at h
    · split at h
      · split at h
        · cases h; exact ⟨by assumption, by assumption, by assumption, by assumption⟩
        · cases h
      · cases h
    · cases h
  · cases h
def putAt (i : Nat) (ρ : En) (d : D) (js : List Nat) (x : D) : En := ρ.set i (some (putP d js x))

section
variable {K : PySem.W.Frag} {cm : Cm} {H H1 H' : Hp} {Z Z1 Z' : Zn} {σ : L2.St} {ρ : En} {Fs : List (List Addr)} {P : List Nat} {W : WX}
theorem noT_repL : ∀ {ds : List D} {vs : List V} {Gs : List (List Addr)} {t' : Addr → Prop}, RepL K cm H Z ds vs Gs → ds.all noT = true → RepL K cm H ⟨Z.f, Z.b, t'⟩ ds vs Gs
  | [], _, _, _, r, _ => r
  | d :: ds, _, _, t', r, h => by
    obtain ⟨v, vs', F, Fs', rfl, rfl, h1, h2⟩ := r
    rw [List.all_cons, Bool.and_eq_true] at h
    exact repL_cons (noT_rep h1 h.1) (noT_repL h2 h.2)
theorem Ok.many (ok : Ok K cm H σ ρ Fs Z) {ds : List D} {vs : List V} {Gs : List (List Addr)} (r : ResL K cm H (lendZ Z Fs) H1 Z1 [] ds vs Gs) (h : ds.all noT = true) : OkT K cm H1 σ ρ Fs ⟨Z1.f, Z.b, fun _ => False⟩ ds vs Gs := by
  have hb : Z1.b = Z.b := r.ext.b
  have fr : ∀ a ∈ Gs.flatten, H a = none := fun a h => (r.fr a h).elim id fun q => nomatch q
  refine ⟨ok.ext r.ext, ?_, ?_, fun a ha => ?_⟩
  · have := noT_repL (t' := fun _ => False) r.rep h
    rwa [hb] at this
  · rw [List.nodup_append]
    exact ⟨ok.nd, r.nd, fun a ha b hb e => by subst e; exact mut_ne (ok.mu a ha) (fr a hb)⟩
  · exact ⟨r.nf a ha, fun q => ok.dom.b a q (fr a ha)⟩
/-- values ahead of a statement's own work -/
def sOnL (f : En → Ot (List D)) (k : List D → Mst) : Mst := fun ρ => match f ρ with
  | .no => none
  | .ok ds => k ds ρ
  | .ex x => some (.ex x, ρ)
theorem on_goF {f : En → Ot (List D)} {k : List D → Mst} {D0 : Ends} {Q : List V → Hp → Prop} (ok : Ok K cm H σ ρ Fs Z) (q : FinS K cm W P D0 σ H Z Fs (sOnL f k ρ))
    (hk : ∀ ds vs H1 Z1 Gs, f ρ = .ok ds → ResL K cm H (lendZ Z Fs) H1 Z1 [] ds vs Gs → FinS K cm W P D0 σ H Z Fs (k ds ρ) → Q vs H1) : FinL K cm W σ H (lendZ Z Fs) Q (f ρ) := by
  unfold sOnL at q
  cases e : f ρ with
  | no => rw [e] at q; exact q.elim
  | ok d =>
    rw [e] at q
    exact fun vs H1 Z1 Gs r => hk d vs H1 Z1 Gs e r q
  | ex x =>
    rw [e] at q
    intro cls dd H1 Z1 ex xr
    exact q σ H1 _ Fs (.ext ok ex) (ok.ext ex) cls dd (xr.back fun _ h => h)
theorem on_goL {f : En → Ot (List D)} {k : List D → Mst} {D0 : Ends} {Q : List V → Hp → Prop} (ok : Ok K cm H σ ρ Fs Z) (q : FinS K cm W P D0 σ H Z Fs (sOnL f k ρ))
    (hk : ∀ ds vs H1 Z1 Gs, f ρ = .ok ds → ResL K cm H (lendZ Z Fs) H1 Z1 [] ds vs Gs → FinS K cm W P D0 σ H Z Fs (k ds ρ) → Q vs H1) : tPL K cm W f σ H Q := ⟨lendZ Z Fs, ρ, Fs, ok.pure, on_goF ok q hk⟩
/-- a change of a place as a step -/
theorem SStep.put {a : Addr} {o' : HO} {Fs' Gs : List (List Addr)} (ex : Ext H (lendZ Z Fs) H1 Z1) (ha : a ∈ Fs.flatten) (sub : ∀ x ∈ Fs'.flatten, x ∈ Fs.flatten ∨ x ∈ Gs.flatten) (fr : ∀ x ∈ Gs.flatten, H x = none) :
    SStep P σ H Z Fs σ (L2.upd H1 a o') ⟨Z1.f, Z.b, fun _ => False⟩ Fs' :=
  ⟨fun x o h n => by rw [upd_ne (fun e => n (by rw [e]; exact ha))]; exact ex.gr x o h, fun x h => (sub x h).imp id (fr x), ex.f, fun x h => (ex.fn x h).elim .inl fun q => .inr (.inr q), rfl, fun _ _ => rfl⟩
end

/-! ### methods of lists that change them -/
/-- what a method makes of a list -/
def MutR (K : PySem.W.Frag) (cm : Cm) (r : V → List V → Hp → VK → Prop) (m : List D → List D → Option (List D)) : Prop := ∀ (H : Hp) (Z : Zn) (l : Addr) (us : List V) (es : List D) (Es : List (List Addr)) (ds : List D) (vs : List V) (Gs : List (List Addr)) (es' : List D),
  H l = some (.lst us) → RepL K cm H Z es us Es → RepL K cm H Z ds vs Gs → (∀ x ∈ Gs.flatten, x ≠ l) → m es ds = some es' → ∃ us' Es', RepL K cm H Z es' us' Es' ∧ (∀ x ∈ Es'.flatten, x ∈ Es.flatten ∨ x ∈ Gs.flatten) ∧ ((Es.flatten ++ Gs.flatten).Nodup → Es'.flatten.Nodup) ∧
    ∀ Q : VK, (∀ y, Q y (L2.upd H l (.lst us'))) → r (.ref l) vs H Q
def mApp (es ds : List D) : Option (List D) := match ds with
  | [d] => if es.length < sizeLine then some (es ++ [d]) else none
  | _ => none
theorem mut_append {K : PySem.W.Frag} {cm : Cm} : MutR K cm rAppend mApp := fun H Z l us es Es ds vs Gs es' hl re rd _ h => by
  unfold mApp at h
  split at h
  · split at h
    · rename_i d hs
      cases h
      obtain ⟨v, F, rfl, rfl, hd⟩ := repL1 rd
      refine ⟨us ++ [v], Es ++ [F], re.app (repL_cons hd repL_nil), fun x hx => ?_, fun nd => by simpa using nd, fun Q q => ⟨l, us, v, rfl, rfl, hl, by rw [re.len.1]; exact hs, q _⟩⟩
      rw [List.flatten_append] at hx
      exact List.mem_append.mp hx
    · cases h
  · cases h
def sMut (i : Nat) (π : Pi') (m : List D → List D → Option (List D)) (f : En → Ot (List D)) : Mst := fun ρ => match placeOf i π ρ with
  | some (d, js, .lst .own, es) => sOnL f (fun ds ρ => if ds.all noT then (match m es ds with
      | some es' => some (.nx, putAt i ρ d js (.lst .own es'))
      | none => none) else none) ρ
  | _ => none
section
variable {X : Cx} {cm : Cm} {W : WX} {P : List Nat} {o e : Expr} {es : List Expr} {fs : List (En → Ot D)} {name : Str} {apos cpos pos : Pos} {id : String} {r : V → List V → Hp → VK → Prop} {m : List D → List D → Option (List D)} {i : Nat} {π : Pi'}
theorem mut_end {K : PySem.W.Frag} {t : TA} {f : En → Ot (List D)} (ht : ∀ σ H Q, tPL K cm W f σ H Q → t σ H Q) (hm : MutR K cm r m) {D0 : Ends} {σ : L2.St} {H : Hp} (q : tS K cm W P (sMut i π m f) D0 σ H) :
    tPth K cm i π σ H fun x H1 => tyV K "list" x H1 ∧ t σ H1 fun xs H2 => r x xs H2 fun _ H3 => D0.nx σ H3 := by
  obtain ⟨Z, ρ, Fs, ok, q⟩ := q
  unfold sMut at q
  split at q
  · rename_i d js es hp
    obtain ⟨h1, h2, h3, h4⟩ := placeOf_eq hp
    obtain ⟨v, a, us, Es, hs, rc, ha, c, l, hEs, ndE, aE, kk⟩ := ok.mutP h1 h3 h4
    refine ⟨Z, ρ, d, js, v, _, hs, h1, h2, rc, .inl ⟨rfl, us, .inl c.2.1⟩, ht _ _ _ (on_goL ok q fun ds vs H1 Z1 Gs e r1 q1 => ?_)⟩
    split at q1
    · rename_i hc
      split at q1
      · rename_i es' hm'
        have o := ok.many r1 hc
        have l1 : RepL K cm H1 ⟨Z1.f, Z.b, fun _ => False⟩ es us Es := l.grow r1.ext.gr r1.ext.f (fun _ h => h) fun x h => (ok.t x h).elim
        have fr : ∀ a ∈ Gs.flatten, H a = none := fun a h => (r1.fr a h).elim id fun q => nomatch q
        obtain ⟨us', Es', l2, sub, nd, fin⟩ := hm H1 ⟨Z1.f, Z.b, fun _ => False⟩ a us es Es ds vs Gs es' (r1.ext.gr _ _ (c.1 (by decide))) l1 o.rep (fun x hx e => mut_ne (ok.mu a ha) (e ▸ fr x hx)) hm'
        have nd2 := List.nodup_append.mp o.nd
        have ndEG : (Es.flatten ++ Gs.flatten).Nodup := List.nodup_append.mpr ⟨ndE, nd2.2.1, fun x hx y hy e => nd2.2.2 x (hEs x hx) y hy e⟩
        refine fin _ fun y => ?_
        obtain ⟨Fs', ok', sub'⟩ := kk H1 Z1 ds vs Gs r1.ext o (.lst .own) es' us' Es' (.lst us') rfl ⟨fun _ => upd_same, .inl upd_same, trivial⟩ trivial l2 sub (nd ndEG)
        exact q1 σ _ _ Fs' (.put r1.ext ha sub' fr) ok'
      · exact q1.elim
    · exact q1.elim
  · exact q.elim
theorem ss_mut (slot : Slot "list" name id) (hty : typeOf (.builtin id) = pure (.type "method_descriptor")) (hr : MtR X id r) (hm : MutR X.K cm r m) (ho : SPth X cm o i π) (ha : SA X cm W (e :: es) (eL fs))
    (hsw : swapsWith (.Call (.Attribute o name apos) (e :: es) [] cpos) none pos.line X.env = pure false := by rfl)
    (hbase : attributeBase o name X.env (eval o X.env) = eval o X.env := by rfl)
    (hfew : ((backTo cpos (starEach (e :: es) X.env)).all (fun x => !x.1) && (backToKw cpos (keywordEach [] X.env)).all (fun x => x.1.isSome)
      && decide ((e :: es).length + ([] : List Keyword).length + (if ([] : List Keyword).isEmpty then 0 else 1) < 30)) = true := by rfl)
    (hline : (apos.endLine == cpos.line) = true := by rfl) (hs : starEach (e :: es) X.env = (false, eval e X.env) :: starEach es X.env := by rfl) (hplain : (backTo cpos (starEach es X.env)).any (·.1) = false := by rfl) :
    SS X cm W P (.Expr (.Call (.Attribute o name apos) (e :: es) [] cpos) pos) (sMut i π m (eL fs)) :=
  PS.imp (ps_expr (pe_bm PySem.F.plainAttrs_list slot hty hr ho ha hbase hfew hline hs hplain) hsw) fun D0 σ H q => mut_end (fun _ _ _ h => h) hm q
end

/-! ### o[i] = v -/
def putD (k : Kd) (es : List D) (key x : D) : Option (Kd × List D) := match k with
  | .lst .own => match key with
    | .int z => match ixN es.length z with
      | some j => some (.lst .own, es.set j x)
      | none => none
    | _ => none
  | _ => none
section
variable {K : PySem.W.Frag} {cm : Cm} {H H1 H' : Hp} {Z Z1 Z' : Zn} {σ : L2.St} {ρ : En} {Fs : List (List Addr)} {P : List Nat} {W : WX}
theorem Reach.move {O : Addr → Prop} (m : CellMove K cm H H' Z Z' id (fun _ => True)) : ∀ (js : List Nat) {d : D} {v v0 : V}, Reach K cm H Z d v js v0 → Reach K cm H' Z' d v js v0
  | [], d, v, v0, h => by cases d <;> exact h
  | j :: js, d, v, v0, h => by
    cases d with
    | nd k ds =>
      obtain ⟨a, vs, vj, dj, rfl, c, el, e1, e2, r⟩ := h
      have cc := m a k vs c fun _ => trivial
      rw [Kd.mapF_id] at cc
      exact ⟨a, vs, vj, dj, rfl, cc, el, e1, e2, Reach.move (O := O) m js r⟩
    | _ => exact h.elim
/-- two values, a place between -/
theorem two_mid {f g : En → Ot D} {i : Nat} {π : Pi'} {Q : List V → Hp → Prop} {R : V → V → V → Hp → Prop} {v0 : V} (ok : OkP K cm H σ ρ Fs Z) (h : FinL K cm W σ H Z Q (eL [f, g] ρ)) (mid : ∀ H1 Z1, Ext H Z H1 Z1 → ∀ Q' : VK, Q' v0 H1 → tPth K cm i π σ H1 Q') (hQ : ∀ x y H', Q [x, y] H' → R v0 x y H') :
    tP K cm W f σ H (fun x H1 => tPth K cm i π σ H1 fun o H2 => tP K cm W g σ H2 (fun y H3 => R o x y H3)) := by
  simp only [eL] at h
  refine tP_bind ok (fun q => ?_) (fun d q v H1 Z1 F r => ?_) (fun x q => ?_)
  · rw [q] at h; exact h
  · rw [q, Ot.bind_ok] at h
    refine mid H1 Z1 r.ext _ (tP_bind (ok.ext r.ext) (fun q2 => ?_) (fun d2 q2 v2 H2 Z2 F2 r2 => ?_) (fun x q2 => ?_))
    · rw [q2] at h; exact h
    · rw [q2] at h
      exact hQ _ _ _ (h [v, v2] H2 Z2 _ (ResL.cons r (ResL.cons r2 (.nil ((ok.ext r.ext).dom.ext r2.ext)))))
    · rw [q2] at h; exact fun cls dd H' Z' ex xr => h cls dd H' Z' (r.ext.trans ex) xr
  · rw [q] at h; exact h
def sPut (i : Nat) (π : Pi') (fv fi : En → Ot D) : Mst := fun ρ => match placeOf i π ρ with
  | some (d, js, k, es) => sOnL (eL [fv, fi]) (fun ds ρ => match ds with
    | [x, y] => if noT x && isAt y then (match putD k es y x with
      | some (k', es') => some (.nx, putAt i ρ d js (.nd k' es'))
      | none => none) else none
    | _ => none) ρ
  | none => none
/-- what o[i] = v makes -/
theorem put_ok {a : Addr} {k k' : Kd} {us : List V} {es es' : List D} {Es : List (List Addr)} {key x : D} {ky v : V} {F G : List Addr} (c : Cell K cm H Z a k us) (l : RepL K cm H Z es us Es) (rk : Rep K cm H Z key ky G) (rx : Rep K cm H Z x v F) (h : putD k es key x = some (k', es')) :
    ∃ us' Es' o', k'.isOwn = true ∧ Cell K cm (L2.upd H a o') Z a k' us' ∧ Mut (some o') ∧ RepL K cm H Z es' us' Es' ∧ (∀ y ∈ Es'.flatten, y ∈ Es.flatten ∨ y ∈ F) ∧ ((Es.flatten ++ F).Nodup → Es'.flatten.Nodup) ∧ ∀ Q : Hp → Prop, Q (L2.upd H a o') → rSetL (.ref a) ky v H Q := by
  unfold putD at h
  split at h
  · split at h
    · split at h
      · rename_i _ z _ j hj
        cases h
        have e : ky = .int z := rk.1
        subst e
        have hl := l.len.1
        refine ⟨us.set j v, Es.set j F, .lst (us.set j v), rfl, ⟨fun _ => upd_same, .inl upd_same, trivial⟩, trivial, l.set j rx, fun y hy => set_mem hy, fun nd => ?_, fun Q q => ⟨a, us, z, j, rfl, rfl, c.1 (by decide), by rw [hl]; exact hj, q⟩⟩
        rw [List.nodup_append] at nd
        exact set_nodup nd.1 nd.2.1 fun y hy hf => nd.2.2 y hy y hf rfl
      · cases h
    · cases h
  · cases h
theorem put_end {fv fi : En → Ot D} {i : Nat} {π : Pi'} {D0 : Ends} (q : tS K cm W P (sPut i π fv fi) D0 σ H) :
    tP K cm W fv σ H fun x H1 => tPth K cm i π σ H1 fun o H2 => tP K cm W fi σ H2 fun y H3 => rSetL o y x H3 fun H4 => D0.nx σ H4 := by
  obtain ⟨Z, ρ, Fs, ok, q⟩ := q
  unfold sPut at q
  split at q
  · rename_i d js k es hp
    obtain ⟨h1, h2, h3, h4⟩ := placeOf_eq hp
    obtain ⟨v, a, us, Es, hs, rc, ha, c, l, hEs, ndE, aE, kk⟩ := ok.mutP h1 h3 h4
    have key := on_goF (K := K) (cm := cm) (W := W) (P := P) (D0 := D0) (Q := fun vs H3 => ∃ x y, vs = [x, y] ∧ rSetL (.ref a) y x H3 fun H4 => D0.nx σ H4) ok q (fun ds vs H1 Z1 Gs e r1 q1 => by
      split at q1
      · rename_i x y
        split at q1
        · rename_i hc
          rw [Bool.and_eq_true] at hc
          split at q1
          · rename_i k' es' hm'
            obtain ⟨vx, vy, Gx, Gy, rfl, rfl, rx, ry⟩ := repL2 r1.rep
            have gy : Gy = [] := by
              cases y with
              | nd k ds => cases hc.2
              | _ => exact ry.2
            subst gy
            have o := ok.many (ds := [x, y]) r1 (by
              rw [List.all_cons, hc.1, List.all_cons, Bool.true_and]
              cases y with
              | nd k ds => cases hc.2
              | _ => rfl)
            obtain ⟨vx', vy', Gx', Gy', e1, e2, rx', ry'⟩ := repL2 o.rep
            cases e1
            cases e2
            have mv : CellMove K cm H H1 Z ⟨Z1.f, Z.b, fun _ => False⟩ id (fun _ => True) := cell_grow r1.ext.gr r1.ext.f (fun _ h => h) fun x h => (ok.t x h).elim
            have l1 : RepL K cm H1 ⟨Z1.f, Z.b, fun _ => False⟩ es us Es := l.stay mv fun _ _ => trivial
            have c1 := mv a k us c fun _ => trivial
            rw [Kd.mapF_id] at c1
            have fr : ∀ a ∈ ([Gx, []] : List (List Addr)).flatten, H a = none := fun a h => (r1.fr a h).elim id fun q => nomatch q
            obtain ⟨us', Es', o', g1, g2, g3, g4, g5, g6, fin⟩ := put_ok c1 l1 ry' rx' hm'
            have nd2 := List.nodup_append.mp o.nd
            have fl : ([Gx, []] : List (List Addr)).flatten = Gx := by simp
            have ndEG : (Es.flatten ++ Gx).Nodup := List.nodup_append.mpr ⟨ndE, by rw [← fl]; exact nd2.2.1, fun x hx y hy e => nd2.2.2 x (hEs x hx) y (by rw [fl]; exact hy) e⟩
            obtain ⟨Fs', ok', sub'⟩ := kk H1 Z1 _ _ _ r1.ext o k' es' us' Es' o' g1 g2 g3 g4 (by rw [fl]; exact g5) (g6 ndEG)
            exact ⟨vx, vy, rfl, fin _ (q1 σ _ _ Fs' (.put r1.ext ha sub' fr) ok')⟩
          · exact q1.elim
        · exact q1.elim
      · exact q1.elim)
    refine (two_mid (i := i) (π := π) (v0 := .ref a) ok.pure key (fun H1 Z1 ex Q' q' => ⟨Z1, ρ, d, js, v, _, hs, h1, h2, ?_, q'⟩) (R := fun o x y H3 => rSetL o y x H3 fun H4 => D0.nx σ H4) fun x y H' ⟨x', y', e, q⟩ => by cases e; exact q)
    exact rc.move (O := fun _ => True) (cell_grow (Z := Z) ex.gr (fun x h => ex.f x h) (fun x h => by rw [ex.b]; exact h) fun x h => (ok.t x h).elim) js
  · exact q.elim
end
section
variable {X : Cx} {cm : Cm} {W : WX} {P : List Nat} {o ix value : Expr} {pos' pos : Pos} {i : Nat} {π : Pi'} {fv fi : En → Ot D}
theorem ss_put (ho : SPth X cm o i π) (hv : SE X cm W value fv) (hi : SE X cm W ix fi)
    (ha : ∀ v, assign (.Subscript o ix pos') X.env v = (do
      let ov ← holding [v] (eval o X.env)
      let iv ← holding [v, ov] (eval ix X.env)
      standAt pos'
      holding [v, ov, iv] (setItem ov iv v)
      release [v, ov, iv] []) := by intro _; rfl)
    (hs : swapsWithSole [.Subscript o ix pos'] value pos.line X.env = pure false := by rfl) (hw : swappedStores [.Subscript o ix pos'] value X.env = pure none := by rfl)
    (h1 : (assignEach [.Subscript o ix pos'] X.env).map (·.2) = [assign (.Subscript o ix pos') X.env] := by rfl) : SS X cm W P (.Assign [.Subscript o ix pos'] value pos) (sPut i π fv fi) :=
  PS.imp (ps_asg hv (pg_sub ho hi (set_list) ha) hs hw h1) fun D0 σ H q => put_end q
end
end OB

namespace OB
open PySem PySem.Spec PyProof.Rows L2

section
variable {prog : Program} {w : World} {A : Around} {E : Value → Shared → Prop} {s : Shared}
theorem call_join_rev {x : Str} {t : Tok} {zs : List V} {ys : List Str} {it l : Addr} {its : List Value} {Q : Value → Shared → Prop} (hh : A.handled = none) (hit : s.heap.IsRevIter it l ((its.toArray.size : Int) - 1)) (hl : s.heap.IsList l its.toArray) (hne : l ≠ it)
    (hn : its.toArray.size ≤ sizeLine) (hv : Vals zs its) (hys : zs.reverse = ys.map V.str) (hok : (ys.map (·.length)).sum + ys.length * x.length ≤ 16777216)
    (hq : ∀ (h' : Heap) (t' : Tok) (tk : Nat), (∀ b o, b ≠ it → s.heap.get? b = some o → h'.get? b = some o) → Q (.str (Txt.join x ys) t') { s with heap := h', toks := tk }) :
    wpAny (model prog w) A (call (.builtin "str.join") [.str x t, .ref it]) Q E s := by
  have hT : s.TypeIs (.ref it) "list_reverseiterator" := hit.typeIs
  refine wpAny_call (codeAny_call_builtin F.slot_str_join.plain F.entry_str_join (F.slot_str_join.check _ _ _ _ _ _ _ _ (typeIs_str _ _ _) (F.args_str_join_2 _ _) ?_))
  rw [PySem.join_tree_other]
  refine wpAny_bind (wpAny_typeOf hT ?_)
  show wpAny _ A.in1 ((pyIter (.ref it)).tryCatch _ >>= fun it => collect it >>= fun items => joinTail x items) _ _ s
  refine wpAny_bind (wpAny_tryCatch (wpAny_pyIter_revIter hit ?_))
  refine wpAny_bind (RT.collect_rev (A := A.in1) hh hit hl hne hn fun h' tk acc hk hacc => ?_)
  have hs : StrsAre acc.toList ys := strs_of_vals (by rw [← hys]; exact RT.vals_rev hv hacc)
  obtain ⟨l, hl, ht⟩ := strsAre_values hs
  subst ht
  rw [hl]
  have hok' := joinOk_of hok
  unfold JoinOk at hok'
  rw [Bool.not_eq_true'] at hok'
  have g : Gives (joinTail x (strValues l)) (joinMade x l) := by
    have g0 := gives_joinTail x l hok'
    cases l with
    | nil => exact g0
    | cons p r => cases r with
      | nil => exact g0
      | cons q r' => exact g0
  exact g prog w A (wants Q E) _ (post_join l ⟨joinFit_length hok', fun t' k => hq h' t' k hk⟩)
end
def tJoinRev (K : PySem.W.Frag) (to te : TE) : TE := fun σ H Q => to σ H fun x H1 => (∃ a, x = .str a) ∧ te σ H1 fun v H2 => ∃ (a : Str) (p : Addr) (ys : List Str), x = .str a ∧ v = .ref p ∧ SqL K H2 p (ys.map V.str).reverse ∧
  (ys.map (·.length)).sum + ys.length * a.length ≤ 16777216 ∧ Q (.str (Txt.join a ys)) H2
section
variable {X : Cx}
theorem pe_joinRev {o e : Expr} {to te : TE} {p apos pos pos2 : Pos} (hc : X.calm = true) (ho : PE X o to) (hg2 : Gl X "reversed") (hm2 : X.mg "reversed" = none) (he : PE X e te)
    (hs : starEach [e] X.env = (false, eval e X.env) :: starEach [] X.env := by rfl)
    (hs1 : starEach [.Call (.Name "reversed" p) [e] [] pos2] X.env = [(false, eval (.Call (.Name "reversed" p) [e] [] pos2) X.env)] := by rfl)
    (hbase : attributeBase o "join" X.env (eval o X.env) = eval o X.env := by rfl) (hline : (apos.endLine == pos.line) = true := by rfl) :
    PE X (.Call (.Attribute o "join" apos) [.Call (.Name "reversed" p) [e] [] pos2] [] pos) (tJoinRev X.K to te) := by
  refine ⟨fun pins s σ H Q I h => ?_⟩
  refine PySem.Call_method1 hbase hs1 hline (thn (ho.run pins s σ H _ I h) fun v s1 ⟨x, H1, I1, r1, q1⟩ => ?_)
  obtain ⟨⟨a, rfl⟩, q1⟩ := q1
  obtain ⟨t, rfl⟩ := _root_.id r1
  refine ⟨"str", _, F.plainAttrs_str, F.slot_str_join, F.type_str_join, typeIs_str _ _ _, (fun _ e => nomatch e), Calls.callWith_builtin rfl (Calls.evalArgs_plain (Calls.spliced_cons ?_))⟩
  refine Call_ (ld_blt I1 hg2 hm2 PyProof.Rows.boot_reversed (PyProof.Rows.callWith_type1 (args_cons (thn (he.run pins s1 σ H1 _ I1 q1) fun u s2 ⟨v, H2, I2, r2, q2⟩ => args_nil ?_) hs) hs rfl))
  obtain ⟨a', q, ys, ea, ev, hq, hz, q2⟩ := q2
  cases ea
  subst ev
  obtain rfl : u = Value.ref q := r2
  obtain ⟨its, rv, pl, hsz⟩ := I2.list hq
  refine call_reversed_list pl.isList (Calls.spliced_nil ?_)
  have k0 : ∀ b o, s2.heap.get? b = some o → (s2.heap.push (revObj q ((its.toArray.size : Int) - 1))).get? b = some o := fun b o e => Heap.get?_push_of_some _ e
  have I3 : Inv X pins σ H2 { s2 with heap := s2.heap.push (revObj q ((its.toArray.size : Int) - 1)) } := I2.kept (t' := s2.toks) k0
  obtain ⟨f0, f1, f2, f3, f4, f5⟩ := I2.fpOk (H' := H2) (b := s2.heap.objs.size) (Nat.le_refl _) (I2.hok.fresh (Nat.le_refl _))
  have hl := pl.isList
  obtain ⟨ol, hol, _⟩ := id hl
  have hne : q ≠ s2.heap.objs.size := Nat.ne_of_lt (Heap.lt_size hol)
  have hn : its.toArray.size ≤ sizeLine := by rw [List.size_toArray, ← rv.length]; exact hsz
  refine call_join_rev (s := { s2 with heap := s2.heap.push (revObj q ((its.toArray.size : Int) - 1)) }) (I2.ok.hd hc) ⟨_, Heap.get?_push_size _ rfl, rfl, rfl⟩ (hl.push _) hne hn rv (by rw [List.reverse_reverse]) hz fun h' t' tk hk => ?_
  exact ⟨.str _, H2, I3.turned (t' := tk) (fun b o hb e => hk b o hb e) f0 f1 f3 f4 f5, ⟨t', rfl⟩, q2⟩
end
theorem tP_mono {K : PySem.W.Frag} {cm : Cm} {W : WX} {f : En → Ot D} {σ : L2.St} {H : Hp} {Q Q' : VK} (q : tP K cm W f σ H Q) (h : ∀ v H', Q v H' → Q' v H') : tP K cm W f σ H Q' := by
  obtain ⟨Z, ρ, Fs, ok, q⟩ := q
  refine ⟨Z, ρ, Fs, ok, ?_⟩
  cases e : f ρ with
  | no => rw [e] at q; exact q
  | ok d => rw [e] at q; exact fun v H' Z' F r => h _ _ (q v H' Z' F r)
  | ex x => rw [e] at q; exact q
def pJoinRev : List D → Option D
  | [.str a, .nd (.lst _) ds] => match strsD ds with
    | some ys => if (ys.map (·.length)).sum + ys.length * a.length ≤ 16777216 then some (.str (Txt.join a ys.reverse)) else none
    | none => none
  | _ => none
def rJoinRev (K : PySem.W.Frag) : V → List V → Hp → VK → Prop := fun x xs H Q => ∃ (a : Str) (p : Addr) (ys : List Str), x = .str a ∧ xs = [.ref p] ∧ SqL K H p (ys.map V.str).reverse ∧ (ys.map (·.length)).sum + ys.length * a.length ≤ 16777216 ∧ Q (.str (Txt.join a ys)) H
theorem ok_joinRev {K : PySem.W.Frag} {cm : Cm} : OkPr K cm (rM (rJoinRev K)) pJoinRev := by
  intro H Z ds vs Fs d dm rp nd nf e Q q
  unfold pJoinRev at e
  split at e
  · rename_i a f ds'
    split at e
    · rename_i ys hy
      split at e
      · rename_i hz
        cases e
        obtain ⟨v, u, F, G, rfl, rfl, ⟨rfl, rfl⟩, r⟩ := repL2 rp
        obtain ⟨p, vs', Fs', rfl, c, l, rfl⟩ := r
        have e2 := strsD_eq hy
        subst e2
        have e3 := repL_strS l
        subst e3
        refine ⟨_, _, rfl, a, p, ys.reverse, rfl, rfl, .inl ?_, ?_, q _ H Z [] (.atom (.refl dm) rep_str)⟩
        · rw [List.map_reverse, List.reverse_reverse]; exact c.2.1
        · rw [List.map_reverse, List.sum_reverse, List.length_reverse]; exact hz
      · cases e
    · cases e
  · cases e
def pSIdx : List D → Option D
  | [.str a, .str b] => match Builtin.Str.occurrences a b 0 a.length 1 with
    | i :: _ => some (.int (i : Nat))
    | [] => none
  | _ => none
theorem ok_sindex {K : PySem.W.Frag} {cm : Cm} : OkPr K cm (rM (fun x xs H Q => ∃ a b i rest, x = .str a ∧ xs = [.str b] ∧ Builtin.Str.occurrences a b 0 a.length 1 = i :: rest ∧ Q (.int (i : Nat)) H)) pSIdx := by
  intro H Z ds vs Fs d dm rp nd nf e Q q
  unfold pSIdx at e
  split at e
  · split at e
    · rename_i i rest hy
      cases e
      obtain ⟨v, u, F, G, rfl, rfl, ⟨rfl, rfl⟩, ⟨rfl, rfl⟩⟩ := repL2 rp
      exact ⟨_, _, rfl, _, _, i, rest, rfl, rfl, hy, q _ H Z [] (.atom (.refl dm) rep_int)⟩
    · cases e
  · cases e
section
variable {X : Cx} {cm : Cm} {W : WX} {P : List Nat} {o e tg : Expr} {f g : En → Ot D} {p apos pos pos2 : Pos}
theorem s_joinRev (hc : X.calm = true) (ho : SE X cm W o f) (hg2 : Gl X "reversed") (hm2 : X.mg "reversed" = none) (he : SE X cm W e g)
    (hs : starEach [e] X.env = (false, eval e X.env) :: starEach [] X.env := by rfl)
    (hs1 : starEach [.Call (.Name "reversed" p) [e] [] pos2] X.env = [(false, eval (.Call (.Name "reversed" p) [e] [] pos2) X.env)] := by rfl)
    (hbase : attributeBase o "join" X.env (eval o X.env) = eval o X.env := by rfl) (hline : (apos.endLine == pos.line) = true := by rfl) :
    SE X cm W (.Call (.Attribute o "join" apos) [.Call (.Name "reversed" p) [e] [] pos2] [] pos) (eM "str" pJoinRev f [g]) :=
  PE.imp (pe_joinRev hc ho hg2 hm2 he hs hs1 hbase hline) fun σ H Q q => tP_mono (m_end ok_joinRev q) fun x H1 ⟨ty, q1⟩ => by
    refine ⟨?_, ?_⟩
    · cases x with
      | str a => exact ⟨a, rfl⟩
      | ref p =>
        exfalso
        rcases ty with ⟨h, _⟩ | ⟨h, _⟩ | ⟨h, _⟩ | ⟨h, _⟩ <;> exact absurd h (by decide)
      | int i => exact absurd (show ("str" : String) = "int" from ty) (by decide)
      | _ => exact ty.elim
    · obtain ⟨Z, ρ, Fs, ok, q2⟩ := q1
      exact one_of ⟨Z, ρ, Fs, ok, by
        cases e : eL [g] ρ with
        | no => rw [e] at q2; exact q2
        | ok d =>
          rw [e] at q2
          intro vs H' Z' Gs r
          obtain ⟨a, p, ys, h1, h2, h3, h4, h5⟩ := q2 vs H' Z' Gs r
          exact ⟨_, h2, a, p, ys, h1, rfl, h3, h4, h5⟩
        | ex x => rw [e] at q2; exact q2⟩
/-- a, b = a value, what is new in it frozen -/
def sTgt (f : En → Ot D) (t : D → En → Option En) : Mst := sOn f fun d ρ => if noT d then (match t (toFrz d) ρ with
  | some ρ1 => some (.nx, ρ1)
  | none => none) else none
theorem ss_tgt {g : TG} {S : List Nat} {t : D → En → Option En} (hS : (S.all fun i => !P.contains i) = true) (he : SE X cm W e f) (hg : PG X tg g) (hgo : OkTg X.K cm S g t) (hs : swapsWithSole [tg] e pos.line X.env = pure false := by rfl) (hw : swappedStores [tg] e X.env = pure none := by rfl)
    (h1 : (assignEach [tg] X.env).map (·.2) = [assign tg X.env] := by rfl) : SS X cm W P (.Assign [tg] e pos) (sTgt f t) := PS.imp (ps_asg he hg hs hw h1) fun D0 σ H q => by
  obtain ⟨Z, ρ, Fs, ok, q⟩ := q
  refine on_go ok q fun d v H1 Z1 F e r q1 => ?_
  have q2 := q
  unfold sTgt sOn at q2
  rw [e] at q2
  dsimp only at q2
  split at q2
  · rename_i nt
    split at q2
    · rename_i ρ1 ht
      have ok1 := ok.ext r.ext
      have eb : Z1.b = Z.b := r.ext.b
      have hm := Rep.mut d r.rep
      let Z2 : Zn := ⟨fun a => Z1.f a ∨ a ∈ F, Z.b, fun _ => False⟩
      have ok2 : RepE X.K cm H1 Z2 σ ρ Fs := ⟨ok1.rep.lσ, ok1.rep.lF, fun i d q => by
        obtain ⟨v, F, a, b, c⟩ := ok1.rep.get i d q
        exact ⟨v, F, a, b, c.grow (.refl _) (fun _ h => .inl h) (fun _ h => h) fun _ h => h⟩⟩
      have rr : Rep X.K cm H1 Z2 (toFrz d) v [] :=
        Rep.give (Z := ⟨Z1.f, Z.b, fun _ => False⟩) (g := Fl.toFrz) (O := fun a => a ∈ F) (cell_flag (fun a ha f ef _ => by subst ef; exact .inr ha) (fun a f hf hz => by cases f with
          | own => exact absurd rfl hf
          | frz => exact .inl hz
          | bor => exact hz
          | tmp => exact hz.elim) (fun f e => by cases f <;> first | rfl | cases e)) (fun f e => by cases f <;> cases e) d (by
            have := noT_rep (t' := fun _ => False) r.rep nt
            rw [eb] at this
            exact this) fun a h => h
      have nF : ∀ a ∈ F, H a = none := fun a h => r.new a h
      refine hgo H1 Z2 (toFrz d) v σ ρ Fs ρ1 rr ok2 ht _ fun σ1 Fs1 r1 sb _ kpr => ?_
      refine q2 σ1 H1 Z2 Fs1 ⟨.grow r.ext.gr, fun a h => .inl (sb.subset h), fun a h => .inl (r.ext.f a h), fun a h => ?_, rfl, fun j hj => kpr j fun hjS => ?_⟩ ⟨r1, ⟨fun a h => h.elim (r.ext.fd a) fun h => mut_ne (hm a h), fun a h q => ok.dom.b a h (r.ext.gr.back q), fun _ h => h.elim⟩, fun a h => ok1.mu a (sb.subset h), ok1.nd.sublist sb, fun a h => ⟨fun z => z.elim (ok1.nz a (sb.subset h)).1 fun z => mut_ne (ok.mu a (sb.subset h)) (nF a z), (ok1.nz a (sb.subset h)).2⟩, fun _ h => h⟩
      · exact h.elim (fun h => (r.ext.fn a h).elim .inl fun q => .inr (.inr q)) fun h => .inr (.inr (nF a h))
      · have := List.all_eq_true.mp hS j hjS
        rw [Bool.not_eq_true'] at this
        rw [List.contains_iff_mem.mpr hj] at this
        cases this
    · exact q2.elim
  · exact q2.elim
end
end OB

namespace OB
open PySem PySem.Calls PySem.NumText PyProof.Rows

def NoDig (h : Heap) : Prop := ∀ M : Model, PySem.W.Looks M h (nsGet cStatics "sys.int_max_str_digits") none
theorem wp_intMax {M : Model} {A : Around} {E : Value → Shared → Prop} {s : Shared} {Q : Nat → Shared → Prop} (hd : NoDig s.heap) (h : Q 4300 s) : wpAny M A Builtin.intMaxStrDigits Q E s := by
  unfold Builtin.intMaxStrDigits
  exact wpAny_bind (hd _ _ _ _ _ (fun _ _ e => e) (wpAny_pure h))
theorem wp_text2 {M : Model} {A : Around} {E : Value → Shared → Prop} {s : Shared} {Q : Value → Shared → Prop} {v : Value} {text : List Nat} {n : Int}
    (hs : ¬ (text.takeWhile (· != 0)).length ≤ 640) (hr : (int_private% "readNumeral") 4300 10 (text.takeWhile (· != 0)) = (int_private% "Numeral.value") n)
    (ha : ((text.takeWhile (· != 0)).length == text.length) = true) (hd : NoDig s.heap) (h : Q (.int n s.toks) { s with toks := s.toks + 1 }) :
    wpAny M A ((int_private% "intFromText") v text 10) Q E s := by
  have hd2 := @wp_intMax M A E s
  obtain ⟨hp, g, d, tk, os⟩ := s
  repeat (any_goals (first
    | assumption
    | (with_reducible refine wpAny_ite_false (decide_eq_false hs) ?_)
    | (with_reducible refine hd2 hd ?_)
    | wp_step))
  all_goals (try rw [hr])
  all_goals (try dsimp only)
  repeat (any_goals (first
    | assumption
    | (with_reducible refine wpAny_ite_true (decide_eq_true ha) ?_)
    | wp_step))
structure Hid (p : Prop) : Prop where
  out : p
theorem meets_text2 {x : PySem.Str} {u : Tok} {n : Int} (hl : ¬ (numSeenOf x).length ≤ 640) (hx : x.length ≤ sizeLine) (hn : PySem.intText? x = some n) :
    Meets (Builtin.«int.__new__» ⟨[.type "int", .str x u], []⟩) (fun A R s => NoDig s.heap ∧ (Made.int n).post (fun v s' => R (.ok (.ret v)) s') s) := fun prog w A R s h => by
  have key : ∀ (M : Model) (A : Around) (E : Value → Shared → Prop) (s : Shared) (Q : Value → Shared → Prop), NoDig s.heap → (Made.int n).post Q s → wpAny M A (Builtin.«int.__new__» ⟨[.type "int", .str x u], []⟩) (fun fin s' => ∃ v, fin = .done (.ret v) ∧ Q v s') E s := fun M A E s Q hd h => by
    obtain ⟨hp, g, d, tk, os⟩ := s
    have f1 := F.conv_sub_int
    have f2 := F.madeHere_int
    have f3 := PySem.W.KIN.str_int
    have f4 := PySem.W.KIN.str_idx
    have f5 := PySem.W.KIN.str_trunc
    have f6 : typeOf (.str x u) = pure (.type "str") := rfl
    have hr : (int_private% "readNumeral") 4300 10 (numSeenOf x) = (int_private% "Numeral.value") n ∧ ((numSeenOf x).length == (numTextOf x).length) = true := by
      rcases read4300 x hx with ⟨m, h1, h2, h3⟩ | ⟨h1, _⟩
      · rw [hn] at h1
        injection h1 with h1
        subst h1
        exact ⟨h3, h2⟩
      · rw [hn] at h1
        cases h1
    have hk := Hid.mk (And.intro hl (And.intro hr hd))
    clear hr hl hn hd
    repeat (any_goals (first
      | assumption
      | ((with_reducible show wpAny _ _ ((int_private% "intFromText") _ _ _) _ _ _); refine wp_text2 hk.out.1 hk.out.2.1.1 hk.out.2.1.2 hk.out.2.2 ?_)
      | wp_step))
    all_goals first | exact ⟨_, rfl, h⟩ | skip
  refine wpAny_mono (key _ _ _ s _ h.1 h.2) (fun fin s' q => ?_) fun _ _ z => z
  obtain ⟨v, rfl, q⟩ := q
  exact q
theorem gives_text1 {x : PySem.Str} {u : Tok} {n : Int} (hs : (numSeenOf x).length ≤ 640) (hn : PySem.intText? x = some n) : Gives (Builtin.«int.__new__» ⟨[.type "int", .str x u], []⟩) (.int n) :=
  .of_wp fun M A E s Q h => by
    obtain ⟨hp, g, d, tk, os⟩ := s
    have f1 := F.conv_sub_int
    have f2 := F.madeHere_int
    have f3 := PySem.W.KIN.str_int
    have f4 := PySem.W.KIN.str_idx
    have f5 := PySem.W.KIN.str_trunc
    have f6 : typeOf (.str x u) = pure (.type "str") := rfl
    have hr : (int_private% "readNumeral") 0 10 (numSeenOf x) = (int_private% "Numeral.value") n ∧ ((numSeenOf x).length == (numTextOf x).length) = true := by
      rcases read0 x hs with ⟨m, h1, h2, h3⟩ | ⟨h1, _⟩
      · rw [hn] at h1
        injection h1 with h1
        subst h1
        exact ⟨h3, h2⟩
      · rw [hn] at h1
        cases h1
    have hk := Hid.mk (And.intro hs hr)
    clear hs hr hn
    repeat (any_goals (first
      | assumption
      | ((with_reducible show wpAny _ _ ((int_private% "intFromText") _ _ _) _ _ _); refine PySem.W.KIN.wp_text hk.out.1 hk.out.2.1 hk.out.2.2 ?_)
      | wp_step))
    all_goals first | exact ⟨_, rfl, h⟩ | skip
section
open PySem.Spec L2
variable {X : Cx}
theorem call_int_long (hdg : PySem.W.nsIn X.K cStatics "sys.int_max_str_digits" = some none) : CallR X (.type "int") (fun xs H Q => ∃ a n, xs = [.str a] ∧ PySem.intText? a = some n ∧ a.length ≤ 4300 ∧ Q (.int n) H) := by
  intro pins s σ H xs us Q I rs h
  obtain ⟨a, n, rfl, hn, hl, h⟩ := h
  cases rs with
  | cons r1 rs =>
    cases rs
    obtain ⟨t, rfl⟩ := r1
    by_cases h6 : a.length ≤ 640
    · exact PySem.W.KIN.call_text hn h6 ⟨.int n, H, I.tok _, ⟨_, rfl⟩, h⟩
    · by_cases h7 : (numSeenOf a).length ≤ 640
      · exact call_int_1 (gives_text1 h7 hn).meets (show (Made.int n).post _ s from ⟨rfl, .int n, H, I.tok _, ⟨_, rfl⟩, h⟩)
      · refine call_int_1 (meets_text2 h7 (Nat.le_trans hl (by decide)) hn) ⟨fun M => PySem.W.looks_nsIn I.kIn hdg, (show (Made.int n).post _ s from ⟨rfl, .int n, H, I.tok _, ⟨_, rfl⟩, h⟩)⟩
theorem call_int4 (hdg : PySem.W.nsIn X.K cStatics "sys.int_max_str_digits" = some none) : CallR X (.type "int") (fun xs H Q => (((∃ i, xs = [.int i] ∧ Q (.int i) H) ∨ ∃ k, xs = [.bl k] ∧ Q (.int (if k then 1 else 0)) H) ∨ ∃ a n, xs = [.str a] ∧ PySem.intText? a = some n ∧ a.length ≤ 4300 ∧ Q (.int n) H)) :=
  CallR.or2 call_int1 (call_int_long hdg)
end
def pInt4 : List D → Option D
  | [.int i] => some (.int i)
  | [.bl b] => some (.int (if b then 1 else 0))
  | [.str a] => if a.length ≤ 4300 then (PySem.intText? a).map .int else none
  | _ => none
open L2 in
theorem ok_int4 {K : PySem.W.Frag} {cm : Cm} : OkPr K cm (fun xs H Q => (((∃ i, xs = [.int i] ∧ Q (.int i) H) ∨ ∃ k, xs = [.bl k] ∧ Q (.int (if k then 1 else 0)) H) ∨ ∃ a n, xs = [.str a] ∧ PySem.intText? a = some n ∧ a.length ≤ 4300 ∧ Q (.int n) H)) pInt4 := by
  intro H Z ds vs Fs d dm rp nd nf e Q q
  unfold pInt4 at e
  split at e
  · cases e
    obtain ⟨v, F, rfl, rfl, ⟨rfl, rfl⟩⟩ := repL1 rp
    exact .inl (.inl ⟨_, rfl, q _ H Z [] (.atom (.refl dm) rep_int)⟩)
  · cases e
    obtain ⟨v, F, rfl, rfl, ⟨rfl, rfl⟩⟩ := repL1 rp
    exact .inl (.inr ⟨_, rfl, q _ H Z [] (.atom (.refl dm) rep_int)⟩)
  · split at e
    · rename_i hl
      rename_i a
      cases e2 : PySem.intText? a with
      | none => rw [e2] at e; cases e
      | some n =>
        rw [e2] at e
        cases e
        obtain ⟨v, F, rfl, rfl, ⟨rfl, rfl⟩⟩ := repL1 rp
        exact .inr ⟨_, n, rfl, e2, hl, q _ H Z [] (.atom (.refl dm) rep_int)⟩
    · cases e
  · cases e
end OB

namespace OB
open PySem PySem.Spec PyProof.Rows L2
section
variable {X : Cx} {cm : Cm} {W : WX} {P : List Nat}
variable {elt tgx iter : Expr} {ifs : List Expr} {scope : Scope} {own : List (Str × Nat)} {pos py spos : Pos} {it : En → Ot Its'} {tg : D → En → Option En} {g : TG} {S : List Nat} {c : En → Ot Bool} {tt : TT} {f : En → Ot D} {t : Expr} {i : Nat} {y : Str}
theorem ss_setC (hP : (!P.contains i) = true) (hy : X.N[i]? = some y) (hyl : X.env.scope.names.lookup y = some .local) (hsw : swapsWith (.ListComp elt [⟨tgx, iter, ifs, 0⟩] scope pos) (some (.Name y py)) spos.line X.env = pure true)
    (hc : X.calm = true) (hN : X.N.Nodup) (hi : SI X cm W tgx iter it) (ok : BlkOk X.N X.env.scope scope own) (hS : (S.all fun i => (own.map (·.2)).contains i) = true) (hgo : OkTg X.K cm S g tg)
    (hg : ∀ (s : Shared) (H : Hp) (C : Addr) (cl : List (Str × Addr)) (fp : List Addr), PG (X.blk s H scope (compEnvC scope cl C X.env) fp) tgx g) (ht : ∀ (s : Shared) (H : Hp) (C : Addr) (cl : List (Str × Addr)) (fp : List Addr), PTs (X.blk s H scope (compEnvC scope cl C X.env) fp) ifs tt)
    (hT : ∀ σ H Q, tPT X.K cm W0 c σ H Q → tt σ H Q)
    (he : ∀ (s : Shared) (H : Hp) (C : Addr) (cl : List (Str × Addr)) (fp : List Addr), SE (X.blk s H scope (compEnvC scope cl C X.env) fp) cm W0 elt f) (hs : ∀ x, foldedSetIterable iter X.env x = pure x := by intro _; rfl) :
    SS X cm W P (.Assign [.Name y py] (.ListComp elt [⟨tgx, iter, ifs, 0⟩] scope pos) spos) (sSet i (eComp it tg c f (own.map (·.2)))) :=
  ss_set hP (PS.imp (ps_setLc hc hN hy hyl hsw hi ok hg ht he hs) fun D σ H q => comp_end hgo (fun i hi => by
    have := List.all_eq_true.mp hS i hi
    simpa using this) hT q)
end

/-! ### a def by its name -/
def Good (P : Program) (w : World) (K : PySem.W.Frag) (mg : Str → Option Value) (base : Heap) (cm : Cm) (x : Str) (n k : Nat) (m : List D → Ot D) : Prop :=
  ∃ (a : Addr) (fd : FuncData) (ps : List Str), mg x = some (.ref a) ∧ PySem.W.keepIn K (.ref a) = true ∧ Binds K fd ps [] ∧ FnOk P w K mg base (L2.CX P w) k a fd ps (spP K cm n m)
def eCall0 (m : List D → Ot D) (dd : List D) : En → Ot D := fun ρ => noX (eCall m dd [] ρ)
section
variable {X : Cx} {cm : Cm} {W : WX} {x : Str} {p pos : Pos} {e : Expr} {es : List Expr} {fs : List (En → Ot D)} {k j n : Nat} {m : List D → Ot D}
theorem s_callG (tk : Takes X W) (G : Good X.prog X.w X.K X.mg X.base cm x n k m) (hr : Room j X.A) (hk : k ≤ j) (hg : Gl X x) (hn : fs.length = n) (ha : SA X cm W (e :: es) (eL fs))
    (hdb : (x == ("__debug__" : Str)) = false := by decide) (he : starEach (e :: es) X.env = (false, eval e X.env) :: starEach es X.env := by rfl) (hpl : (backTo pos (starEach es X.env)).any (·.1) = false := by rfl) :
    SE X cm W (.Call (.Name x p) (e :: es) [] pos) (eCall m [] fs) := by
  obtain ⟨a, fd, ps, hm, kp, b, F⟩ := G
  exact s_call tk F (hr.mono hk) hg hm kp b .nil rfl rfl (by rw [← hn]; rfl) ha hdb he hpl
theorem s_callG0 (G : Good X.prog X.w X.K X.mg X.base cm x 0 k m) (hr : Room j X.A) (hk : k ≤ j) (hg : Gl X x) (hdb : (x == ("__debug__" : Str)) = false := by decide) :
    SE X cm W (.Call (.Name x p) [] [] pos) (eCall0 m []) := by
  obtain ⟨a, fd, ps, hm, kp, b, F⟩ := G
  exact s_call0 F (hr.mono hk) hg hm kp b .nil rfl rfl rfl hdb
end
end OB

namespace OB
open PySem PySem.Spec PyProof.Rows L2
def isLst : Value → Bool
  | .type n => n == "list"
  | _ => false
def frZ (g : Addr → Option Obj) (as : List Addr) : PySem.W.Frag := (He.frG g as).filter fun p => !isLst p.2.cls
theorem lookup_mem {α : Type} : ∀ {l : List (Addr × α)} {a : Addr} {o : α}, l.lookup a = some o → (a, o) ∈ l
  | [], _, _, h => nomatch h
  | (b, u) :: l, a, o, h => by
    unfold List.lookup at h
    split at h
    · rename_i e
      have e : a = b := by simpa using e
      cases h; subst e
      exact List.mem_cons_self
    · exact List.mem_cons_of_mem _ (lookup_mem h)
theorem frZ_at {g : Addr → Option Obj} {as : List Addr} {a : Addr} {o : Obj} (h : (frZ g as).lookup a = some o) : g a = some o ∧ isLst o.cls = false := by
  have m := lookup_mem h
  unfold frZ at m
  rw [List.mem_filter] at m
  obtain ⟨m1, m2⟩ := m
  unfold He.frG at m1
  rw [List.mem_filterMap] at m1
  obtain ⟨b, _, e⟩ := m1
  cases q : g b with
  | none => rw [q] at e; cases e
  | some u => rw [q] at e; cases e; exact ⟨q, by simpa using m2⟩
def obsZ (n : Nat) (fa : List He.Fa) (fn : List He.DefD) (g : Addr → Option Obj) : He.AlD :=
  ((He.obsD fa fn (frZ g (He5.asA g n))).1 && He.eqO (PySem.W.nsIn (frZ g (He5.asA g n)) cStatics "sys.int_max_str_digits") (some none), (He.obsD fa fn (frZ g (He5.asA g n))).2)
structure SaysZ (fa : List He.Fa) (fn : List He.DefD) (K : PySem.W.Frag) : Prop where
  c : He.SaysD fa fn K
  dig : PySem.W.nsIn K cStatics "sys.int_max_str_digits" = some none
  nol : ∀ a o, K.lookup a = some o → isLst o.cls = false
def hookZ (n : Nat) (fa : List He.Fa) (fn : List He.DefD) : PySem.W.Hook where
  α := He.AlD
  obs := fun s => obsZ n fa fn s.heap.get?
  val := fun _ => He.valD fn
  says := fun _ h => ∃ K : PySem.W.Frag, K.In h ∧ SaysZ fa fn K
  of := fun _ s e => by
    have e : obsZ n fa fn s.heap.get? = He.valD fn := e
    unfold obsZ at e
    obtain ⟨e1, e2⟩ := Prod.ext_iff.mp e
    have e1 : ((He.obsD fa fn (frZ s.heap.get? (He5.asA s.heap.get? n))).1 && He.eqO (PySem.W.nsIn (frZ s.heap.get? (He5.asA s.heap.get? n)) cStatics "sys.int_max_str_digits") (some none)) = true := e1
    rw [Bool.and_eq_true] at e1
    exact ⟨_, fun a o h => (frZ_at h).1, Prod.ext e1.1 e2, He.eqO_ok e1.2, fun a o h => (frZ_at h).2⟩
  keeps := fun _ _ _ ⟨K, hK, c⟩ k => ⟨K, PySem.W.Frag.In.keeps hK k, c⟩
theorem obsZ_eq {n : Nat} {fa : List He.Fa} {fn : List He.DefD} {g : Addr → Option Obj} {s : Shared} (h : ∀ a, g a = s.heap.get? a) : obsZ n fa fn g = (hookZ n fa fn).obs s := by
  have e : g = s.heap.get? := funext h
  rw [e] <;> rfl
/-- a law by its mirror -/
theorem spP_script {K : PySem.W.Frag} {cm : Cm} {H : Hp} {a : Addr} {ns : List Int} {m : List D → Ot D} (nol : ∀ a o, K.lookup a = some o → isLst o.cls = false) (hS : SqL K H a (ns.map V.int)) (hm : m [.nd (.lst .bor) (ns.map .int)] = .ok (.bl true)) :
    spP K cm 1 m [.ref a] H (fun v _ => v = .bl true) fun _ _ _ => False := by
  have rd : Rd H a (.lst (ns.map V.int)) := by
    rcases hS with h | ⟨o, its, n, h1, h2, _⟩
    · exact h
    · have := nol a o h1
      rw [h2] at this
      cases this
  have hne : H a ≠ none := by
    rcases rd with h | ⟨o, h⟩ <;> exact fun z => by rw [z] at h; cases h
  have rl : ∀ (ns : List Int) (Z : Zn), ∃ Fs, Fs.flatten = [] ∧ RepL K cm H Z (ns.map .int) (ns.map V.int) Fs := by
    intro ns Z
    induction ns with
    | nil => exact ⟨[], rfl, repL_nil⟩
    | cons n ns ih =>
      obtain ⟨Fs, e, r⟩ := ih
      exact ⟨[] :: Fs, by simpa using e, repL_cons rep_int r⟩
  obtain ⟨Fs, e, r⟩ := rl ns (lentZ H fun _ => False)
  refine ⟨fun _ => False, [.nd (.lst .bor) (ns.map .int)], [[]], fun _ h => h.elim, rfl, rfl, repL_cons ⟨a, ns.map V.int, Fs, rfl, ⟨(fun h => nomatch h), rd, hne⟩, r, by rw [e]; rfl⟩ repL_nil, ?_⟩
  rw [hm]
  intro v H' Z' F r
  exact r.rep.1
theorem walk_ofEB {l : PySem.W.OpenLaw} {n k : Nat} {q : Program} {loose : List Str} {XP : (Str → Option Value) → Heap → Prop} {YP : World → Heap → Prop} {d : DefRec} {CX : World → CXT} {x : Str}
    (hn : l.most = some n) (hn2 : n ≤ sizeLine) (hdf : d.params.defaults = []) (hr : Room k callerA)
    (F : ∀ (w : World) (mg : Str → Option Value) (fa : Addr) (h : Heap), YP w h → h.Ns mainGlobals mg → mg d.name = some (.ref fa) →
      ∃ (K : PySem.W.Frag) (fd : FuncData) (sp : Sp), K.In h ∧ (∀ (s : Shared) (u : Value), BindsTo s fd ⟨[u], []⟩ [(x, u)]) ∧
        (∀ (H : Hp) (a : Addr) (ns : List Int), ns.length ≤ n → (∀ z ∈ ns, Builtin.Int.intBits z ≤ 1048576) → Only H → SqL K H a (ns.map V.int) → sp [.ref a] H (fun v _ => v = .bl true) fun _ _ _ => False) ∧
        ∀ base : Heap, K.In base → base.Ns mainGlobals mg → FnOk l.prog w K mg base (CX w) k fa fd [x] sp)
    (hCX : ∀ (w : World) (H : Hp) (s : Shared) (e : Value) (s' : Shared), CX w [] H s (fun _ _ _ => False) e s' → False) :
    PySem.W.WalkO q loose XP YP l.row.toRowW d [] (fun f vs => PySem.call f vs) := by
  refine Att.attach_callB hn hdf fun w s₀ s₁ mg mb fa o pm cd doc a vs ns G Y ho hd hcd hmg hobj hints hlen hbits hg => ?_
  obtain ⟨K, fd, sp, KX, hb, hsp, hF⟩ := F w mg fa _ Y G.T.g hmg
  exact law_call KX G.T.g G.T.b G.T.builtins G.T.nolimit hg hobj hints (Nat.le_trans hlen hn2) hr hF hb (fun H hO hS => hsp H a ns hlen hbits hO hS) fun H e s' => hCX w H s₁ e s'
theorem cx_no {P : Program} {w : World} (H : Hp) (s : Shared) (e : Value) (s' : Shared) : L2.CX P w [] H s (fun _ _ _ => False) e s' → False := fun h => by
  obtain ⟨_, _, _, _, _, _, _, _, _, _, _, _, z⟩ := h
  exact z
end OB

namespace OB
open PySem PySem.Spec PyProof.Rows L2
def fzE (i : Nat) (ρ : En) : En := match ρ[i]? with
  | some (some d) => ρ.set i (some (toFrz d))
  | _ => ρ
def sFz (i : Nat) (g : Mst) : Mst := fun ρ => g (fzE i ρ)
theorem Ok.fz {K : PySem.W.Frag} {cm : Cm} {H : Hp} {σ : L2.St} {ρ : En} {Fs : List (List Addr)} {Z : Zn} {P : List Nat} (ok : Ok K cm H σ ρ Fs Z) (i : Nat) : ∃ Fs' Z', Ok K cm H σ (fzE i ρ) Fs' Z' ∧ SStep P σ H Z Fs σ H Z' Fs' := by
  unfold fzE
  split
  · rename_i d hd
    obtain ⟨v, F, e1, e2, r⟩ := ok.rep.get i d hd
    have hF : ∀ a ∈ F, a ∈ Fs.flatten := fun a h => flat_mem e2 h
    obtain ⟨n1, n2⟩ := flat_set_nil e2 ok.nd
    have sub := set_nil_sub Fs i
    refine ⟨Fs.set i [], ⟨fun a => Z.f a ∨ a ∈ F, Z.b, Z.t⟩, ⟨⟨by simpa using ok.rep.lσ, by simpa using ok.rep.lF, fun j dj q => ?_⟩, ⟨fun a h => h.elim (ok.dom.f a) fun h => mut_ne (ok.mu a (hF a h)), ok.dom.b, ok.dom.t⟩, fun a h => ok.mu a (sub.subset h), ok.nd.sublist sub, fun a h => ⟨fun z => z.elim (ok.nz a (sub.subset h)).1 fun z => ?_, (ok.nz a (sub.subset h)).2⟩, ok.t⟩,
      ⟨.refl, fun a h => .inl (sub.subset h), fun a h => .inl h, fun a h => h.elim .inl fun h => .inr (.inl (hF a h)), rfl, fun _ _ => rfl⟩⟩
    · by_cases hj : i = j
      · subst hj
        rw [List.getElem?_set] at q
        split at q
        · split at q
          · cases q
            refine ⟨v, [], e1, by rw [List.getElem?_set_self (List.getElem?_eq_some_iff.mp e2).1], ?_⟩
            exact Rep.give (g := Fl.toFrz) (O := fun a => a ∈ F) (cell_flag (fun a ha f ef _ => by subst ef; exact .inr ha) (fun a f hf hz => by cases f with
              | own => exact absurd rfl hf
              | frz => exact .inl hz
              | bor => exact hz
              | tmp => exact (ok.t a hz).elim) (fun f e => by cases f <;> first | rfl | cases e)) (fun f e => by cases f <;> cases e) d r fun a h => h
          · cases q
        · rename_i n; exact absurd rfl n
      · rw [List.getElem?_set_ne hj] at q
        obtain ⟨v2, F2, a, b, c⟩ := ok.rep.get j dj q
        exact ⟨v2, F2, a, by rw [List.getElem?_set_ne hj]; exact b, c.grow (.refl _) (fun _ h => .inl h) (fun _ h => h) fun _ h => h⟩
    · have key : ∀ {Fs : List (List Addr)} {i : Nat}, Fs[i]? = some F → Fs.flatten.Nodup → a ∈ F → a ∈ (Fs.set i []).flatten → False := by
        intro Fs
        induction Fs with
        | nil => intro i h; simp at h
        | cons G Fs ih =>
          intro i h nd h1 h2
          rw [List.flatten_cons, List.nodup_append] at nd
          cases i with
          | zero =>
            cases h
            rw [List.set_cons_zero, List.flatten_cons] at h2
            exact nd.2.2 a h1 a (by simpa using h2) rfl
          | succ i =>
            rw [List.set_cons_succ, List.flatten_cons] at h2
            have h : Fs[i]? = some F := by simpa using h
            rcases List.mem_append.mp h2 with q | q
            · exact nd.2.2 a q a (flat_mem h h1) rfl
            · exact ih h nd.2.1 h1 q
      exact key e2 ok.nd z h
  · exact ⟨Fs, Z, ok, .refl⟩
theorem ss_fz {X : Cx} {cm : Cm} {W : WX} {P : List Nat} {st : Stmt} {g : Mst} (i : Nat) (h : SS X cm W P st g) : SS X cm W P st (sFz i g) := PS.imp h fun D0 σ H q => by
  obtain ⟨Z, ρ, Fs, ok, q⟩ := q
  obtain ⟨Fs', Z', ok', s⟩ := ok.fz (P := P) i
  exact ⟨Z', _, Fs', ok', q.step s⟩
end OB

namespace OB
open PySem PySem.Spec PyProof.Rows L2
section
variable {f g h : En → Ot D} {fs : List (En → Ot D)} {ρ : En} {t u : En → Ot Bool} {p q : List D → Option D}
@[simp] theorem eL_nil : eL [] ρ = .ok [] := rfl
@[simp] theorem eL_cons : eL (f :: fs) ρ = (f ρ).bind fun d => (eL fs ρ).bind fun ds => .ok (d :: ds) := rfl
@[simp] theorem eC_eq {d : D} : eC d ρ = .ok d := rfl
@[simp] theorem ePr_eq : ePr p fs ρ = (eL fs ρ).bind fun ds => .of (p ds) := rfl
@[simp] theorem eAnd_eq : eAnd f g ρ = (f ρ).bind fun d => (asB d).bind fun b => if b then g ρ else .ok (.bl false) := rfl
@[simp] theorem eOr_eq : eOr f g ρ = (f ρ).bind fun d => (asB d).bind fun b => if b then .ok (.bl true) else g ρ := rfl
@[simp] theorem eNot_eq : eNot f ρ = (f ρ).bind fun d => (asB d).bind fun b => .ok (.bl (!b)) := rfl
@[simp] theorem eT_eq : eT f ρ = (f ρ).bind asB := rfl
@[simp] theorem bAnd_eq : bAnd t u ρ = (t ρ).bind fun b => if b then u ρ else .ok false := rfl
@[simp] theorem bOr_eq : bOr t u ρ = (t ρ).bind fun b => if b then .ok true else u ρ := rfl
@[simp] theorem bNot_eq : bNot t ρ = (t ρ).bind fun b => .ok (!b) := rfl
@[simp] theorem eIf_eq : eIf t f g ρ = (t ρ).bind fun b => if b then f ρ else g ρ := rfl
@[simp] theorem asB_bl {b : Bool} : asB (.bl b) = .ok b := rfl
@[simp] theorem eIsi_eq {nb : String → Option Bool} {ob : Str → Option Bool} : eIsi nb ob f ρ = (f ρ).bind fun d => .of ((isiD nb ob d).map .bl) := rfl
@[simp] theorem eChain_eq : eChain p q f g h ρ = (f ρ).bind fun x => (g ρ).bind fun y => (Ot.of (p [x, y])).bind fun z => (asB z).bind fun b => if b then (h ρ).bind (fun w => .of (q [y, w])) else .ok (.bl false) := rfl
@[simp] theorem eCall_eq {m : List D → Ot D} {dd : List D} : eCall m dd fs ρ = (eL fs ρ).bind fun ds => back (m (ds.map toArg ++ dd)) := rfl
@[simp] theorem eCall0_eq {m : List D → Ot D} : eCall0 m [] ρ = noX (back (m [])) := rfl
@[simp] theorem noX_ok {d : D} : noX (.ok d) = .ok d := rfl
@[simp] theorem back_ok {d : D} : back (.ok d) = if noB d then .ok d else .no := rfl
@[simp] theorem eM_eq {T : String} : eM T p f fs ρ = (f ρ).bind fun x => if tyB T x then (eL fs ρ).bind fun ds => .of (p (x :: ds)) else .no := rfl
@[simp] theorem oNone_eq : oNone ρ = .ok none := rfl
@[simp] theorem oSome_eq : oSome f ρ = (f ρ).bind fun d => (asI d).bind fun i => .ok (some i) := rfl
@[simp] theorem asI_int {i : Int} : asI (.int i) = .ok i := rfl
@[simp] theorem eSl_eq {pp : D → Option Int → Option Int → Option D} {lo hi : En → Ot (Option Int)} : eSl pp f lo hi ρ = (f ρ).bind fun d => (lo ρ).bind fun lo => (hi ρ).bind fun hi => .of (pp d lo hi) := rfl
@[simp] theorem itV_eq : itV f ρ = (f ρ).bind fun d => .of (itemsD d) := rfl
@[simp] theorem eVar_eq {i : Nat} : eVar i ρ = .of ((getV ρ i).map (mapF Fl.toTmp)) := rfl
@[simp] theorem getV_eq {i : Nat} : getV ρ i = (ρ[i]?).join := rfl
@[simp] theorem mapF_non {k : Fl → Fl} : mapF k .non = .non := rfl
@[simp] theorem mapF_bl {k : Fl → Fl} {b : Bool} : mapF k (.bl b) = .bl b := rfl
@[simp] theorem mapF_int {k : Fl → Fl} {b : Int} : mapF k (.int b) = .int b := rfl
@[simp] theorem mapF_str {k : Fl → Fl} {b : Str} : mapF k (.str b) = .str b := rfl
@[simp] theorem mapF_lst {k : Fl → Fl} {x : Fl} {ds : List D} : mapF k (.nd (.lst x) ds) = .nd (.lst (k x)) (ds.map (mapF k)) := by rw [mapF, mapFL_eq]; rfl
@[simp] theorem mapF_dct {k : Fl → Fl} {x : Fl} {ks : List Key} {ds : List D} : mapF k (.nd (.dct x ks) ds) = .nd (.dct (k x) ks) (ds.map (mapF k)) := by rw [mapF, mapFL_eq]; rfl
@[simp] theorem mapF_tup {k : Fl → Fl} {ds : List D} : mapF k (.nd .tup ds) = .nd .tup (ds.map (mapF k)) := by rw [mapF, mapFL_eq]; rfl
@[simp] theorem toTmp_own : Fl.toTmp .own = .tmp := rfl
@[simp] theorem toTmp_tmp : Fl.toTmp .tmp = .tmp := rfl
@[simp] theorem toTmp_frz : Fl.toTmp .frz = .frz := rfl
@[simp] theorem toTmp_bor : Fl.toTmp .bor = .bor := rfl
@[simp] theorem toFrz_own : Fl.toFrz .own = .frz := rfl
@[simp] theorem toFrz_frz : Fl.toFrz .frz = .frz := rfl
@[simp] theorem toFrz_bor : Fl.toFrz .bor = .bor := rfl
@[simp] theorem toFrz_tmp : Fl.toFrz .tmp = .tmp := rfl
@[simp] theorem toArg_own : Fl.toArg .own = .frz := rfl
@[simp] theorem toArg_frz : Fl.toArg .frz = .frz := rfl
@[simp] theorem toArg_bor : Fl.toArg .bor = .bor := rfl
@[simp] theorem toArg_tmp : Fl.toArg .tmp = .bor := rfl
@[simp] theorem tmpFrz_own : Fl.tmpFrz .own = .frz := rfl
@[simp] theorem tmpFrz_frz : Fl.tmpFrz .frz = .frz := rfl
@[simp] theorem tmpFrz_bor : Fl.tmpFrz .bor = .bor := rfl
@[simp] theorem tmpFrz_tmp : Fl.tmpFrz .tmp = .frz := rfl
@[simp] theorem toArg_eq {d : D} : toArg d = mapF Fl.toArg d := rfl
@[simp] theorem toFrzD_eq {d : D} : toFrz d = mapF Fl.toFrz d := rfl
@[simp] theorem noT_non : noT .non = true := rfl
@[simp] theorem noT_bl {b : Bool} : noT (.bl b) = true := rfl
@[simp] theorem noT_int {b : Int} : noT (.int b) = true := rfl
@[simp] theorem noT_str {b : Str} : noT (.str b) = true := rfl
@[simp] theorem noT_lst {x : Fl} {ds : List D} : noT (.nd (.lst x) ds) = ((x != .tmp) && ds.all noT) := by unfold noT; rw [allF, allFL_eq]; rfl
@[simp] theorem noT_dct {x : Fl} {ks : List Key} {ds : List D} : noT (.nd (.dct x ks) ds) = ((x != .tmp) && ds.all noT) := by unfold noT; rw [allF, allFL_eq]; rfl
@[simp] theorem noT_tup {ds : List D} : noT (.nd .tup ds) = ds.all noT := by unfold noT; rw [allF, allFL_eq]; first | done | (show (true && _) = _; rw [Bool.true_and])
@[simp] theorem noB_non : noB .non = true := rfl
@[simp] theorem noB_bl {b : Bool} : noB (.bl b) = true := rfl
@[simp] theorem noB_int {b : Int} : noB (.int b) = true := rfl
@[simp] theorem noB_str {b : Str} : noB (.str b) = true := rfl
@[simp] theorem noB_lst {x : Fl} {ds : List D} : noB (.nd (.lst x) ds) = ((x == .own || x == .frz) && ds.all noB) := by unfold noB; rw [allF, allFL_eq]; rfl
@[simp] theorem noB_dct {x : Fl} {ks : List Key} {ds : List D} : noB (.nd (.dct x ks) ds) = ((x == .own || x == .frz) && ds.all noB) := by unfold noB; rw [allF, allFL_eq]; rfl
@[simp] theorem noB_tup {ds : List D} : noB (.nd .tup ds) = ds.all noB := by unfold noB; rw [allF, allFL_eq]; first | done | (show (true && _) = _; rw [Bool.true_and])
end
section
variable {f : En → Ot D} {g h : Mst} {ρ ρ1 : En} {t : En → Ot Bool} {d : D}
theorem sSeq_nx (e : g ρ = some (.nx, ρ1)) : sSeq g h ρ = h ρ1 := by unfold sSeq; rw [e]
theorem sSeq_ret (e : g ρ = some (.ret d, ρ1)) : sSeq g h ρ = some (.ret d, ρ1) := by unfold sSeq; rw [e]
theorem sIf_t (e : t ρ = .ok true) : sIf t g h ρ = g ρ := by unfold sIf; rw [e]; rfl
theorem sIf_f (e : t ρ = .ok false) : sIf t g h ρ = h ρ := by unfold sIf; rw [e]; rfl
theorem sSet_ok {i : Nat} (e : f ρ = .ok d) (n : noT d = true) : sSet i f ρ = some (.nx, ρ.set i (some d)) := by unfold sSet sOn; rw [e]; exact if_pos n
theorem sRet_ok (e : f ρ = .ok d) (n : noT d = true) : sRet f ρ = some (.ret d, ρ) := by unfold sRet sOn; rw [e]; exact if_pos n
theorem sRetF_ok (e : f ρ = .ok d) : sRetF f ρ = some (.ret (mapF Fl.tmpFrz d), frzE ρ) := by unfold sRetF sOn; rw [e]
theorem sRetV_ok {i : Nat} (e : getV ρ i = some d) : sRetV i ρ = some (.ret d, ρ.set i none) := by unfold sRetV; rw [e]; rfl
@[simp] theorem sNil_eq : sNil ρ = some (.nx, ρ) := rfl
@[simp] theorem bodyM_eq {n : Nat} {ds : List D} : bodyM n g ds = match g (initE n ds) with
  | some (.nx, _) => .ok .non
  | some (.ret d, _) => .ok d
  | some (.ex x, _) => .ex x
  | _ => .no := rfl
@[simp] theorem initE_eq {n : Nat} {ds : List D} : initE n ds = ds.map some ++ List.replicate (n - ds.length) none := rfl
@[simp] theorem sSeq_eq : sSeq g h ρ = match g ρ with
  | some (.nx, ρ1) => h ρ1
  | r => r := rfl
@[simp] theorem sIf_eq : sIf t g h ρ = match t ρ with
  | .no => none
  | .ok b => if b then g ρ else h ρ
  | .ex x => some (.ex x, ρ) := rfl
@[simp] theorem sSet_eq {i : Nat} : sSet i f ρ = match f ρ with
  | .no => none
  | .ok d => if noT d then some (.nx, ρ.set i (some d)) else none
  | .ex x => some (.ex x, ρ) := rfl
@[simp] theorem sRet_eq : sRet f ρ = match f ρ with
  | .no => none
  | .ok d => if noT d then some (.ret d, ρ) else none
  | .ex x => some (.ex x, ρ) := rfl
@[simp] theorem sRetF_eq : sRetF f ρ = match f ρ with
  | .no => none
  | .ok d => some (.ret (mapF Fl.tmpFrz d), frzE ρ)
  | .ex x => some (.ex x, ρ) := rfl
@[simp] theorem sRetV_eq {i : Nat} : sRetV i ρ = match getV ρ i with
  | some d => some (.ret d, ρ.set i none)
  | none => none := by unfold sRetV; cases getV ρ i <;> rfl
end
end OB

namespace OB
open PySem PySem.Spec PyProof.Rows L2
/-- a def called with n - dd.length values, the rest its defaults dd -/
def GoodD (P : Program) (w : World) (K : PySem.W.Frag) (mg : Str → Option Value) (base : Heap) (cm : Cm) (x : Str) (n k : Nat) (m : List D → Ot D) (dd : List D) : Prop :=
  ∃ (a : Addr) (fd : FuncData) (ps : List Str) (ds : List Value), mg x = some (.ref a) ∧ PySem.W.keepIn K (.ref a) = true ∧ Binds K fd ps ds ∧ Vals (dd.map toV) ds ∧ FnOk P w K mg base (L2.CX P w) k a fd ps (spP K cm n m)
section
variable {X : Cx} {cm : Cm} {W : WX} {x : Str} {p pos : Pos} {e : Expr} {es : List Expr} {fs : List (En → Ot D)} {k j n : Nat} {m : List D → Ot D} {dd : List D}
theorem s_callGD (tk : Takes X W) (G : GoodD X.prog X.w X.K X.mg X.base cm x n k m dd) (hr : Room j X.A) (hk : k ≤ j) (hg : Gl X x) (hdd : dd.all isAt = true) (hn : fs.length + dd.length = n) (ha : SA X cm W (e :: es) (eL fs))
    (hdb : (x == ("__debug__" : Str)) = false := by decide) (he : starEach (e :: es) X.env = (false, eval e X.env) :: starEach es X.env := by rfl) (hpl : (backTo pos (starEach es X.env)).any (·.1) = false := by rfl) :
    SE X cm W (.Call (.Name x p) (e :: es) [] pos) (eCall m dd fs) := by
  obtain ⟨a, fd, ps, ds, hm, kp, b, hd, F⟩ := G
  exact s_call tk F (hr.mono hk) hg hm kp b hd hdd rfl hn ha hdb he hpl
end
/-! ### a, b = e, f of plain locals -/
def sPar (is : List Nat) (fs : List (En → Ot D)) : Mst := sOnL (eL fs) fun ds ρ => if ds.all noT && ds.length == is.length then some (.nx, (is.zip ds).foldl (fun ρ p => ρ.set p.1 (some p.2)) ρ) else none
section
variable {X : Cx} {cm : Cm} {W : WX} {P : List Nat} {a b c : Expr} {f g h : En → Ot D} {i j l k2 kt : Nat} {x y z : Str} {px py pz pt pt2 pos : Pos}
theorem ss_par (hP : ([i, j].all fun i => !P.contains i) = true) (hc : X.calm = true) (hN : X.N.Nodup) (hi : X.N[i]? = some x) (hj : X.N[j]? = some y) (hij : i ≠ j) (hx : X.env.scope.names.lookup x = some .local) (hy : X.env.scope.names.lookup y = some .local)
    (ha : SA X cm W [a, b] (eL [f, g])) (hw : swappedStores [.Tuple [.Name x px, .Name y py] kt pt] (.Tuple [a, b] k2 pt2) X.env = pure (some [x, y]) := by rfl) :
    SS X cm W P (.Assign [.Tuple [.Name x px, .Name y py] kt pt] (.Tuple [a, b] k2 pt2) pos) (sPar [i, j] [f, g]) := PS.imp (ps_par hc hN hi hj hij hx hy ha hw) fun D0 σ H q => by
  obtain ⟨Z, ρ, Fs, ok, q⟩ := q
  refine on_goL ok q fun ds vs H1 Z1 Gs e r q1 => ?_
  split at q1
  · rename_i hh
    rw [Bool.and_eq_true] at hh
    have o := ok.many r hh.1
    obtain ⟨d, d2, rfl⟩ : ∃ d d2, ds = [d, d2] := by
      have := hh.2
      match ds, this with
      | [d, d2], _ => exact ⟨d, d2, rfl⟩
    obtain ⟨v, u, F, G, rfl, rfl, h1, h2⟩ := repL2 o.rep
    refine ⟨v, u, rfl, ?_⟩
    have o1 := o.set i
    have o2 := o1.set j
    have fr : ∀ a ∈ ([F, G] : List (List Addr)).flatten, H a = none := fun a h => (r.fr a h).elim id fun q => nomatch q
    have s : SStep P σ H Z Fs ((σ.set i (some v)).set j (some u)) H1 ⟨Z1.f, Z.b, fun _ => False⟩ ((Fs.set i F).set j G) :=
      ⟨.grow r.ext.gr, fun a h => (set_mem h).elim (fun h => (set_mem h).elim .inl fun q => .inr (fr a (by simp [q]))) fun q => .inr (fr a (by simp [q])), r.ext.f, fun a h => (r.ext.fn a h).elim .inl fun q => .inr (.inr q), rfl, fun k hk => by
        simp only [List.all_cons, List.all_nil, Bool.and_true, Bool.and_eq_true] at hP
        rw [prot_set (i := j) hP.2 k hk, prot_set (i := i) hP.1 k hk]⟩
    exact q1.at_ s o2.ok
  · exact q1.elim
theorem ss_par3 (hP : ([i, j, l].all fun i => !P.contains i) = true) (hc : X.calm = true) (hN : X.N.Nodup) (hi : X.N[i]? = some x) (hj : X.N[j]? = some y) (hl : X.N[l]? = some z) (hij : i ≠ j) (hil : i ≠ l) (hjl : j ≠ l) (hx : X.env.scope.names.lookup x = some .local) (hy : X.env.scope.names.lookup y = some .local) (hz : X.env.scope.names.lookup z = some .local)
    (ha : SA X cm W [a, b, c] (eL [f, g, h])) (hw : swappedStores [.Tuple [.Name x px, .Name y py, .Name z pz] kt pt] (.Tuple [a, b, c] k2 pt2) X.env = pure (some [x, y, z]) := by rfl) :
    SS X cm W P (.Assign [.Tuple [.Name x px, .Name y py, .Name z pz] kt pt] (.Tuple [a, b, c] k2 pt2) pos) (sPar [i, j, l] [f, g, h]) := PS.imp (ps_par3 hc hN hi hj hl hij hil hjl hx hy hz ha hw) fun D0 σ H q => by
  obtain ⟨Z, ρ, Fs, ok, q⟩ := q
  refine on_goL ok q fun ds vs H1 Z1 Gs e r q1 => ?_
  split at q1
  · rename_i hh
    rw [Bool.and_eq_true] at hh
    have o := ok.many r hh.1
    obtain ⟨d, d2, d3, rfl⟩ : ∃ d d2 d3, ds = [d, d2, d3] := by
      have := hh.2
      match ds, this with
      | [d, d2, d3], _ => exact ⟨d, d2, d3, rfl⟩
    obtain ⟨v, u, t, F, G, M, rfl, rfl, h1, h2, h3⟩ := repL3 o.rep
    refine ⟨v, u, t, rfl, ?_⟩
    have o1 := o.set i
    have o2 := o1.set j
    have o3 := o2.set l
    have fr : ∀ a ∈ ([F, G, M] : List (List Addr)).flatten, H a = none := fun a h => (r.fr a h).elim id fun q => nomatch q
    have s : SStep P σ H Z Fs (((σ.set i (some v)).set j (some u)).set l (some t)) H1 ⟨Z1.f, Z.b, fun _ => False⟩ (((Fs.set i F).set j G).set l M) :=
      ⟨.grow r.ext.gr, fun a h => (set_mem h).elim (fun h => (set_mem h).elim (fun h => (set_mem h).elim .inl fun q => .inr (fr a (by simp [q]))) fun q => .inr (fr a (by simp [q]))) fun q => .inr (fr a (by simp [q])), r.ext.f, fun a h => (r.ext.fn a h).elim .inl fun q => .inr (.inr q), rfl, fun k hk => by
        simp only [List.all_cons, List.all_nil, Bool.and_true, Bool.and_eq_true] at hP
        rw [prot_set (i := l) hP.2.2 k hk, prot_set (i := j) hP.2.1 k hk, prot_set (i := i) hP.1 k hk]⟩
    exact q1.at_ s o3.ok
  · exact q1.elim
end
section
variable {P : Program} {w : World} {K : PySem.W.Frag} {mg : Str → Option Value} {base : Heap} {cm : Cm}
theorem fn_pureD {x qual : Str} {st : Stmt} {f : Addr} {fd : FuncData} {N ps : List Str} {k : Nat} {g : Mst} {dvs : List V} {kws : List (Str × V)} (F : FunD K x qual (defArgs st) (defBody st) (defScope st) dvs kws f fd) (S : FnScope N ps (defScope st)) (hl : ps.length ≤ N.length)
    (hb : ∀ (cdv : Value) (A : Around) (outer : List Env) (s : Shared) (H : Hp) (E : XK), Room k (A.deeper (envOfC qual (defScope st) s.heap.objs.size f cdv)) →
      SB (cxOf (L2.CX P w) P w K mg base N qual (defScope st) f cdv A outer s H E) cm (fun cls dd _ H' => E cls dd H') [] (defBody st) g) :
    FnOk P w K mg base (L2.CX P w) (k + 1) f fd ps (spP K cm ps.length (bodyM N.length g)) :=
  F.ok S (fun _ _ _ _ h => spP_len h) fun cdv A outer s H vs Q E hr h => ⟨_, hb cdv A outer s H E hr, by
    have hv := spP_len h
    obtain ⟨f, ds, Gs, hf, _, e, r, q⟩ := h
    exact body_fin hf e r (by rw [hv]; exact hl) q⟩
end
theorem vals_nil {ds : List Value} (h : Vals [] ds) : ds = [] := by cases h; rfl
end OB

namespace OB
open PySem PySem.Spec PyProof.Rows L2 PySem.NumText
theorem compL_filter {tg : D → En → Option En} {c : En → Ot Bool} {f : En → Ot D} {ρ : En} (b : D → Bool) (y : D → D) : ∀ ds : List D, (∀ d ∈ ds, ∃ ρ1, tg d ρ = some ρ1 ∧ c ρ1 = .ok (b d) ∧ (b d = true → f ρ1 = .ok (y d))) → compL tg c f ρ ds = some ((ds.filter b).map y)
  | [], _ => rfl
  | d :: ds, h => by
    obtain ⟨ρ1, e1, e2, e3⟩ := h d List.mem_cons_self
    have ih := compL_filter b y ds fun d hd => h d (List.mem_cons_of_mem _ hd)
    unfold compL
    rw [e1, Option.bind_some, e2]
    cases hb : b d with
    | true =>
      rw [e3 hb, ih, List.filter_cons_of_pos hb]; rfl
    | false =>
      rw [List.filter_cons_of_neg (by rw [hb]; exact Bool.false_ne_true)]
      exact ih
theorem compL_map {tg : D → En → Option En} {f : En → Ot D} {ρ : En} (y : D → D) (ds : List D) (h : ∀ d ∈ ds, ∃ ρ1, tg d ρ = some ρ1 ∧ f ρ1 = .ok (y d)) : compL tg cYes f ρ ds = some (ds.map y) := by
  have := compL_filter (c := cYes) (fun _ => true) y ds fun d hd => by
    obtain ⟨ρ1, a, b⟩ := h d hd
    exact ⟨ρ1, a, rfl, fun _ => b⟩
  rwa [List.filter_eq_self.mpr (fun _ _ => rfl)] at this
theorem eComp_ok {it : En → Ot Its'} {tg : D → En → Option En} {c : En → Ot Bool} {f : En → Ot D} {vs : List Nat} {ρ : En} {p : Its'} {ys : List D} (e1 : it ρ = .ok p) (e2 : compL tg c f (wipeE ρ vs) p.1 = some ys) (hl : ys.length ≤ sizeLine) : eComp it tg c f vs ρ = .ok (.nd (.lst .own) ys) := by
  unfold eComp
  rw [e1, Ot.bind_ok, e2]
  exact if_pos hl
theorem forL_inv {tg : D → En → Option En} {b : Mst} (Inv : Nat → En → Prop) : ∀ (ds : List D) (i : Nat) (ρ : En), (∀ j d ρ, ds[j]? = some d → Inv (i + j) ρ → ∃ ρ1 ρ2, tg d ρ = some ρ1 ∧ b ρ1 = some (.nx, ρ2) ∧ Inv (i + j + 1) ρ2) → Inv i ρ → ∃ ρ', forL tg b ds ρ = some (.nx, ρ') ∧ Inv (i + ds.length) ρ'
  | [], i, ρ, _, h0 => ⟨ρ, rfl, h0⟩
  | d :: ds, i, ρ, h, h0 => by
    obtain ⟨ρ1, ρ2, e1, e2, h1⟩ := h 0 d ρ rfl h0
    obtain ⟨ρ', e3, h3⟩ := forL_inv Inv ds (i + 1) ρ2 (fun j d ρ hd hi => by
      have := h (j + 1) d ρ (by simpa using hd) (by rw [show i + (j + 1) = i + 1 + j by omega]; exact hi)
      rwa [show i + (j + 1) + 1 = i + 1 + j + 1 by omega] at this) h1
    refine ⟨ρ', ?_, by rw [List.length_cons, show i + (ds.length + 1) = i + 1 + ds.length by omega]; exact h3⟩
    unfold forL
    rw [e1]
    dsimp only
    rw [e2]
    exact e3
theorem sFor_ok {it : En → Ot Its'} {tg : D → En → Option En} {b : Mst} {ρ : En} {ds : List D} (e : it ρ = .ok (ds, true)) (Inv : Nat → En → Prop) (h0 : Inv 0 ρ)
    (h : ∀ j d ρ, ds[j]? = some d → Inv j ρ → ∃ ρ1 ρ2, tg d ρ = some ρ1 ∧ b ρ1 = some (.nx, ρ2) ∧ Inv (j + 1) ρ2) : ∃ ρ', sFor it tg b ρ = some (.nx, ρ') ∧ Inv ds.length ρ' := by
  obtain ⟨ρ', e1, e2⟩ := forL_inv (tg := tg) (b := b) Inv ds 0 ρ (by simpa using h) h0
  refine ⟨ρ', ?_, by simpa using e2⟩
  unfold sFor
  rw [e]
  exact e1
structure OkS (s : Str) (n : Nat) : Prop where
  len : s.length ≤ n
  ok : ∀ c ∈ s.cps.toList, c < 0x110000
theorem OkS.str {s : Str} {n : Nat} (h : OkS s n) : PyData.strOk s = true := by
  unfold PyData.strOk
  rw [Array.all_eq_true_iff_forall_mem]
  intro c hc
  exact decide_eq_true (h.ok c (by simpa using hc))
theorem toPyL_strs : ∀ ss : List Str, toPyL (ss.map .str) = some (ss.map .str)
  | [] => rfl
  | s :: ss => by
    rw [List.map_cons, toPyL, toPyL_strs ss]; rfl
theorem shaped_strs {n : Nat} {ss : List Str} (h : ∀ s ∈ ss, OkS s n) : SeqAt.shaped (.list (ss.map .str)) = true := by
  have h1 : ∀ ss : List Str, (∀ s ∈ ss, OkS s n) → PyData.canLayAll0 (ss.map .str) = true := by
    intro ss
    induction ss with
    | nil => exact fun _ => rfl
    | cons s ss ih =>
      intro h
      rw [List.map_cons, PyData.canLayAll0, ih fun s hs => h s (List.mem_cons_of_mem _ hs), Bool.and_true, PyData.canLay0]
      exact (h s List.mem_cons_self).str
  have h2 : ∀ ss : List Str, PyData.depthAll (ss.map .str) = 0 := by
    intro ss
    induction ss with
    | nil => rfl
    | cons s ss ih => rw [List.map_cons, PyData.depthAll, ih, PyData.depth]; rfl
  unfold SeqAt.shaped
  rw [PyData.canLay0, h1 ss h, PyData.depth, h2]
  rfl
theorem eqvAll_refl : ∀ ss : List Str, PyData.eqvAll (ss.map .str) (ss.map .str) = true
  | [] => by simp [PyData.eqvAll]
  | s :: ss => by
    rw [List.map_cons, PyData.eqvAll, eqvAll_refl ss, PyData.eqv]; simp
theorem deepEq_strs {f g : Fl} {n : Nat} {ss tt : List Str} (h : ∀ s ∈ ss, OkS s n) (h' : ∀ s ∈ tt, OkS s n) : deepEq (.nd (.lst f) (ss.map .str)) (.nd (.lst g) (tt.map .str)) = some (PyData.eqvAll (ss.map .str) (tt.map .str)) := by
  unfold deepEq
  rw [toPy, toPy, toPyL_strs, toPyL_strs]
  simp only [Option.map_some, Option.bind_some, shaped_strs h, shaped_strs h', Bool.and_self, if_true, PyData.eqv]
theorem pEq_nil {f g : Fl} {n : Nat} {ss : List Str} (h : ∀ s ∈ ss, OkS s n) : pEq [.nd (.lst f) (ss.map .str), .nd (.lst g) []] = some (.bl ss.isEmpty) := by
  have := deepEq_strs (f := f) (g := g) h (tt := []) fun _ h => nomatch h
  unfold pEq
  simp only [atEq, Option.none_or]
  rw [show ([] : List D) = ([] : List Str).map .str from rfl, this]
  cases ss <;> simp [PyData.eqvAll]
theorem pNe_nil {f g : Fl} {n : Nat} {ss : List Str} (h : ∀ s ∈ ss, OkS s n) : pNe [.nd (.lst f) (ss.map .str), .nd (.lst g) []] = some (.bl (!ss.isEmpty)) := by
  have := deepEq_strs (f := f) (g := g) h (tt := []) fun _ h => nomatch h
  unfold pNe
  simp only [atEq, Option.none_or]
  rw [show ([] : List D) = ([] : List Str).map .str from rfl, this]
  cases ss <;> simp [PyData.eqvAll]
theorem pNe_refl {f g : Fl} {n : Nat} {ss : List Str} (h : ∀ s ∈ ss, OkS s n) : pNe [.nd (.lst f) (ss.map .str), .nd (.lst g) (ss.map .str)] = some (.bl false) := by
  unfold pNe
  simp only [atEq, Option.none_or]
  rw [deepEq_strs h h, eqvAll_refl]; rfl
def sg (c : Nat) : Str := ⟨#[c]⟩
def sgs (s : Str) : List Nat := s.cps.toList
theorem sgs_len {s : Str} : (sgs s).length = s.length := Array.length_toList
theorem items_str {s : Str} : itemsD (.str s) = some ((sgs s).map fun c => D.str (sg c), true) := rfl
theorem in_sg {c : Nat} {z : Str} : pIn [.str (sg c), .str z] = some (.bl (decide (c ∈ sgs z))) := rfl
theorem notIn_sg {c : Nat} {z : Str} : pNotIn [.str (sg c), .str z] = some (.bl (!decide (c ∈ sgs z))) := rfl
theorem blsD_map (bs : List Bool) : blsD (bs.map .bl) = some bs := by
  induction bs with
  | nil => rfl
  | cons b bs ih => rw [List.map_cons, blsD, ih]; rfl
theorem len_str {s : Str} (h : s.length ≤ 16777216) : pLen [.str s] = some (.int s.length) := by
  show (if s.length ≤ sizeLine then _ else _) = _
  exact if_pos h
theorem le_int {i j : Int} : pLe [.int i, .int j] = some (.bl (decide (i ≤ j))) := rfl
def lets : Str := "abcdefghijklmnopqrstuvwxyz"
def figs : Str := "0123456789"
def among (s z : Str) : Bool := (sgs s).all fun c => decide (c ∈ sgs z)
theorem odd_sgs {cs : List Nat} {z : List Nat} : (cs.filter fun c => !decide (c ∈ z)).isEmpty = cs.all fun c => decide (c ∈ z) := by
  induction cs with
  | nil => rfl
  | cons c cs ih =>
    by_cases h : c ∈ z <;> simp_all
theorem comp_notIn {i : Nat} {s z : Str} {ρ : En} {fz : En → Ot D} (h : s.length ≤ 16777216) (hi : i < ρ.length) (e1 : eVar 0 ρ = .ok (.str s)) (hz : ∀ d, fz ((wipeE ρ [i]).set i (some d)) = .ok (.str z)) :
    eComp (itV (eVar 0)) (tgName i) (eT (ePr pNotIn [eVar i, fz])) (eVar i) [i] ρ = .ok (.nd (.lst .own) (((sgs s).filter fun c => !decide (c ∈ sgs z)).map fun c => .str (sg c))) := by
  have hl : (sgs s).length ≤ sizeLine := by rw [sgs_len]; exact h
  refine eComp_ok (p := ((sgs s).map fun c => D.str (sg c), true)) (by rw [itV_eq, e1]; rfl) ?_ ?_ (ys := ((sgs s).filter fun c => !decide (c ∈ sgs z)).map fun c => .str (sg c))
  · have := compL_filter (tg := tgName i) (c := eT (ePr pNotIn [eVar i, fz])) (f := eVar i) (ρ := wipeE ρ [i]) (fun d => match d with | .str a => (match sgs a with | [c] => !decide (c ∈ sgs z) | _ => false) | _ => false) id ((sgs s).map fun c => D.str (sg c)) fun d hd => by
      obtain ⟨c, hc, rfl⟩ := List.mem_map.mp hd
      have ei : (((wipeE ρ [i]).set i (some (D.str (sg c))))[i]?).join = some (.str (sg c)) := by
        rw [List.getElem?_set_self (by unfold wipeE wipeE; simpa using hi)]; rfl
      refine ⟨_, rfl, ?_, fun _ => ?_⟩
      · simp only [eT_eq, ePr_eq, eL_cons, eL_nil, eVar_eq, getV_eq, ei, hz, Option.map_some, mapF_str, Ot.of_some, Ot.bind_ok, notIn_sg, asB_bl]
        rfl
      · simp only [eVar_eq, getV_eq, ei, Option.map_some, mapF_str, Ot.of_some]; rfl
    rw [this, List.map_id, List.filter_map]
    rfl
  · rw [List.length_map]
    exact Nat.le_trans (List.length_filter_le _ _) hl
theorem sg_ok {s : Str} {n : Nat} (h : OkS s n) {c : Nat} (hc : c ∈ sgs s) : OkS (sg c) 1 := ⟨Nat.le_refl _, fun d hd => by
  have : d = c := by simpa [sg] using hd
  subst this
  exact h.ok d hc⟩
theorem bits_le {x : Int} {k : Nat} (h : x.natAbs < 2 ^ k) : Builtin.Int.intBits x ≤ k := by
  unfold Builtin.Int.intBits
  split
  · exact Nat.zero_le _
  · rename_i h0
    have h0 : x.natAbs ≠ 0 := by
      intro e
      exact h0 (by simpa using Int.natAbs_eq_zero.mp e)
    exact (Nat.log2_lt h0).mpr h
theorem bits_ge {x : Int} {k : Nat} (h : Builtin.Int.intBits x ≤ k) : x.natAbs < 2 ^ k := by
  unfold Builtin.Int.intBits at h
  split at h
  · rename_i e
    have e : x = 0 := by simpa using e
    subst e
    exact Nat.pow_pos (by decide)
  · rename_i h0
    have h0 : x.natAbs ≠ 0 := by
      intro e
      exact h0 (by simpa using Int.natAbs_eq_zero.mp e)
    exact (Nat.log2_lt h0).mp h
theorem mul_int {i j : Int} {k l : Nat} (h1 : i.natAbs < 2 ^ k) (h2 : j.natAbs < 2 ^ l) (h : k + l ≤ 134217728) : pMul [.int i, .int j] = some (.int (i * j)) := by
  have : mulOk i j = true := decide_eq_true (Nat.le_trans (Nat.add_le_add (bits_le h1) (bits_le h2)) h)
  show (if mulOk i j = true then _ else _) = _
  exact if_pos this
theorem add_int {i j : Int} : pAdd [.int i, .int j] = some (.int (i + j)) := rfl
theorem sub_int {i j : Int} : pSub [.int i, .int j] = some (.int (i - j)) := rfl
theorem eq_int {i j : Int} : pEq [.int i, .int j] = some (.bl (i == j)) := rfl
theorem eq_str {i j : Str} : pEq [.str i, .str j] = some (.bl (i == j)) := rfl
theorem ne_str {i j : Str} : pNe [.str i, .str j] = some (.bl (!(i == j))) := rfl
theorem eq_bl {i j : Bool} : pEq [.bl i, .bl j] = some (.bl (i == j)) := rfl
theorem ne_bl {i j : Bool} : pNe [.bl i, .bl j] = some (.bl (!(i == j))) := rfl
theorem mod_int {i j : Int} (h : 0 < j) : pMod [.int i, .int j] = some (.int (i % j)) := by
  show (if j ≠ 0 then some (D.int (modV i j)) else none) = _
  rw [if_pos (by omega)]
  unfold modV
  rw [if_pos h]
theorem div_int {i j : Int} (h : 0 < j) (h2 : j < 2 ^ 62) : pDiv [.int i, .int j] = some (.int (i / j)) := by
  have : divOk j = true := by
    unfold divOk
    rw [Bool.and_eq_true]
    refine ⟨decide_eq_true (by omega), decide_eq_true ?_⟩
    have h0 : j.natAbs ≠ 0 := by omega
    exact Nat.lt_trans ((Nat.log2_lt h0 (k := 62)).mpr (by omega)) (by decide)
  show (if divOk j = true then _ else _) = _
  rw [if_pos this]
  unfold divV
  rw [if_pos h]
theorem ix0_str {s : Str} {c : Nat} {r : List Nat} (h : s.length ≤ 16777216) (e : sgs s = c :: r) : pIx [.str s, .int 0] = some (.str (sg c)) := by
  show (if s.length ≤ sizeLine then (atI s.cps.toList 0).map (fun c => D.str ⟨#[c]⟩) else none) = _
  rw [if_pos (show s.length ≤ sizeLine from h), show s.cps.toList = c :: r from e]
  simp [atI, ixN]
  rfl
theorem figs_sgs : sgs figs = [48, 49, 50, 51, 52, 53, 54, 55, 56, 57] := by decide +kernel
theorem among_figs {s : Str} (h : among s figs = true) : AllDigits (sgs s) := fun c hc => by
  have := List.all_eq_true.mp h c hc
  have := of_decide_eq_true this
  rw [figs_sgs] at this
  simp at this
  omega
theorem sidx {k : Nat} (h : k < 10) : pSIdx [.str figs, .str (sg (48 + k))] = some (.int k) := by
  have : ∀ k : Fin 10, Builtin.Str.occurrences figs (sg (48 + k.val)) 0 figs.length 1 = [k.val] := by decide +kernel
  show (match Builtin.Str.occurrences figs (sg (48 + k)) 0 figs.length 1 with
    | i :: _ => some (D.int (i : Nat))
    | [] => none) = _
  rw [this ⟨k, h⟩]
theorem dv_snoc (cs : List Nat) (c : Nat) : digitsVal (cs ++ [c]) = digitsVal cs * 10 + (c - 48) := by
  unfold digitsVal
  rw [List.foldl_append]
  rfl
theorem dv_lt (cs : List Nat) (h : AllDigits cs) : digitsVal cs < 10 ^ cs.length := by
  have key : ∀ rs : List Nat, AllDigits rs → digitsVal rs.reverse < 10 ^ rs.length := by
    intro rs
    induction rs with
    | nil => intro _; decide
    | cons c rs ih =>
      intro h
      have h1 := ih fun d hd => h d (List.mem_cons_of_mem _ hd)
      have h2 := h c List.mem_cons_self
      rw [List.reverse_cons, dv_snoc, List.length_cons, Nat.pow_succ]
      omega
  have := key cs.reverse fun d hd => h d (List.mem_reverse.mp hd)
  rwa [List.reverse_reverse, List.length_reverse] at this
def numD (s : Str) : D := if decide ((1 : Int) ≤ s.length) && (decide ((s.length : Int) ≤ 1000) && among s figs) then (if sg ((sgs s).headD 0) == sg 48 && !(s == sg 48) then .non else .int (digitsVal (sgs s))) else .non
theorem zero_sg : (Str.ofString "0") = sg 48 := by decide +kernel
theorem range8 {n : Nat} {j : Nat} {d : D} (h : (rngD 0 (n : Nat))[j]? = some d) : j < n ∧ d = .int j := by
  unfold rngD at h
  rw [List.getElem?_map] at h
  cases e : (List.range ((n : Int) - 0).toNat)[j]? with
  | none => rw [e] at h; cases h
  | some i =>
    rw [e] at h
    cases h
    obtain ⟨h1, h2⟩ := List.getElem?_eq_some_iff.mp e
    simp at h1 h2
    subst h2
    exact ⟨by omega, by simp⟩
theorem ipow {n : Nat} (hn : 0 < n) {j k : Nat} (h : j ≤ k) : ((n : Nat) : Int) ^ j ≤ ((n : Nat) : Int) ^ k := by
  rw [← Int.natCast_pow, ← Int.natCast_pow]
  exact Int.ofNat_le.mpr (Nat.pow_le_pow_right hn h)
def dgs (n : Nat) : List Nat := (Nat.toDigits 10 n).map Char.toNat
theorem dgs_lt {m : Nat} (h : m < 10) : dgs m = [48 + m] := by
  unfold dgs
  rw [Nat.toDigits_of_lt_base h]
  have : ∀ k : Fin 10, (Nat.digitChar k.val).toNat = 48 + k.val := by decide +kernel
  simp [this ⟨m, h⟩]
theorem dgs_ge {m : Nat} (h : 10 ≤ m) : dgs m = dgs (m / 10) ++ [48 + m % 10] := by
  have hm : m % 10 < 10 := Nat.mod_lt m (by decide)
  have t : Nat.toDigits 10 (m / 10) ++ Nat.toDigits 10 (m % 10) = Nat.toDigits 10 (10 * (m / 10) + m % 10) := Nat.toDigits_append_toDigits (by decide) (by omega) hm
  rw [Nat.div_add_mod] at t
  have e := dgs_lt hm
  unfold dgs at e ⊢
  rw [← t, List.map_append, e]
theorem dgs_all : ∀ (m : Nat), (∀ c ∈ dgs m, 48 ≤ c ∧ c ≤ 57) ∧ digitsVal (dgs m) = m ∧ (0 < m → ∃ c r, dgs m = c :: r ∧ c ≠ 48) := fun m => by
  induction m using Nat.strongRecOn with
  | _ m ih =>
    by_cases h : m < 10
    · rw [dgs_lt h]
      refine ⟨fun c hc => ?_, ?_, fun h0 => ⟨_, _, rfl, by omega⟩⟩
      · have : c = 48 + m := by simpa using hc
        omega
      · show 0 * 10 + (48 + m - 48) = m
        omega
    · rw [dgs_ge (by omega)]
      obtain ⟨i1, i2, i3⟩ := ih (m / 10) (by omega)
      refine ⟨fun c hc => ?_, ?_, fun _ => ?_⟩
      · rcases List.mem_append.mp hc with q | q
        · exact i1 c q
        · have : c = 48 + m % 10 := by simpa using q
          omega
      · rw [dv_snoc, i2]
        omega
      · obtain ⟨c, r, e, hc⟩ := i3 (by omega)
        exact ⟨c, r ++ [48 + m % 10], by rw [e]; rfl, hc⟩
theorem dgs_len : ∀ (k m : Nat), m < 10 ^ (k + 1) → (dgs m).length ≤ k + 1
  | 0, m, h => by rw [dgs_lt (by simpa using h)]; simp
  | k + 1, m, h => by
    by_cases h2 : m < 10
    · rw [dgs_lt h2]; simp
    · rw [dgs_ge (by omega), List.length_append]
      have := dgs_len k (m / 10) (by rw [Nat.pow_succ] at h; omega)
      simp; omega
def num (m : Nat) : Str := ⟨(dgs m).toArray⟩
theorem num_eq (m : Nat) : Str.ofString (toString ((m : Nat) : Int)) = num m := by
  have := PySem.W.KIN.signs_num m
  have e : (Str.ofString (toString ((m : Nat) : Int))).cps = (dgs m).toArray := by
    rw [← Array.toArray_toList (xs := (Str.ofString (toString ((m : Nat) : Int))).cps), this]
    rfl
  cases h : Str.ofString (toString ((m : Nat) : Int)) with
  | mk a =>
    rw [h] at e
    unfold num
    rw [← e]
theorem sgs_num (m : Nat) : sgs (num m) = dgs m := by unfold sgs num; simp
theorem numD_num {m : Nat} (h : (dgs m).length ≤ 1000) : numD (num m) = .int m := by
  obtain ⟨a1, a2, a3⟩ := dgs_all m
  have hl : (num m).length = (dgs m).length := by rw [← sgs_len, sgs_num]
  have h0 : 1 ≤ (dgs m).length := by
    by_cases h : m < 10
    · rw [dgs_lt h]; simp
    · rw [dgs_ge (by omega)]; simp
  have ha : among (num m) figs = true := by
    unfold among
    rw [sgs_num, List.all_eq_true]
    intro c hc
    obtain ⟨b1, b2⟩ := a1 c hc
    rw [figs_sgs]
    have : c = 48 ∨ c = 49 ∨ c = 50 ∨ c = 51 ∨ c = 52 ∨ c = 53 ∨ c = 54 ∨ c = 55 ∨ c = 56 ∨ c = 57 := by omega
    exact decide_eq_true (by simpa using this)
  unfold numD
  rw [ha, hl, decide_eq_true (by omega), decide_eq_true (by omega), sgs_num, a2]
  simp only [Bool.and_self, if_true]
  rw [if_neg]
  rw [Bool.and_eq_true, not_and]
  intro e1 e2
  have e1 : sg ((dgs m).headD 0) = sg 48 := by simpa using e1
  by_cases hm : 0 < m
  · obtain ⟨c, r, e, hc⟩ := a3 hm
    rw [e] at e1
    unfold sg at e1
    simp at e1
    exact hc e1
  · have : m = 0 := by omega
    subst this
    have : num 0 = sg 48 := by decide +kernel
    rw [this] at e2
    simp at e2
@[simp] theorem mapF_comp_str {k : Fl → Fl} : mapF k ∘ D.str = D.str := rfl
@[simp] theorem mapF_comp_str2 {α : Type} {k : Fl → Fl} {g : α → Str} : mapF k ∘ D.str ∘ g = D.str ∘ g := rfl
@[simp] theorem map_mapF_str {k : Fl → Fl} {F : List Str} : List.map (mapF k) (F.map D.str) = F.map D.str := by rw [List.map_map]; rfl
@[simp] theorem all_noT_str {F : List Str} : (F.map D.str).all noT = true := by rw [List.all_map]; exact List.all_eq_true.mpr fun _ _ => rfl
@[simp] theorem all_noB_str {F : List Str} : (F.map D.str).all noB = true := by rw [List.all_map]; exact List.all_eq_true.mpr fun _ _ => rfl
theorem ixfig {k : Nat} (h : k < 10) : pIx [.str figs, .int (k : Nat)] = some (.str (sg (48 + k))) := by
  have : ∀ k : Fin 10, atI figs.cps.toList ((k.val : Nat) : Int) = some (48 + k.val) := by decide +kernel
  show (if figs.length ≤ sizeLine then (atI figs.cps.toList (k : Nat)).map (fun c => D.str ⟨#[c]⟩) else none) = _
  rw [if_pos (by decide +kernel), this ⟨k, h⟩]
  rfl
theorem gt_int {i j : Int} : pGt [.int i, .int j] = some (.bl (decide (j < i))) := rfl
theorem join_sg (cs : List Nat) : Txt.join "" (cs.map sg) = ⟨cs.toArray⟩ := by
  have key : ∀ cs : List Nat, (Str.join "" (cs.map sg)) = ⟨cs.toArray⟩ := by
    intro cs
    induction cs with
    | nil => rfl
    | cons c cs ih =>
      cases cs with
      | nil => rfl
      | cons d ds =>
        show sg c ++ "" ++ Str.join "" ((d :: ds).map sg) = _
        rw [ih]
        have : sg c ++ (Str.ofString "") = sg c := by
          show (⟨#[c] ++ (Str.ofString "").cps⟩ : Str) = ⟨#[c]⟩
          have : (Str.ofString "").cps = #[] := by decide +kernel
          rw [this]; simp
        rw [this]
        show (⟨#[c] ++ (d :: ds).toArray⟩ : Str) = _
        simp
  rw [TL.join_eq]
  exact key cs
theorem at_str {z : Str} (hz : OkS z 200) {k : Int} (h0 : 0 ≤ k) (h1 : k < z.length) : ∃ w, pIx [.str z, .int k] = some (.str w) ∧ OkS w 1 := by
  have hl : k.toNat < (sgs z).length := by rw [sgs_len]; omega
  have e : atI z.cps.toList k = some ((sgs z)[k.toNat]) := by
    unfold atI ixN
    rw [if_pos h0, if_pos (by rw [show z.cps.toList = sgs z from rfl, sgs_len]; exact h1)]
    exact List.getElem?_eq_getElem hl
  refine ⟨sg ((sgs z)[k.toNat]), ?_, sg_ok hz (List.getElem_mem hl)⟩
  show (if z.length ≤ sizeLine then (atI z.cps.toList k).map (fun c => D.str ⟨#[c]⟩) else none) = _
  rw [if_pos (show z.length ≤ sizeLine from Nat.le_trans hz.len (by decide)), e]
  rfl
theorem okS_of {z : Str} {n : Nat} (h1 : z.length ≤ n) (h : z.cps.toList.all (fun c => decide (c < 0x110000)) = true) : OkS z n := ⟨h1, fun c hc => of_decide_eq_true (List.all_eq_true.mp h c hc)⟩
theorem lets_ok : OkS lets 200 := okS_of (by decide +kernel) (by decide +kernel)
theorem lets_len : lets.length = 26 := by decide +kernel
theorem str_fig {k : Int} (h0 : 0 ≤ k) (h1 : k < 10) : ∃ w, pStr [.int k] = some (.str w) ∧ OkS w 1 := by
  obtain ⟨m, rfl⟩ := Int.eq_ofNat_of_zero_le h0
  have hm : m < 10 := by omega
  refine ⟨num m, ?_, ?_, fun c hc => ?_⟩
  · unfold pStr
    have hlog : (m : Int).natAbs.log2 < 1920 := by
      by_cases h0 : m = 0
      · subst h0; decide
      · exact Nat.lt_trans ((Nat.log2_lt (k := 4) (by simpa using h0)).mpr (by simp; omega)) (by decide)
    dsimp only
    rw [if_pos hlog, num_eq]
  · rw [← sgs_len, sgs_num, dgs_lt hm]; simp
  · have hc : c ∈ sgs (num m) := hc
    rw [sgs_num, dgs_lt hm] at hc
    have : c = 48 + m := by simpa using hc
    omega
theorem rng_nat {n : Nat} (hn : n ≤ 2000) : rngOk (n : Int) = true := by
  have h1 : -(2 ^ 62 : Int) ≤ (n : Int) := by
    have : (0 : Int) ≤ 2 ^ 62 := by decide
    omega
  have h2 : (n : Int) < 2 ^ 62 := Int.lt_of_le_of_lt (b := 2000) (by omega) (by decide)
  unfold rngOk
  rw [decide_eq_true h1, decide_eq_true h2]
  rfl
theorem rng_len (n : Nat) : ((n : Int) - 0).toNat = n := by simp
theorem join_ok {f : Fl} {ws : List Str} (h : ∀ w ∈ ws, OkS w 2) (hl : ws.length ≤ 1100) : ∃ t, pJoin [.str "", .nd (.lst f) (ws.map .str)] = some (.str t) ∧ OkS t 2200 := by
  have hs : strsD (ws.map .str) = some ws := by
    clear h hl
    induction ws with
    | nil => rfl
    | cons y ys ih => rw [List.map_cons, strsD, ih]; rfl
  have e0 : (Str.ofString "").length = 0 := by decide +kernel
  have sum : (ws.map Str.length).sum ≤ 2 * ws.length := by
    clear hl hs
    induction ws with
    | nil => simp
    | cons y ys ih =>
      have h1 := (h y List.mem_cons_self).len
      have h2 := ih fun w hw => h w (List.mem_cons_of_mem _ hw)
      rw [List.map_cons, List.sum_cons, List.length_cons]
      omega
  have ec : ∀ ws : List Str, (∀ w ∈ ws, OkS w 2) → ∀ c ∈ (Str.join "" ws).cps.toList, c < 0x110000 := by
    intro ws
    induction ws with
    | nil =>
      intro _ c hc
      have : c ∈ (#[] : Array Nat).toList := hc
      simp at this
    | cons y ys ih =>
      intro h
      cases ys with
      | nil => exact (h y List.mem_cons_self).ok
      | cons z zs =>
        intro c hc
        have hc : c ∈ (y.cps ++ (Str.ofString "").cps ++ (Str.join "" (z :: zs)).cps).toList := hc
        have : (Str.ofString "").cps = #[] := by decide +kernel
        rw [this] at hc
        simp only [Array.toList_append, List.mem_append] at hc
        rcases hc with (hc | hc) | hc
        · exact (h y List.mem_cons_self).ok c hc
        · simp at hc
        · exact ih (fun w hw => h w (List.mem_cons_of_mem _ hw)) c hc
  refine ⟨Txt.join "" ws, ?_, ?_, ?_⟩
  · show (strsD (ws.map .str)).bind (fun ys => if (ys.map Str.length).sum + ys.length * (Str.ofString "").length ≤ 16777216 then some (D.str (Txt.join "" ys)) else none) = _
    rw [hs, Option.bind_some, e0, if_pos (by omega)]
  · rw [TL.join_eq]
    have := StrLaws.join_length_le (Str.ofString "") ws
    rw [e0] at this
    change _ ≤ (ws.map Str.length).sum + _ at this
    omega
  · rw [TL.join_eq]
    exact ec ws h
theorem at_lst {f : Fl} {ds : List D} {k : Int} (h0 : 0 ≤ k) (h1 : k < ds.length) : ∃ d ∈ ds, pIx [.nd (.lst f) ds, .int k] = some d := by
  have hl : k.toNat < ds.length := by omega
  refine ⟨ds[k.toNat], List.getElem_mem hl, ?_⟩
  show atI ds k = _
  unfold atI ixN
  rw [if_pos h0, if_pos h1]
  exact List.getElem?_eq_getElem hl
theorem modr (c : Int) {j : Int} (h : 0 < j) : 0 ≤ c % j ∧ c % j < j := ⟨Int.emod_nonneg _ (by omega), Int.emod_lt_of_pos _ h⟩
theorem len_lst {f : Fl} {ds : List D} : pLen [.nd (.lst f) ds] = some (.int ds.length) := rfl
@[simp] theorem mapF_comp_int {k : Fl → Fl} : mapF k ∘ D.int = D.int := rfl
theorem split_ok {s y : Str} {n : Nat} (o : OkS s n) : ∀ p ∈ Txt.split s y, OkS p n := by
  have sub : ∀ i j, OkS (Builtin.Str.strSub s i j) n := fun i j => by
    refine ⟨?_, fun c hc => ?_⟩
    · have : (Builtin.Str.strSub s i j).length ≤ s.length := by
        show (s.cps.extract i j).size ≤ s.cps.size
        simp; omega
      exact Nat.le_trans this o.len
    · have hc : c ∈ (s.cps.extract i j).toList := hc
      rw [Array.toList_extract] at hc
      exact o.ok c (List.mem_of_mem_drop (List.mem_of_mem_take (by simpa using hc)))
  intro p hp
  unfold Txt.split at hp
  split at hp
  · rw [List.mem_singleton.mp hp]; exact o
  · split at hp
    · rw [List.mem_singleton.mp hp]; exact o
    · unfold Builtin.Str.partsBetween at hp
      obtain ⟨⟨i, j⟩, _, rfl⟩ := List.mem_map.mp hp
      exact sub i j
theorem in_strs {f : Fl} {ss : List Str} : pIn [.str "", .nd (.lst f) (ss.map .str)] = some (.bl (ss.any fun y => y == "")) := by
  have h1 : (ss.map D.str).all isAt = true := by rw [List.all_map]; exact List.all_eq_true.mpr fun _ _ => rfl
  show ((if isAt (.str "") && (ss.map D.str).all isAt then some ((ss.map D.str).any fun y => eqA y (.str "")) else none).map D.bl) = _
  rw [h1, List.any_map]
  rfl
theorem add_str {a b : Str} {n m : Nat} (ha : OkS a n) (hb : OkS b m) (h : n + m ≤ 1000000) : pAdd [.str a, .str b] = some (.str (a ++ b)) ∧ OkS (a ++ b) (n + m) := by
  have hl : (a ++ b).length = a.length + b.length := Str.length_append a b
  refine ⟨?_, ?_, fun c hc => ?_⟩
  · show (if a.length + b.length ≤ sizeLine then _ else _) = _
    exact if_pos (Nat.le_trans (m := 1000000) (by have := ha.len; have := hb.len; omega) (by decide))
  · rw [hl]; have := ha.len; have := hb.len; omega
  · have hc : c ∈ (a.cps ++ b.cps).toList := hc
    rw [Array.toList_append, List.mem_append] at hc
    exact hc.elim (ha.ok c) (hb.ok c)
def rep (z : Str) (k : Nat) : Str := ⟨(List.replicate k z.cps.toList).flatten.toArray⟩
theorem rep_len {z : Str} {k : Nat} (h : z.length = 1) : (rep z k).length = k := by
  show ((List.replicate k z.cps.toList).flatten.toArray).size = k
  have : z.cps.toList.length = 1 := by rw [Array.length_toList]; exact h
  rw [List.size_toArray, List.length_flatten, List.map_replicate, List.sum_replicate_nat, this]
  omega
theorem mul_rep {z : Str} {k : Nat} (h : z.length = 1) (hk : 2 ≤ k) (hk2 : k ≤ 10000) : pMul [.str z, .int k] = some (.str (rep z k)) := by
  have h30 : (k : Int) < 2 ^ 30 := Int.lt_of_le_of_lt (b := 10000) (by omega) (by decide)
  show (if z.length * (k : Int).toNat ≤ sizeLine ∧ 2 ≤ (k : Int) ∧ (k : Int) < 2 ^ 30 ∧ 1 ≤ z.length then some (D.str ⟨(List.replicate (k : Int).toNat z.cps.toList).flatten.toArray⟩) else none) = _
  rw [if_pos ⟨by rw [h]; exact Nat.le_trans (m := 10000) (by simp; omega) (by decide), by omega, h30, by omega⟩]
  rfl
theorem sSeq_assoc {a b r : Mst} {ρ : En} : sSeq a (sSeq b r) ρ = sSeq (sSeq a b) r ρ := by
  unfold sSeq
  cases a ρ with
  | none => rfl
  | some p =>
    obtain ⟨o, ρ1⟩ := p
    cases o <;> rfl
end OB

namespace OB
open PySem PySem.Spec PyProof.Rows L2 PySem.NumText
class Bd (i : Int) (n : outParam Nat) : Prop where lt : i.natAbs < 2 ^ n
theorem Bd.mono {i : Int} {n m : Nat} (h : Bd i n) (l : n ≤ m) : Bd i m := ⟨Nat.lt_of_lt_of_le h.lt (Nat.pow_le_pow_right (by decide) l)⟩
instance bd_lit {k : Nat} : Bd (no_index (OfNat.ofNat k : Int)) (k.log2 + 1) := ⟨by
  show (Int.natAbs ((k:Nat):Int)) < _
  simpa using Nat.lt_log2_self⟩
instance bd_neg {i : Int} {n : Nat} [a : Bd i n] : Bd (-i) n := ⟨by rw [Int.natAbs_neg]; exact a.lt⟩
instance bd_mod {i : Int} {k : Nat} [h : NeZero k] : Bd (i % (no_index (OfNat.ofNat k : Int))) (k.log2 + 1) := ⟨by
  have h1 : 0 ≤ i % ((k : Nat) : Int) := Int.emod_nonneg _ (by have := h.out; omega)
  have h2 : i % ((k : Nat) : Int) < k := Int.emod_lt_of_pos _ (by have := h.out; omega)
  have h3 : k < 2 ^ (k.log2 + 1) := Nat.lt_log2_self
  show (i % ((k:Nat):Int)).natAbs < _
  omega⟩
instance bd_div {i j : Int} {n : Nat} [a : Bd i n] : Bd (i / j) n := ⟨Nat.lt_of_le_of_lt (Int.natAbs_ediv_le_natAbs _ _) a.lt⟩
instance bd_mul {i j : Int} {n m : Nat} [a : Bd i n] [b : Bd j m] : Bd (i * j) (n + m) := ⟨by
  rw [Int.natAbs_mul, Nat.pow_add]
  exact Nat.mul_lt_mul'' a.lt b.lt⟩
theorem bd_two {a b n m : Nat} (h1 : a < 2 ^ n) (h2 : b < 2 ^ m) : a + b < 2 ^ (max n m + 1) := by
  have h3 : 2 ^ n ≤ 2 ^ max n m := Nat.pow_le_pow_right (by decide) (Nat.le_max_left _ _)
  have h4 : 2 ^ m ≤ 2 ^ max n m := Nat.pow_le_pow_right (by decide) (Nat.le_max_right _ _)
  rw [Nat.pow_succ]
  omega
instance bd_add {i j : Int} {n m : Nat} [a : Bd i n] [b : Bd j m] : Bd (i + j) (max n m + 1) := ⟨by
  have := bd_two a.lt b.lt
  omega⟩
instance bd_sub {i j : Int} {n m : Nat} [a : Bd i n] [b : Bd j m] : Bd (i - j) (max n m + 1) := ⟨by
  have := bd_two a.lt b.lt
  omega⟩
instance bd_abs {i : Int} {n : Nat} [a : Bd i n] : Bd ((i.natAbs : Nat) : Int) n := ⟨by simpa using a.lt⟩
theorem bd_of {i : Int} {n : Nat} (h : i.natAbs < 2 ^ n) : Bd i n := ⟨h⟩
theorem bd_range {i c : Int} {n : Nat} (h : -c ≤ i ∧ i ≤ c) (hc : c.natAbs < 2 ^ n) : Bd i n := ⟨by omega⟩
theorem Bd.log {i : Int} {n : Nat} (h : Bd i n) : i.natAbs.log2 ≤ n := by
  by_cases e : i.natAbs = 0
  · rw [e]; exact Nat.zero_le _
  · exact Nat.le_of_lt ((Nat.log2_lt e).mpr h.lt)

/-! ### rows -/
@[simp] theorem addI {i j : Int} : pAdd [.int i, .int j] = some (.int (i + j)) := rfl
@[simp] theorem subI {i j : Int} : pSub [.int i, .int j] = some (.int (i - j)) := rfl
@[simp] theorem negI {i : Int} : pNeg [.int i] = some (.int (-i)) := rfl
@[simp] theorem absI {i : Int} : pAbs [.int i] = some (.int (i.natAbs : Nat)) := by
  show some (D.int (if i < 0 then -i else i)) = _
  congr 2
  split <;> omega
@[simp] theorem mulI {i j : Int} {n m : Nat} [a : Bd i n] [b : Bd j m] (h : n + m ≤ 134217728) : pMul [.int i, .int j] = some (.int (i * j)) := mul_int a.lt b.lt h
@[simp] theorem modI {i j : Int} (h : 0 < j) : pMod [.int i, .int j] = some (.int (i % j)) := mod_int h
theorem divB {i j : Int} {m : Nat} (b : Bd j m) (h : 0 < j) (hm : m < 9000) : pDiv [.int i, .int j] = some (.int (i / j)) := by
  have : divOk j = true := by
    unfold divOk
    rw [Bool.and_eq_true]
    exact ⟨decide_eq_true (by omega), decide_eq_true (Nat.lt_of_le_of_lt b.log hm)⟩
  show (if divOk j = true then some (D.int (divV i j)) else none) = _
  rw [if_pos this]
  unfold divV
  rw [if_pos h]
@[simp] theorem divI {i j : Int} {m : Nat} [b : Bd j m] (h : 0 < j) (hm : m < 9000) : pDiv [.int i, .int j] = some (.int (i / j)) := divB b h hm
@[simp] theorem powI {i j : Int} (h : powOk i j = true) : pPow [.int i, .int j] = some (.int (i ^ j.toNat)) := by
  show (if powOk i j = true then _ else _) = _
  exact if_pos h
@[simp] theorem ltI {i j : Int} : pLt [.int i, .int j] = some (.bl (decide (i < j))) := rfl
@[simp] theorem leI {i j : Int} : pLe [.int i, .int j] = some (.bl (decide (i ≤ j))) := rfl
@[simp] theorem gtI {i j : Int} : pGt [.int i, .int j] = some (.bl (decide (j < i))) := rfl
@[simp] theorem geI {i j : Int} : pGe [.int i, .int j] = some (.bl (decide (j ≤ i))) := rfl
@[simp] theorem eqI {i j : Int} : pEq [.int i, .int j] = some (.bl (decide (i = j))) := rfl
@[simp] theorem neI {i j : Int} : pNe [.int i, .int j] = some (.bl (!decide (i = j))) := rfl
@[simp] theorem eqS {i j : Str} : pEq [.str i, .str j] = some (.bl (decide (i = j))) := rfl
@[simp] theorem neS {i j : Str} : pNe [.str i, .str j] = some (.bl (!decide (i = j))) := rfl
@[simp] theorem eqB {i j : Bool} : pEq [.bl i, .bl j] = some (.bl (i == j)) := rfl
@[simp] theorem neB {i j : Bool} : pNe [.bl i, .bl j] = some (.bl (!(i == j))) := rfl
@[simp] theorem isNonI {i : Int} : pIs [.int i, .non] = some (.bl false) := rfl
@[simp] theorem isNonS {i : Str} : pIs [.str i, .non] = some (.bl false) := rfl
@[simp] theorem isNonB {i : Bool} : pIs [.bl i, .non] = some (.bl false) := rfl
@[simp] theorem isNonN : pIs [.non, .non] = some (.bl true) := rfl
@[simp] theorem isNonD {k : Kd} {ds : List D} : pIs [.nd k ds, .non] = some (.bl false) := rfl
@[simp] theorem isNNonI {i : Int} : pIsN [.int i, .non] = some (.bl true) := rfl
@[simp] theorem isNNonS {i : Str} : pIsN [.str i, .non] = some (.bl true) := rfl
@[simp] theorem isNNonB {i : Bool} : pIsN [.bl i, .non] = some (.bl true) := rfl
@[simp] theorem isNNonN : pIsN [.non, .non] = some (.bl false) := rfl
@[simp] theorem isNNonD {k : Kd} {ds : List D} : pIsN [.nd k ds, .non] = some (.bl true) := rfl
@[simp] theorem isBB {a b : Bool} : pIs [.bl a, .bl b] = some (.bl (decide (a = b))) := rfl
@[simp] theorem isNBB {a b : Bool} : pIsN [.bl a, .bl b] = some (.bl (!decide (a = b))) := rfl
@[simp] theorem intB {b : Bool} : pInt4 [.bl b] = some (.int (if b then 1 else 0)) := rfl
@[simp] theorem intI {b : Int} : pInt4 [.int b] = some (.int b) := rfl
@[simp] theorem lstR {ds : List D} (h : ds.length ≤ 16777216) : pLst ds = some (.nd (.lst .own) ds) := if_pos h
@[simp] theorem tupR {ds : List D} (h : ds.length ≤ 16777216) : pTup ds = some (.nd .tup ds) := if_pos h
@[simp] theorem lenL {f : Fl} {ds : List D} : pLen [.nd (.lst f) ds] = some (.int ds.length) := rfl
@[simp] theorem lenT {ds : List D} : pLen [.nd .tup ds] = some (.int ds.length) := rfl
@[simp] theorem lenD {f : Fl} {ks : List Key} {ds : List D} : pLen [.nd (.dct f ks) ds] = some (.int ks.length) := rfl
@[simp] theorem lenS {s : Str} (h : s.length ≤ 16777216) : pLen [.str s] = some (.int s.length) := len_str h
theorem ixT {ds : List D} {k : Nat} {d : D} (h : ds[k]? = some d) : pIx [.nd .tup ds, .int k] = some d := by
  have hl := (List.getElem?_eq_some_iff.mp h).1
  show atI _ _ = _
  unfold atI ixN
  rw [if_pos (by omega), if_pos (by omega)]
  simpa using h
theorem ixL {f : Fl} {ds : List D} {k : Nat} {d : D} (h : ds[k]? = some d) : pIx [.nd (.lst f) ds, .int k] = some d := by
  have hl := (List.getElem?_eq_some_iff.mp h).1
  show atI _ _ = _
  unfold atI ixN
  rw [if_pos (by omega), if_pos (by omega)]
  simpa using h
@[simp] theorem ixT0 {a : D} {r : List D} : pIx [.nd .tup (a :: r), .int 0] = some a := ixT (k := 0) rfl
@[simp] theorem ixT1 {a b : D} {r : List D} : pIx [.nd .tup (a :: b :: r), .int 1] = some b := ixT (k := 1) rfl
@[simp] theorem ixT2 {a b c : D} {r : List D} : pIx [.nd .tup (a :: b :: c :: r), .int 2] = some c := ixT (k := 2) rfl
@[simp] theorem ixT3 {a b c d : D} {r : List D} : pIx [.nd .tup (a :: b :: c :: d :: r), .int 3] = some d := ixT (k := 3) rfl
@[simp] theorem ixL0 {f : Fl} {a : D} {r : List D} : pIx [.nd (.lst f) (a :: r), .int 0] = some a := ixL (k := 0) rfl
@[simp] theorem ixL1 {f : Fl} {a b : D} {r : List D} : pIx [.nd (.lst f) (a :: b :: r), .int 1] = some b := ixL (k := 1) rfl
/-- a drawn one of some numbers, texts -/
theorem pick_int {f : Fl} {vs : List Int} {k : Int} (h0 : 0 ≤ k) (h1 : k < vs.length) : ∃ v ∈ vs, pIx [.nd (.lst f) (vs.map .int), .int k] = some (.int v) := by
  obtain ⟨d, hd, e⟩ := at_lst (f := f) (ds := vs.map .int) h0 (by simpa using h1)
  obtain ⟨v, hv, rfl⟩ := List.mem_map.mp hd
  exact ⟨v, hv, e⟩
theorem pick_str {f : Fl} {vs : List Str} {k : Int} (h0 : 0 ≤ k) (h1 : k < vs.length) : ∃ v ∈ vs, pIx [.nd (.lst f) (vs.map .str), .int k] = some (.str v) := by
  obtain ⟨d, hd, e⟩ := at_lst (f := f) (ds := vs.map .str) h0 (by simpa using h1)
  obtain ⟨v, hv, rfl⟩ := List.mem_map.mp hd
  exact ⟨v, hv, e⟩
/-- texts as wholes -/
theorem lit_eq (s : String) : (Str.ofString s).cps.toList = s.toList.map Char.toNat := by
  rw [Str.ofString_eq_toList]
theorem lit_len (s : String) : (Str.ofString s).length = s.length := by
  rw [← sgs_len]
  unfold sgs
  rw [lit_eq, List.length_map, String.length_toList]
theorem lit_ok (s : String) : OkS (Str.ofString s) s.length := ⟨Nat.le_of_eq (lit_len s), fun c hc => by
  rw [lit_eq] at hc
  obtain ⟨d, _, rfl⟩ := List.mem_map.mp hc
  have := d.valid
  rcases this with h | h
  · exact Nat.lt_trans h (by decide)
  · exact h.2⟩
theorem OkS.mono {s : Str} {n m : Nat} (h : OkS s n) (l : n ≤ m) : OkS s m := ⟨Nat.le_trans h.len l, h.ok⟩
end OB
namespace OB
open PySem PySem.Spec PyProof.Rows L2
section
variable {t : En → Ot Bool} {b : Mst}
theorem whileL_step {n : Nat} {ρ ρ2 : En} {r : Option (Out × En)} (ht : t ρ = .ok true) (hb : b ρ = some (.nx, ρ2)) (hr : whileL t b n ρ2 = r) : whileL t b (n + 1) ρ = r := by
  rw [whileL, ht]
  dsimp only
  rw [if_pos rfl, hb]
  exact hr
theorem whileL_stop {ρ : En} (ht : t ρ = .ok false) : whileL t b 1 ρ = some (.nx, ρ) := by
  rw [whileL, ht]
  rfl
/-- a while by a state and a number that falls -/
theorem sWhile_run {α : Type} (st fin : α → En) (μ : α → Nat) (P : α → Prop) (h : ∀ a, P a → (t (st a) = .ok false ∧ fin a = st a) ∨ (t (st a) = .ok true ∧ ∃ a', b (st a) = some (.nx, st a') ∧ P a' ∧ μ a' < μ a ∧ fin a = fin a')) : ∀ a, P a → sWhile t b (st a) = some (.nx, fin a) := by
  have key : ∀ (n : Nat) (a : α), μ a < n → P a → ∃ N, whileL t b N (st a) = some (.nx, fin a) := by
    intro n
    induction n with
    | zero => exact fun a h => absurd h (by omega)
    | succ n ih =>
      intro a hn hP
      rcases h a hP with ⟨h1, h2⟩ | ⟨h1, a', h2, h3, h4, h5⟩
      · exact ⟨1, by rw [h2]; exact whileL_stop h1⟩
      · obtain ⟨N, e⟩ := ih a' (by omega) h3
        exact ⟨N + 1, by rw [h5]; exact whileL_step h1 h2 e⟩
  intro a hP
  obtain ⟨N, e⟩ := key (μ a + 1) a (by omega) hP
  exact sWhile_of e
end
@[simp] theorem sPar_eq {is : List Nat} {fs : List (En → Ot D)} {ρ : En} : sPar is fs ρ = match eL fs ρ with
  | .no => none
  | .ok ds => if ds.all noT && ds.length == is.length then some (.nx, (is.zip ds).foldl (fun ρ p => ρ.set p.1 (some p.2)) ρ) else none
  | .ex x => some (.ex x, ρ) := rfl
end OB
namespace OB
open PySem PySem.Spec PyProof.Rows L2
/-! ### equality of tuples, lists of numbers -/
theorem toPyL_ints : ∀ ss : List Int, toPyL (ss.map .int) = some (ss.map .int)
  | [] => rfl
  | s :: ss => by
    rw [List.map_cons, toPyL, toPyL_ints ss]; rfl
theorem canLay_ints : ∀ ss : List Int, PyData.canLayAll0 (ss.map .int) = true
  | [] => rfl
  | s :: ss => by rw [List.map_cons, PyData.canLayAll0, canLay_ints ss]; rfl
theorem depth_ints : ∀ ss : List Int, PyData.depthAll (ss.map .int) = 0
  | [] => rfl
  | s :: ss => by rw [List.map_cons, PyData.depthAll, depth_ints ss]; rfl
theorem eqvAll_ints : ∀ ss tt : List Int, PyData.eqvAll (ss.map .int) (tt.map .int) = decide (ss = tt)
  | [], [] => by simp [PyData.eqvAll]
  | [], t :: tt => by simp [PyData.eqvAll]
  | s :: ss, [] => by simp [PyData.eqvAll]
  | s :: ss, t :: tt => by
    rw [List.map_cons, List.map_cons, PyData.eqvAll, eqvAll_ints ss tt, PyData.eqv]
    by_cases h1 : s = t <;> by_cases h2 : ss = tt <;> simp [h1, h2]
theorem deepEq_tupI (ss tt : List Int) : deepEq (.nd .tup (ss.map .int)) (.nd .tup (tt.map .int)) = some (decide (ss = tt)) := by
  unfold deepEq
  rw [toPy, toPy, toPyL_ints, toPyL_ints]
  simp only [Option.map_some, Option.bind_some, SeqAt.shaped, PyData.canLay0, PyData.depth, canLay_ints, depth_ints, PyData.eqv, eqvAll_ints]
  rfl
theorem deepEq_lstI (f g : Fl) (ss tt : List Int) : deepEq (.nd (.lst f) (ss.map .int)) (.nd (.lst g) (tt.map .int)) = some (decide (ss = tt)) := by
  unfold deepEq
  rw [toPy, toPy, toPyL_ints, toPyL_ints]
  simp only [Option.map_some, Option.bind_some, SeqAt.shaped, PyData.canLay0, PyData.depth, canLay_ints, depth_ints, PyData.eqv, eqvAll_ints]
  rfl
@[simp] theorem eqT2 {a b c d : Int} : pEq [.nd .tup [.int a, .int b], .nd .tup [.int c, .int d]] = some (.bl (decide (a = c) && decide (b = d))) := by
  unfold pEq
  simp only [atEq, Option.none_or]
  rw [show deepEq (.nd .tup [.int a, .int b]) (.nd .tup [.int c, .int d]) = _ from deepEq_tupI [a, b] [c, d]]
  by_cases h1 : a = c <;> by_cases h2 : b = d <;> simp [h1, h2]
@[simp] theorem neT2 {a b c d : Int} : pNe [.nd .tup [.int a, .int b], .nd .tup [.int c, .int d]] = some (.bl (!(decide (a = c) && decide (b = d)))) := by
  unfold pNe
  simp only [atEq, Option.none_or]
  rw [show deepEq (.nd .tup [.int a, .int b]) (.nd .tup [.int c, .int d]) = _ from deepEq_tupI [a, b] [c, d]]
  by_cases h1 : a = c <;> by_cases h2 : b = d <;> simp [h1, h2]
@[simp] theorem eqLnil {f g : Fl} : pEq [.nd (.lst f) [], .nd (.lst g) []] = some (.bl true) := by
  unfold pEq
  simp only [atEq, Option.none_or]
  rw [show deepEq (.nd (.lst f) []) (.nd (.lst g) []) = _ from deepEq_lstI f g [] []]
  rfl
@[simp] theorem neLnil {f g : Fl} : pNe [.nd (.lst f) [], .nd (.lst g) []] = some (.bl false) := by
  unfold pNe
  simp only [atEq, Option.none_or]
  rw [show deepEq (.nd (.lst f) []) (.nd (.lst g) []) = _ from deepEq_lstI f g [] []]
  rfl
@[simp] theorem forL_nil {tg : D → En → Option En} {b : Mst} {ρ : En} : forL tg b [] ρ = some (.nx, ρ) := rfl
@[simp] theorem compL_nil {tg : D → En → Option En} {c : En → Ot Bool} {f : En → Ot D} {ρ : En} : compL tg c f ρ [] = some [] := rfl
theorem compL_cons {tg : D → En → Option En} {c : En → Ot Bool} {f : En → Ot D} {ρ : En} {d : D} {ds : List D} : compL tg c f ρ (d :: ds) = (tg d ρ).bind fun ρ1 => match c ρ1 with
    | .ok true => (match f ρ1 with
      | .ok y => (compL tg c f ρ ds).map (y :: ·)
      | _ => none)
    | .ok false => compL tg c f ρ ds
    | _ => none := rfl
theorem eComp_eq {it : En → Ot Its'} {tg : D → En → Option En} {c : En → Ot Bool} {f : En → Ot D} {vs : List Nat} {ρ : En} : eComp it tg c f vs ρ = (it ρ).bind fun p => match compL tg c f (wipeE ρ vs) p.1 with
    | some ys => if ys.length ≤ sizeLine then .ok (.nd (.lst .own) ys) else .no
    | none => .no := rfl
@[simp] theorem tgName_eq {i : Nat} {d : D} {ρ : En} : tgName i d ρ = some (ρ.set i (some d)) := rfl
@[simp] theorem itemsT {ds : List D} : itemsD (.nd .tup ds) = some (ds.map toFrz, ds.all noT) := rfl
@[simp] theorem itemsL {f : Fl} {ds : List D} : itemsD (.nd (.lst f) ds) = some (ds.map toFrz, f != .tmp && ds.all noT) := rfl
@[simp] theorem wipe1 {ρ : En} {i : Nat} : wipeE ρ [i] = ρ.set i none := rfl
@[simp] theorem wipe2 {ρ : En} {i j : Nat} : wipeE ρ [i, j] = (ρ.set j none).set i none := rfl
end OB

namespace OB
open PySem PySem.Spec PyProof.Rows L2
section
variable {K : PySem.W.Frag} {cm : Cm} {H H' : Hp} {Z Z' : Zn}
theorem Rep.focusO : ∀ (js : List Nat) {d : D} {v : V} {F : List Addr} {d0 : D}, Rep K cm H Z d v F → getP d js = some d0 → ∃ v0 F0 A B, F = A ++ F0 ++ B ∧ Rep K cm H Z d0 v0 F0 ∧
    ∀ (O : Addr → Prop) (H' : Hp) (Z' : Zn) (d1 : D) (F1 : List Addr), (∀ x ∈ A, ¬ O x) → (∀ x ∈ B, ¬ O x) → CellMove K cm H H' Z Z' id (fun a => ¬ O a) → Rep K cm H' Z' d1 v0 F1 → Rep K cm H' Z' (putP d js d1) v (A ++ F1 ++ B)
  | [], d, v, F, d0, h, e => by
    simp only [getP, Option.some.injEq] at e
    subst e
    exact ⟨v, F, [], [], by simp, h, fun O H' Z' d1 F1 _ _ _ r => by simpa [putP] using r⟩
  | j :: js, .nd k ds, v, F, d0, h, e => by
    obtain ⟨a, vs, Fs, rfl, c, l, rfl⟩ := h
    unfold getP at e
    cases ej : ds[j]? with
    | none => rw [ej] at e; cases e
    | some dj =>
      rw [ej] at e
      obtain ⟨vj, Fj, A, B, e1, e2, r, kk⟩ := RepL.focus ds l ej
      obtain ⟨v0, F0, A2, B2, e3, r0, k2⟩ := Rep.focusO js r e
      refine ⟨v0, F0, ownA k a ++ A ++ A2, B2 ++ B, by rw [e2, e3]; simp, r0, fun O H' Z' d1 F1 hA hB mv r1 => ?_⟩
      have hA1 : ∀ x ∈ A, ¬ O x := fun x q => hA x (by simp [q])
      have hA2 : ∀ x ∈ A2, ¬ O x := fun x q => hA x (by simp [q])
      have hB2 : ∀ x ∈ B2, ¬ O x := fun x q => hB x (by simp [q])
      have hB1 : ∀ x ∈ B, ¬ O x := fun x q => hB x (by simp [q])
      obtain ⟨Gs, g1, g2⟩ := kk H' Z' (putP dj js d1) (A2 ++ F1 ++ B2) (fun d v F h hF => h.stay mv fun x q => (hF x q).elim (hA1 x) (hB1 x)) (k2 O H' Z' d1 F1 hA2 hB2 mv r1)
      have cc := mv a k vs c (fun q => hA a (by unfold ownA; rw [if_pos q]; simp))
      rw [Kd.mapF_id] at cc
      refine (show Rep K cm H' Z' (putP (.nd k ds) (j :: js) d1) (.ref a) _ from ?_)
      unfold putP
      dsimp only
      rw [ej]
      exact ⟨a, vs, Gs, rfl, cc, g2, by rw [g1]; simp⟩
  | _ :: _, .non, _, _, _, _, e => by simp [getP] at e
  | _ :: _, .bl _, _, _, _, _, e => by simp [getP] at e
  | _ :: _, .int _, _, _, _, _, e => by simp [getP] at e
  | _ :: _, .str _, _, _, _, _, e => by simp [getP] at e
theorem slots_apart : ∀ {Fs : List (List Addr)} {i j : Nat} {F G : List Addr} {p : Addr}, Fs.flatten.Nodup → Fs[i]? = some F → Fs[j]? = some G → i ≠ j → p ∈ F → p ∈ G → False
  | [], _, _, _, _, _, _, e, _, _, _, _ => by simp at e
  | X :: Fs, i, j, F, G, p, nd, e1, e2, ne, h1, h2 => by
    rw [List.flatten_cons, List.nodup_append] at nd
    cases i with
    | zero =>
      cases j with
      | zero => exact ne rfl
      | succ j =>
        cases e1
        exact nd.2.2 p h1 p (flat_mem (by simpa using e2) h2) rfl
    | succ i =>
      cases j with
      | zero =>
        cases e2
        exact nd.2.2 p h2 p (flat_mem (by simpa using e1) h1) rfl
      | succ j => exact slots_apart nd.2.1 (by simpa using e1) (by simpa using e2) (fun q => ne (by rw [q])) h1 h2
end

/-! ### the promise -/
def lentM (H : Hp) (f : Addr → Prop) (O : List Addr) : Zn := ⟨f, fun a => H a ≠ none ∧ a ∉ O, fun _ => False⟩
structure MEnd (K : PySem.W.Frag) (cm : Cm) (H : Hp) (f : Addr → Prop) (O : List Addr) (ws : List V) (H' : Hp) (f' : Addr → Prop) (es : List D) (Es : List (List Addr)) (Fv : List Addr) : Prop where
  keep : Kept H O H'
  fm : ∀ a, f a → f' a
  fn : ∀ a, f' a → f a ∨ a ∈ O ∨ H a = none
  fd : ∀ a, f' a → H' a ≠ none
  rep : RepL K cm H' ⟨f', (lentM H f O).b, fun _ => False⟩ es ws Es
  nd : (Es.flatten ++ Fv).Nodup
  org : ∀ a ∈ Es.flatten ++ Fv, a ∈ O ∨ H a = none
  nf : ∀ a ∈ Es.flatten ++ Fv, ¬ f' a
abbrev MM := List D → Option (Ot D × List D)
def FinM (K : PySem.W.Frag) (cm : Cm) (ws : List V) (H : Hp) (f : Addr → Prop) (O : List Addr) (Q : VK) (E : XK) : Option (Ot D × List D) → Prop
  | none => False
  | some (.no, _) => False
  | some (.ok d, es) => ∀ v H' f' Es F, MEnd K cm H f O ws H' f' es Es F → Rep K cm H' ⟨f', (lentM H f O).b, fun _ => False⟩ d v F → Q v H'
  | some (.ex x, es) => ∀ cls dd H' f' Es, MEnd K cm H f O ws H' f' es Es [] → XRep K cm H' ⟨f', (lentM H f O).b, fun _ => False⟩ x cls dd → E cls dd H'
/-- the arguments at mt may be changed -/
def spM (K : PySem.W.Frag) (cm : Cm) (n : Nat) (mt : List Nat) (m : MM) : Sp := fun vs H Q E => ∃ f ds Gs, (∀ a, f a → H a ≠ none) ∧ ds.length = n ∧ RepL K cm H (lentM H f Gs.flatten) ds vs Gs ∧ Gs.flatten.Nodup ∧ (∀ a ∈ Gs.flatten, ¬ f a) ∧
  FinM K cm (mt.filterMap (vs[·]?)) H f Gs.flatten Q E (m ds)
theorem spM_len {K : PySem.W.Frag} {cm : Cm} {n : Nat} {mt : List Nat} {m : MM} {vs : List V} {H : Hp} {Q : VK} {E : XK} (h : spM K cm n mt m vs H Q E) : vs.length = n := by
  obtain ⟨f, ds, Gs, _, e, r, _⟩ := h
  rw [r.len.1, e]
/-! ### the body -/
def grab : List Nat → En → Option (List D)
  | [], _ => some []
  | i :: is, ρ => match ρ[i]? with
    | some (some d) => (grab is ρ).map (d :: ·)
    | _ => none
def bodyMM (n : Nat) (mt : List Nat) (g : Mst) : MM := fun ds => match g (initE n ds) with
  | some (.nx, ρ) => (grab mt ρ).map fun es => (.ok .non, es)
  | some (.ret d, ρ) => (grab mt ρ).map fun es => (.ok d, es)
  | some (.ex x, ρ) => (grab mt ρ).map fun es => (.ex x, es)
  | _ => none
section
variable {P : Program} {w : World} {K : PySem.W.Frag} {mg : Str → Option Value} {base : Heap} {cm : Cm}
theorem grab_rep {H : Hp} {Z : Zn} {σ : L2.St} {ρ : En} {Fs : List (List Addr)} (r : RepE K cm H Z σ ρ Fs) (nd : Fs.flatten.Nodup) {vs : List V} : ∀ {mt : List Nat} {es : List D}, mt.Nodup → (∀ i ∈ mt, i < vs.length ∧ σ[i]? = some vs[i]?) → grab mt ρ = some es →
    ∃ Es, RepL K cm H Z es (mt.filterMap (vs[·]?)) Es ∧ Es.flatten.Nodup ∧ ∀ a ∈ Es.flatten, ∃ i ∈ mt, ∃ F, Fs[i]? = some F ∧ a ∈ F
  | [], _, _, _, e => by cases e; exact ⟨[], repL_nil, List.nodup_nil, fun _ h => nomatch h⟩
  | i :: mt, es, n, h, e => by
    unfold grab at e
    split at e
    · rename_i d hd
      cases q : grab mt ρ with
      | none => rw [q] at e; cases e
      | some es' =>
        rw [q] at e
        cases e
        obtain ⟨n1, n2⟩ := List.nodup_cons.mp n
        obtain ⟨Es, g1, g2, g3⟩ := grab_rep r nd n2 (fun j hj => h j (List.mem_cons_of_mem _ hj)) q
        obtain ⟨v, F, a1, a2, a3⟩ := r.get i d hd
        obtain ⟨b1, b2⟩ := h i List.mem_cons_self
        have ev : vs[i]? = some v := by
          rw [b2] at a1
          exact Option.some.inj a1
        refine ⟨F :: Es, ?_, ?_, fun a ha => ?_⟩
        · rw [List.filterMap_cons, ev]
          exact repL_cons a3 g1
        · rw [List.flatten_cons, List.nodup_append]
          refine ⟨(nd.sublist (flatten_get a2)), g2, fun x hx y hy exy => ?_⟩
          subst exy
          obtain ⟨j, hj, G, c1, c2⟩ := g3 x hy
          exact slots_apart nd a2 c1 (fun q => n1 (q ▸ hj)) hx c2
        · rw [List.flatten_cons] at ha
          rcases List.mem_append.mp ha with ha | ha
          · exact ⟨i, List.mem_cons_self, F, a2, ha⟩
          · obtain ⟨j, hj, G, c⟩ := g3 a ha
            exact ⟨j, List.mem_cons_of_mem _ hj, G, c⟩
    · cases e
theorem init_okM {H : Hp} {f : Addr → Prop} {ds : List D} {vs : List V} {Gs : List (List Addr)} {N : List Str} (hf : ∀ a, f a → H a ≠ none) (r : RepL K cm H (lentM H f Gs.flatten) ds vs Gs) (nd : Gs.flatten.Nodup) (nf : ∀ a ∈ Gs.flatten, ¬ f a) :
    ∃ Fs, Fs.flatten = Gs.flatten ∧ Ok K cm H (start N vs) (initE N.length ds) Fs (lentM H f Gs.flatten) := by
  have fl : (Gs ++ List.replicate (N.length - ds.length) ([] : List Addr)).flatten = Gs.flatten := by
    rw [List.flatten_append]
    have : (List.replicate (N.length - ds.length) ([] : List Addr)).flatten = [] := by
      induction N.length - ds.length with
      | zero => rfl
      | succ n ih => rw [List.replicate_succ, List.flatten_cons, ih]; rfl
    rw [this, List.append_nil]
  obtain ⟨l1, l2⟩ := r.len
  refine ⟨_, fl, ⟨⟨?_, ?_, ?_⟩, ⟨hf, fun _ h => h.1, fun _ h => h.elim⟩, (by rw [fl]; exact RepL.mut ds r), (by rw [fl]; exact nd), (by rw [fl]; exact fun a h => ⟨nf a h, fun q => q.2 h⟩), fun _ h => h⟩⟩
  · simp [L2.start, initE, l1]
  · simp [initE, l1, l2]
  · intro i d q
    unfold L2.start
    unfold initE at q
    by_cases hi : i < ds.length
    · rw [List.getElem?_append_left (by simpa using hi), List.getElem?_map] at q
      cases qd : ds[i]? with
      | none => rw [qd] at q; cases q
      | some d' =>
        rw [qd] at q
        cases q
        obtain ⟨v, F, a, b, c⟩ := r.get qd
        refine ⟨v, F, ?_, ?_, c⟩
        · rw [List.getElem?_append_left (by rw [List.length_map, l1]; exact hi), List.getElem?_map, a]; rfl
        · rw [List.getElem?_append_left (by rw [l2]; exact hi), b]
    · rw [List.getElem?_append_right (by simp; omega), List.getElem?_replicate] at q
      split at q <;> cases q
theorem body_finM {H : Hp} {f : Addr → Prop} {ds : List D} {vs : List V} {Gs : List (List Addr)} {N : List Str} {mt : List Nat} {g : Mst} {Q : VK} {E : XK} (hf : ∀ a, f a → H a ≠ none) (r : RepL K cm H (lentM H f Gs.flatten) ds vs Gs) (nd : Gs.flatten.Nodup) (nf : ∀ a ∈ Gs.flatten, ¬ f a)
    (hmt : mt.Nodup) (hm : ∀ i ∈ mt, i < vs.length) (q : FinM K cm (mt.filterMap (vs[·]?)) H f Gs.flatten Q E (bodyMM N.length mt g ds)) : tS K cm (fun cls dd _ H' => E cls dd H') mt g { nx := fun _ H' => Q .non H', rt := Q } (start N vs) H := by
  obtain ⟨Fs, fl, ok0⟩ := init_okM (N := N) hf r nd nf
  refine ⟨_, _, _, ok0, ?_⟩
  have ze : ∀ {σ' H' Z' Fs' ρ'}, SStep mt (start N vs) H (lentM H f Gs.flatten) Fs σ' H' Z' Fs' → Ok K cm H' σ' ρ' Fs' Z' → Z' = ⟨Z'.f, (lentM H f Gs.flatten).b, fun _ => False⟩ := fun {σ' H' Z' Fs' ρ'} s ok => by
    have h1 := s.b
    have h2 : Z'.t = fun _ => False := funext fun a => propext ⟨ok.t a, fun h => h.elim⟩
    cases Z'
    simp only at h1 h2
    rw [h1, h2]
  have fin : ∀ {σ' H' Z' Fs' ρ' es}, SStep mt (start N vs) H (lentM H f Gs.flatten) Fs σ' H' Z' Fs' → Ok K cm H' σ' ρ' Fs' Z' → grab mt ρ' = some es → ∀ F, (Fs'.flatten ++ F).Nodup → (∀ a ∈ F, ¬ Z'.f a) → (∀ a ∈ F, a ∈ Fs.flatten ∨ H a = none) →
      ∃ Es, MEnd K cm H f Gs.flatten (mt.filterMap (vs[·]?)) H' Z'.f es Es F := fun {σ' H' Z' Fs' ρ' es} s ok he F ndF nfF orF => by
    have zz := ze s ok
    obtain ⟨Es, g1, g2, g3⟩ := grab_rep ok.rep ok.nd hmt (fun i hi => ⟨hm i hi, by
      rw [s.prot i hi]
      unfold L2.start
      rw [List.getElem?_append_left (by simpa using hm i hi), List.getElem?_map]
      rw [List.getElem?_eq_getElem (hm i hi)]
      rfl⟩) he
    have inFs : ∀ a ∈ Es.flatten, a ∈ Fs'.flatten := fun a ha => by
      obtain ⟨i, _, F, c1, c2⟩ := g3 a ha
      exact flat_mem c1 c2
    rw [zz] at g1
    refine ⟨Es, ⟨fun a o h n => s.keep a o h (by rw [fl]; exact n), s.f, fun a h => (s.fn a h).imp id fun h => h.imp (fun q => by rwa [fl] at q) id, ok.dom.f, g1, ?_, fun a ha => ?_, fun a ha => ?_⟩⟩
    · rw [List.nodup_append] at ndF ⊢
      exact ⟨g2, ndF.2.1, fun x hx y hy e => ndF.2.2 x (inFs x hx) y hy e⟩
    · rcases List.mem_append.mp ha with ha | ha
      · exact (s.own a (inFs a ha)).imp (fun q => by rwa [fl] at q) id
      · exact (orF a ha).imp (fun q => by rwa [fl] at q) id
    · rcases List.mem_append.mp ha with ha | ha
      · exact (ok.nz a (inFs a ha)).1
      · exact nfF a ha
  unfold bodyMM at q
  cases e1 : g (initE N.length ds) with
  | none => rw [e1] at q; exact q.elim
  | some p =>
    obtain ⟨o, ρ1⟩ := p
    rw [e1] at q
    intro σ' H' Z' Fs' s ok
    have zz := ze s ok
    cases o with
    | brk => exact q.elim
    | cnt => exact q.elim
    | nx =>
      dsimp only at q
      cases e2 : grab mt ρ1 with
      | none => rw [e2] at q; exact q.elim
      | some es =>
        rw [e2] at q
        obtain ⟨Es, me⟩ := fin s ok e2 [] (by simpa using ok.nd) (fun _ h => nomatch h) (fun _ h => nomatch h)
        exact q .non H' Z'.f Es [] me ⟨rfl, rfl⟩
    | ret d =>
      dsimp only at q
      cases e2 : grab mt ρ1 with
      | none => rw [e2] at q; exact q.elim
      | some es =>
        rw [e2] at q
        intro v F rp ndF nz org
        obtain ⟨Es, me⟩ := fin s ok e2 F ndF (fun a h => (nz a h).1) org
        rw [zz] at rp
        exact q v H' Z'.f Es F me rp
    | ex x =>
      dsimp only at q
      cases e2 : grab mt ρ1 with
      | none => rw [e2] at q; exact q.elim
      | some es =>
        rw [e2] at q
        intro cls dd xr
        obtain ⟨Es, me⟩ := fin s ok e2 [] (by simpa using ok.nd) (fun _ h => nomatch h) (fun _ h => nomatch h)
        rw [zz] at xr
        exact q cls dd H' Z'.f Es me xr
theorem fn_mut {x qual : Str} {st : Stmt} {f : Addr} {fd : FuncData} {N ps : List Str} {mt : List Nat} {k : Nat} {g : Mst} {dvs : List V} {kws : List (Str × V)} (F : FunD K x qual (defArgs st) (defBody st) (defScope st) dvs kws f fd) (S : FnScope N ps (defScope st)) (hmt : mt.Nodup) (hm : ∀ i ∈ mt, i < ps.length)
    (hb : ∀ (cdv : Value) (A : Around) (outer : List Env) (s : Shared) (H : Hp) (E : XK), Room k (A.deeper (envOfC qual (defScope st) s.heap.objs.size f cdv)) →
      SB (cxOf (L2.CX P w) P w K mg base N qual (defScope st) f cdv A outer s H E) cm (fun cls dd _ H' => E cls dd H') mt (defBody st) g) :
    FnOk P w K mg base (L2.CX P w) (k + 1) f fd ps (spM K cm ps.length mt (bodyMM N.length mt g)) :=
  F.ok S (fun _ _ _ _ h => spM_len h) fun cdv A outer s H vs Q E hr h => ⟨_, hb cdv A outer s H E hr, by
    have hv := spM_len h
    obtain ⟨f, ds, Gs, hf, _, r, nd, nf, q⟩ := h
    exact body_finM hf r nd nf hmt (fun i hi => by rw [hv]; exact hm i hi) q⟩
end
end OB

namespace OB
open PySem PySem.Spec PyProof.Rows L2
/-- what stands at a place of the i-th local, and how it is put back -/
structure Foc (K : PySem.W.Frag) (cm : Cm) (H : Hp) (Z : Zn) (v : V) (F : List Addr) (d : D) (js : List Nat) (d0 : D) (v0 : V) (F0 A B : List Addr) : Prop where
  eF : F = A ++ F0 ++ B
  rep : Rep K cm H Z d0 v0 F0
  put : ∀ (O : Addr → Prop) (H' : Hp) (Z' : Zn) (d1 : D) (F1 : List Addr), (∀ x ∈ A, ¬ O x) → (∀ x ∈ B, ¬ O x) → CellMove K cm H H' Z Z' id (fun a => ¬ O a) → Rep K cm H' Z' d1 v0 F1 → Rep K cm H' Z' (putP d js d1) v (A ++ F1 ++ B)
theorem cell_then2 {K : PySem.W.Frag} {cm : Cm} {H H1 H2 : Hp} {Z Z1 Z2 : Zn} {O : Addr → Prop} (m1 : CellMove K cm H H1 Z Z1 id (fun _ => True)) (m2 : CellMove K cm H1 H2 Z1 Z2 id O) : CellMove K cm H H2 Z Z2 id O := fun a k vs h ho => by
  have c1 := m1 a k vs h fun _ => trivial
  rw [Kd.mapF_id] at c1
  exact m2 a k vs c1 ho
section
variable {K : PySem.W.Frag} {cm : Cm} {H H' : Hp} {Z Z' : Zn} {v v0 : V} {F F0 A B : List Addr} {d d0 : D} {js : List Nat}
theorem Foc.move (h : Foc K cm H Z v F d js d0 v0 F0 A B) (m : CellMove K cm H H' Z Z' id (fun _ => True)) : Foc K cm H' Z' v F d js d0 v0 F0 A B :=
  ⟨h.eF, h.rep.stay m fun _ _ => trivial, fun O H2 Z2 d1 F1 a b mv r => h.put O H2 Z2 d1 F1 a b (cell_then2 m mv) r⟩
theorem Rep.foc (r : Rep K cm H Z d v F) (e : getP d js = some d0) : ∃ v0 F0 A B, Foc K cm H Z v F d js d0 v0 F0 A B := by
  obtain ⟨v0, F0, A, B, a, b, c⟩ := Rep.focusO js r e
  exact ⟨v0, F0, A, B, a, b, c⟩
theorem getP_cons {k : Kd} {ds : List D} {j : Nat} {js : List Nat} {dj : D} (e : ds[j]? = some dj) : getP (.nd k ds) (j :: js) = getP dj js := by
  conv => lhs; unfold getP
  rw [e]
theorem getP_one {k : Kd} {es : List D} {j : Nat} : getP (.nd k es) [j] = es[j]? := by
  conv => lhs; unfold getP
  cases es[j]? with
  | none => rfl
  | some z => simp [getP]
theorem putP_one {k : Kd} {es : List D} {j : Nat} {dj x : D} (e : es[j]? = some dj) : putP (.nd k es) [j] x = .nd k (es.set j x) := by
  conv => lhs; unfold putP
  simp only [e]
  simp [putP]
theorem putP_app : ∀ (js ks : List Nat) (d d0 x : D), getP d js = some d0 → putP d (js ++ ks) x = putP d js (putP d0 ks x)
  | [], ks, d, d0, x, h => by
    simp only [getP, Option.some.injEq] at h
    subst h
    simp [putP]
  | j :: js, ks, .nd k ds, d0, x, h => by
    unfold getP at h
    cases e : ds[j]? with
    | none => rw [e] at h; cases h
    | some dj =>
      rw [e] at h
      rw [List.cons_append]
      unfold putP
      dsimp only
      rw [e]
      simp only [putP_app js ks dj d0 x h]
  | _ :: _, _, .non, _, _, h => by simp [getP] at h
  | _ :: _, _, .bl _, _, _, h => by simp [getP] at h
  | _ :: _, _, .int _, _, _, h => by simp [getP] at h
  | _ :: _, _, .str _, _, _, h => by simp [getP] at h
theorem getP_app : ∀ (js ks : List Nat) (d d0 : D), getP d js = some d0 → getP d (js ++ ks) = getP d0 ks
  | [], ks, d, d0, h => by
    simp only [getP, Option.some.injEq] at h
    subst h
    simp
  | j :: js, ks, .nd k ds, d0, h => by
    unfold getP at h
    cases e : ds[j]? with
    | none => rw [e] at h; cases h
    | some dj =>
      rw [e] at h
      rw [List.cons_append]
      rw [getP_cons e]
      exact getP_app js ks dj d0 h
  | _ :: _, _, .non, _, h => by simp [getP] at h
  | _ :: _, _, .bl _, _, h => by simp [getP] at h
  | _ :: _, _, .int _, _, h => by simp [getP] at h
  | _ :: _, _, .str _, _, h => by simp [getP] at h
/-- one step further down -/
theorem Foc.down {k : Kd} {es : List D} {j : Nat} {e : D} (h : Foc K cm H Z v F d js (.nd k es) v0 F0 A B) (hg : getP d js = some (.nd k es)) (hj : es[j]? = some e) :
    ∃ a us Es vj Fj A' B', v0 = .ref a ∧ Cell K cm H Z a k us ∧ RepL K cm H Z es us Es ∧ us[j]? = some vj ∧ Foc K cm H Z v F d (js ++ [j]) e vj Fj A' B' := by
  obtain ⟨a, us, Es, rfl, c, l, rfl⟩ := h.rep
  obtain ⟨vj, Fj, A2, B2, e1, e2, r, kk⟩ := RepL.focus es l hj
  refine ⟨a, us, Es, vj, Fj, A ++ (ownA k a ++ A2), B2 ++ B, rfl, c, l, e1, ⟨by rw [h.eF, e2]; simp, r, fun O H' Z' d1 F1 hA hB mv r1 => ?_⟩⟩
  have hA1 : ∀ x ∈ A2, ¬ O x := fun x q => hA x (by simp [q])
  have hB1 : ∀ x ∈ B2, ¬ O x := fun x q => hB x (by simp [q])
  obtain ⟨Gs, g1, g2⟩ := kk H' Z' d1 F1 (fun d v F h hF => h.stay mv fun x q => (hF x q).elim (hA1 x) (hB1 x)) r1
  have cc := mv a k us c (fun q => hA a (by unfold ownA; rw [if_pos q]; simp))
  rw [Kd.mapF_id] at cc
  have p := h.put O H' Z' (.nd k (es.set j d1)) (ownA k a ++ Gs.flatten) (fun x q => hA x (by simp [q])) (fun x q => hB x (by simp [q])) mv ⟨a, us, Gs, rfl, cc, g2, rfl⟩
  have ep : putP d (js ++ [j]) d1 = putP d js (.nd k (es.set j d1)) := by
    rw [putP_app js [j] d _ d1 hg, putP_one hj]
  rw [ep]
  rw [g1] at p
  have el : A ++ (ownA k a ++ (A2 ++ F1 ++ B2)) ++ B = A ++ (ownA k a ++ A2) ++ F1 ++ (B2 ++ B) := by simp
  rwa [el] at p
end
/-! ### paths -/
def tPth2 (K : PySem.W.Frag) (cm : Cm) (W : WX) (i : Nat) (π : Pi') : TE := fun σ H Q => ∃ Z ρ Fs d js d0, Ok K cm H σ ρ Fs Z ∧ ρ[i]? = some (some d) ∧ π ρ = some js ∧ getP d js = some d0 ∧
  ∀ H' Z1 v F v0 F0 A B, Ext H (lendZ Z Fs) H' Z1 → σ[i]? = some (some v) → Fs[i]? = some F → Foc K cm H' ⟨Z1.f, Z.b, fun _ => False⟩ v F d js d0 v0 F0 A B → Q v0 H'
abbrev SP2 (X : Cx) (cm : Cm) (W : WX) (e : Expr) (i : Nat) (π : Pi') : Prop := PE X e (tPth2 X.K cm W i π)
def stepP (d0 key : D) : Option Nat := match d0 with
  | .nd (.lst _) es => (match key with
    | .int z => ixN es.length z
    | _ => none)
  | .nd .tup es => (match key with
    | .int z => ixN es.length z
    | _ => none)
  | .nd (.dct _ ks) _ => (keyD key).bind fun k => ks.findIdx? (fun q => decide (q = k))
  | _ => none
def fldP (cs : List Str) (d0 : D) (n : Str) : Option Nat := match d0 with
  | .nd (.obj _ c fs) _ => if c ∈ cs then fs.findIdx? (fun q => decide (q = n)) else none
  | _ => none
def πIx (i : Nat) (π : Pi') (f : En → Ot D) : Pi' := fun ρ => match ρ[i]? with
  | some (some d) => (π ρ).bind fun js => (getP d js).bind fun d0 => match f ρ with
    | .ok key => (stepP d0 key).map fun j => js ++ [j]
    | _ => none
  | _ => none
def πFld (i : Nat) (π : Pi') (cs : List Str) (n : Str) : Pi' := fun ρ => match ρ[i]? with
  | some (some d) => (π ρ).bind fun js => (getP d js).bind fun d0 => (fldP cs d0 n).map fun j => js ++ [j]
  | _ => none
theorem Ok.lendExt {K : PySem.W.Frag} {cm : Cm} {H H1 : Hp} {σ : L2.St} {ρ : En} {Fs : List (List Addr)} {Z Z1 : Zn} (ok : Ok K cm H σ ρ Fs Z) (e : Ext H (lendZ Z Fs) H1 Z1) : CellMove K cm H H1 Z ⟨Z1.f, Z.b, fun _ => False⟩ id (fun _ => True) :=
  cell_grow e.gr e.f (fun _ h => h) fun a h => (ok.t a h).elim
theorem lookup_idx {α : Type} {n : Str} : ∀ {fs : List Str} {vs : List α} {j : Nat}, fs.findIdx? (fun q => decide (q = n)) = some j → fs.length = vs.length → ∃ v, vs[j]? = some v ∧ (fs.zip vs).lookup n = some v
  | [], _, _, h, _ => by simp at h
  | f :: fs, [], _, _, l => by simp at l
  | f :: fs, v :: vs, j, h, l => by
    rw [List.findIdx?_cons] at h
    by_cases e : f = n
    · rw [if_pos (by simpa using e)] at h
      cases h
      subst e
      exact ⟨v, rfl, by simp [List.lookup]⟩
    · rw [if_neg (by simpa using e)] at h
      cases q : fs.findIdx? (fun q => decide (q = n)) with
      | none => rw [q] at h; cases h
      | some j' =>
        rw [q] at h
        cases h
        obtain ⟨v', a, b⟩ := lookup_idx q (by simpa using l)
        refine ⟨v', by simpa using a, ?_⟩
        rw [List.zip_cons_cons, List.lookup]
        rw [show (n == f) = false by simpa using fun z => e z.symm]
        exact b
theorem look_idx {α : Type} {k : Key} : ∀ {ks : List Key} {vs : List α} {j : Nat}, ks.findIdx? (fun q => decide (q = k)) = some j → ks.length = vs.length → ∃ v, vs[j]? = some v ∧ look ks vs k = some v
  | [], _, _, h, _ => by simp at h
  | f :: fs, [], _, _, l => by simp at l
  | f :: fs, v :: vs, j, h, l => by
    rw [List.findIdx?_cons] at h
    unfold look
    by_cases e : f = k
    · rw [if_pos (by simpa using e)] at h
      cases h
      exact ⟨v, rfl, if_pos e⟩
    · rw [if_neg (by simpa using e)] at h
      rw [if_neg e]
      cases q : fs.findIdx? (fun q => decide (q = k)) with
      | none => rw [q] at h; cases h
      | some j' =>
        rw [q] at h
        cases h
        obtain ⟨v', a, b⟩ := look_idx q (by simpa using l)
        exact ⟨v', by simpa using a, b⟩
section
variable {X : Cx} {cm : Cm} {W : WX} {o e : Expr} {i : Nat} {π : Pi'} {f : En → Ot D} {pos p : Pos} {x : Str}
theorem sp2_name (he : PE X (.Name x p) (tVar i)) : SP2 X cm W (.Name x p) i pHere := PE.imp he fun σ H Q q => by
  obtain ⟨Z, ρ, Fs, d, js, d0, ok, h1, h2, h3, q⟩ := q
  cases h2
  obtain ⟨v, F, e1, e2, r⟩ := ok.rep.get i d h1
  have ex : Ext H (lendZ Z Fs) H (lendZ Z Fs) := .refl ok.pure.dom
  obtain ⟨v0, F0, A, B, fo⟩ := Rep.foc (r.grow (.refl H) (fun _ h => h) (fun _ h => h) (Z' := ⟨Z.f, Z.b, fun _ => False⟩) fun a h => (ok.t a h).elim) h3
  have hd : d0 = d := by simpa [getP] using h3.symm
  subst hd
  have fo2 : Foc X.K cm H ⟨Z.f, Z.b, fun _ => False⟩ v F d0 [] d0 v F [] [] := ⟨by simp, r.grow (.refl H) (fun _ h => h) (fun _ h => h) fun a h => (ok.t a h).elim, fun O H' Z' d1 F1 _ _ _ r => by simpa [putP] using r⟩
  exact ⟨v, e1, q H _ v F v F [] [] ex e1 e2 fo2⟩
theorem sp2_fld (ho : SP2 X cm W o i π) {n : Str} {cs : List Str} (hc : ∀ c ∈ cs, Cls X.K (cm c) ∧ NoAttr X.K (cm c) n) (hb : attributeBase o n X.env (eval o X.env) = eval o X.env := by rfl) : SP2 X cm W (.Attribute o n pos) i (πFld i π cs n) := PE.imp (pe_fld ho hb) fun σ H Q q => by
  obtain ⟨Z, ρ, Fs, d, js, d0, ok, h1, h2, h3, q⟩ := q
  unfold πFld at h2
  rw [h1] at h2
  cases e1 : π ρ with
  | none => rw [e1] at h2; cases h2
  | some js0 =>
    rw [e1] at h2
    dsimp only [Option.bind_some] at h2
    cases e2 : getP d js0 with
    | none => rw [e2] at h2; cases h2
    | some dd =>
      rw [e2] at h2
      dsimp only [Option.bind_some] at h2
      unfold fldP at h2
      split at h2
      · rename_i fl c fs es
        split at h2
        rotate_left
        · cases h2
        rename_i hcs
        cases e3 : fs.findIdx? (fun q => decide (q = n)) with
        | none => rw [e3] at h2; cases h2
        | some j =>
          rw [e3] at h2
          cases h2
          rw [getP_app js0 [j] d _ e2] at h3
          have hj : es[j]? = some d0 := by rw [← getP_one (k := .obj fl c fs)]; exact h3
          refine ⟨Z, ρ, Fs, d, js0, _, ok, h1, e1, e2, fun H' Z1 v F v0 F0 A B ex hs hF fo => ?_⟩
          obtain ⟨a, us, Es, vj, Fj, A', B', rfl, cell, l, hu, fo2⟩ := fo.down e2 hj
          obtain ⟨⟨dx, hi⟩, hl, _⟩ := cell
          obtain ⟨w, w1, w2⟩ := lookup_idx e3 hl
          rw [hu] at w1
          cases w1
          exact ⟨a, _, dx, _, vj, rfl, hi, (hc c hcs).1, (hc c hcs).2, w2, q H' Z1 v F vj Fj A' B' ex hs hF fo2⟩
      · cases h2
/-- o[e] -/
theorem sp2_ix (hu : X.A.units + 1 < cLine) (ho : SP2 X cm W o i π) (he : SE X cm W e f) (hs : PlainIx e := by exact fun _ _ => rfl) : SP2 X cm W (.Subscript o e pos) i (πIx i π f) := PE.imp (pe_ix (ix_4 hu) ho he hs) fun σ H Q q => by
  obtain ⟨Z, ρ, Fs, d, js, d0, ok, h1, h2, h3, q⟩ := q
  unfold πIx at h2
  rw [h1] at h2
  cases e1 : π ρ with
  | none => rw [e1] at h2; cases h2
  | some js0 =>
    rw [e1] at h2
    dsimp only [Option.bind_some] at h2
    cases e2 : getP d js0 with
    | none => rw [e2] at h2; cases h2
    | some dd =>
      rw [e2] at h2
      dsimp only [Option.bind_some] at h2
      cases ef : f ρ with
      | no => rw [ef] at h2; cases h2
      | ex x => rw [ef] at h2; cases h2
      | ok key =>
        rw [ef] at h2
        dsimp only at h2
        cases e3 : stepP dd key with
        | none => rw [e3] at h2; cases h2
        | some j =>
          rw [e3] at h2
          cases h2
          rw [getP_app js0 [j] d _ e2] at h3
          refine ⟨Z, ρ, Fs, d, js0, dd, ok, h1, e1, e2, fun H' Z1 v F v0 F0 A B ex hs hF fo => ?_⟩
          have ok1 := ok.pure.ext ex
          refine tP_bind ok1 (fun q' => by rw [ef] at q'; cases q') (fun kd ek vk H2 Z2 Fk rk => ?_) (fun x q' => by rw [ef] at q'; cases q')
          rw [ef] at ek
          cases ek
          have ex2 := ex.trans rk.ext
          have mv : CellMove X.K cm H' H2 ⟨Z1.f, Z.b, fun _ => False⟩ ⟨Z2.f, Z.b, fun _ => False⟩ id (fun _ => True) := cell_grow rk.ext.gr rk.ext.f (fun _ h => h) fun _ h => h
          have fo1 := fo.move mv
          cases dd with
          | nd kk es =>
            have hj : es[j]? = some d0 := by rw [← getP_one (k := kk)]; exact h3
            obtain ⟨a, us, Es, vj, Fj, A', B', rfl, cell, l, hu', fo2⟩ := fo1.down e2 hj
            have lu := l.len.1
            have fin := q H2 Z2 v F vj Fj A' B' ex2 hs hF fo2
            cases kk with
            | tup =>
              unfold stepP at e3
              dsimp only at e3
              split at e3
              · rename_i z
                obtain ⟨rfl, _⟩ := rk.rep
                exact .inl (.inr (.inl ⟨a, us, _, vj, rfl, rfl, cell, by unfold atI; rw [lu, e3]; exact hu', fin⟩))
              · cases e3
            | lst fl =>
              unfold stepP at e3
              dsimp only at e3
              split at e3
              · rename_i z
                obtain ⟨rfl, _⟩ := rk.rep
                exact .inl (.inl ⟨a, us, _, vj, rfl, rfl, rdL cell.2.1, by unfold atI; rw [lu, e3]; exact hu', fin⟩)
              · cases e3
            | dct fl ks =>
              unfold stepP at e3
              dsimp only at e3
              cases ek : keyD key with
              | none => rw [ek] at e3; cases e3
              | some k =>
                rw [ek] at e3
                dsimp only [Option.bind_some] at e3
                have ekk := key_ok rk.rep ek
                subst ekk
                obtain ⟨w, w1, w2⟩ := look_idx e3 cell.2.2.1
                rw [hu'] at w1
                cases w1
                have g := DGet.rk (k := k) cell.2.1
                rw [look_valV cell.2.2.1, w2] at g
                exact .inr ⟨a, vj, rfl, g, fin⟩
            | obj fl c fs => cases e3
            | exc fl c fs => cases e3
            | adr fl b => cases e3
          | non => cases e3
          | bl b => cases e3
          | int b => cases e3
          | str b => cases e3
end
end OB

namespace OB
open PySem PySem.Spec PyProof.Rows L2
/-! ### slots changed -/
structure Chg where
  i : Nat
  A : List Addr
  G : List Addr
  B : List Addr
  E : List Addr
  d : D
def setsF (h : Chg → List Addr) : List Chg → List (List Addr) → List (List Addr)
  | [], Fs => Fs
  | c :: cs, Fs => setsF h cs (Fs.set c.i (c.A ++ h c ++ c.B))
def setsD : List Chg → En → En
  | [], ρ => ρ
  | c :: cs, ρ => setsD cs (ρ.set c.i (some c.d))
theorem setsF_len {h : Chg → List Addr} : ∀ {cs : List Chg} {Fs : List (List Addr)}, (setsF h cs Fs).length = Fs.length
  | [], _ => rfl
  | c :: cs, Fs => by unfold setsF; rw [setsF_len, List.length_set]
theorem setsD_len : ∀ {cs : List Chg} {ρ : En}, (setsD cs ρ).length = ρ.length
  | [], _ => rfl
  | c :: cs, ρ => by unfold setsD; rw [setsD_len, List.length_set]
theorem setsF_comm {h : Chg → List Addr} {i : Nat} {Y : List Addr} : ∀ {cs : List Chg} {Fs : List (List Addr)}, (∀ c ∈ cs, c.i ≠ i) → setsF h cs (Fs.set i Y) = (setsF h cs Fs).set i Y
  | [], _, _ => rfl
  | c :: cs, Fs, n => by
    unfold setsF
    rw [List.set_comm _ _ (fun e => n c List.mem_cons_self e.symm), setsF_comm fun d hd => n d (List.mem_cons_of_mem _ hd)]
theorem setsD_comm {i : Nat} {Y : Option D} : ∀ {cs : List Chg} {ρ : En}, (∀ c ∈ cs, c.i ≠ i) → setsD cs (ρ.set i Y) = (setsD cs ρ).set i Y
  | [], _, _ => rfl
  | c :: cs, ρ, n => by
    unfold setsD
    rw [List.set_comm _ _ (fun e => n c List.mem_cons_self e.symm), setsD_comm fun d hd => n d (List.mem_cons_of_mem _ hd)]
theorem set_perm : ∀ {Fs : List (List Addr)} {i : Nat} {A E B : List Addr}, i < Fs.length → (Fs.set i (A ++ E ++ B)).flatten.Perm (E ++ (Fs.set i (A ++ B)).flatten)
  | [], i, _, _, _, h => by simp at h
  | F :: Fs, 0, A, E, B, _ => by
    rw [List.set_cons_zero, List.set_cons_zero, List.flatten_cons, List.flatten_cons]
    have h1 : (A ++ E ++ B).Perm (E ++ (A ++ B)) := by
      rw [List.append_assoc]
      exact List.perm_append_comm_assoc A E B
    have h2 := h1.append_right Fs.flatten
    rwa [List.append_assoc E] at h2
  | F :: Fs, i + 1, A, E, B, h => by
    rw [List.set_cons_succ, List.set_cons_succ, List.flatten_cons, List.flatten_cons]
    have ih := set_perm (Fs := Fs) (i := i) (A := A) (E := E) (B := B) (by simpa using h)
    exact (ih.append_left F).trans (List.perm_append_comm_assoc F E _)
theorem setsF_perm {h : Chg → List Addr} : ∀ {cs : List Chg} {Fs : List (List Addr)}, (cs.map (·.i)).Nodup → (∀ c ∈ cs, c.i < Fs.length) → (setsF h cs Fs).flatten.Perm ((cs.map h).flatten ++ (setsF (fun _ => []) cs Fs).flatten)
  | [], Fs, _, _ => List.Perm.refl _
  | c :: cs, Fs, n, l => by
    obtain ⟨n1, n2⟩ := List.nodup_cons.mp (show (c.i :: cs.map (·.i)).Nodup from n)
    have ne : ∀ d ∈ cs, d.i ≠ c.i := fun d hd e => n1 (List.mem_map.mpr ⟨d, hd, e⟩)
    have ih := setsF_perm (h := h) (cs := cs) (Fs := Fs.set c.i (c.A ++ h c ++ c.B)) n2 (fun d hd => by rw [List.length_set]; exact l d (List.mem_cons_of_mem _ hd))
    unfold setsF
    refine ih.trans ?_
    rw [List.map_cons, List.flatten_cons, setsF_comm ne, setsF_comm ne]
    have p := set_perm (Fs := setsF (fun _ => []) cs Fs) (i := c.i) (A := c.A) (E := h c) (B := c.B) (by rw [setsF_len]; exact l c List.mem_cons_self)
    have p2 := p.append_left (cs.map h).flatten
    refine p2.trans ?_
    rw [List.append_nil]
    have := List.perm_append_comm_assoc (cs.map h).flatten (h c) (List.set (setsF (fun _ => []) cs Fs) c.i (c.A ++ c.B)).flatten
    rwa [← List.append_assoc (h c)] at this
theorem setsF_same : ∀ {cs : List Chg} {Fs : List (List Addr)}, (∀ c ∈ cs, Fs[c.i]? = some (c.A ++ c.G ++ c.B)) → setsF Chg.G cs Fs = Fs
  | [], _, _ => rfl
  | c :: cs, Fs, h => by
    have e : Fs.set c.i (c.A ++ c.G ++ c.B) = Fs := by
      have hc := h c List.mem_cons_self
      obtain ⟨l, e⟩ := List.getElem?_eq_some_iff.mp hc
      rw [← e, List.set_getElem_self]
    unfold setsF
    rw [e]
    exact setsF_same fun d hd => h d (List.mem_cons_of_mem _ hd)
theorem setsF_at {h : Chg → List Addr} : ∀ {cs : List Chg} {Fs : List (List Addr)} {c : Chg}, (cs.map (·.i)).Nodup → c ∈ cs → c.i < Fs.length → (setsF h cs Fs)[c.i]? = some (c.A ++ h c ++ c.B)
  | [], _, _, _, h, _ => nomatch h
  | d :: cs, Fs, c, n, hc, l => by
    obtain ⟨n1, n2⟩ := List.nodup_cons.mp (show (d.i :: cs.map (·.i)).Nodup from n)
    have ne : ∀ e ∈ cs, e.i ≠ d.i := fun e hd q => n1 (List.mem_map.mpr ⟨e, hd, q⟩)
    unfold setsF
    rcases List.mem_cons.mp hc with q | q
    · subst q
      rw [setsF_comm ne, List.getElem?_set_self (by rw [setsF_len]; exact l)]
    · exact setsF_at n2 q (by rw [List.length_set]; exact l)
theorem setsF_off {h : Chg → List Addr} : ∀ {cs : List Chg} {Fs : List (List Addr)} {j : Nat}, (∀ c ∈ cs, c.i ≠ j) → (setsF h cs Fs)[j]? = Fs[j]?
  | [], _, _, _ => rfl
  | c :: cs, Fs, j, n => by
    unfold setsF
    rw [setsF_off fun d hd => n d (List.mem_cons_of_mem _ hd), List.getElem?_set_ne (n c List.mem_cons_self)]
theorem setsD_at : ∀ {cs : List Chg} {ρ : En} {c : Chg}, (cs.map (·.i)).Nodup → c ∈ cs → c.i < ρ.length → (setsD cs ρ)[c.i]? = some (some c.d)
  | [], _, _, _, h, _ => nomatch h
  | d :: cs, ρ, c, n, hc, l => by
    obtain ⟨n1, n2⟩ := List.nodup_cons.mp (show (d.i :: cs.map (·.i)).Nodup from n)
    have ne : ∀ e ∈ cs, e.i ≠ d.i := fun e hd q => n1 (List.mem_map.mpr ⟨e, hd, q⟩)
    unfold setsD
    rcases List.mem_cons.mp hc with q | q
    · subst q
      rw [setsD_comm ne, List.getElem?_set_self (by rw [setsD_len]; exact l)]
    · exact setsD_at n2 q (by rw [List.length_set]; exact l)
theorem setsD_off : ∀ {cs : List Chg} {ρ : En} {j : Nat}, (∀ c ∈ cs, c.i ≠ j) → (setsD cs ρ)[j]? = ρ[j]?
  | [], _, _, _ => rfl
  | c :: cs, ρ, j, n => by
    unfold setsD
    rw [setsD_off fun d hd => n d (List.mem_cons_of_mem _ hd), List.getElem?_set_ne (n c List.mem_cons_self)]
theorem setsF_ok {cs : List Chg} {Fs : List (List Addr)} (nd : Fs.flatten.Nodup) (n : (cs.map (·.i)).Nodup) (hg : ∀ c ∈ cs, Fs[c.i]? = some (c.A ++ c.G ++ c.B)) {X : List Addr} (hX : (cs.map Chg.E).flatten = X) (ndX : X.Nodup) (or : ∀ x ∈ X, x ∈ (cs.map Chg.G).flatten ∨ x ∉ Fs.flatten) :
    (setsF Chg.E cs Fs).flatten.Nodup ∧ ∀ x ∈ (setsF Chg.E cs Fs).flatten, x ∈ Fs.flatten ∨ x ∈ X := by
  have l : ∀ c ∈ cs, c.i < Fs.length := fun c hc => (List.getElem?_eq_some_iff.mp (hg c hc)).1
  have p1 := setsF_perm (h := Chg.E) n l
  have p2 := setsF_perm (h := Chg.G) n l
  rw [setsF_same hg] at p2
  rw [hX] at p1
  have q := p2.nodup_iff.mp nd
  rw [List.nodup_append] at q
  refine ⟨p1.nodup_iff.mpr (List.nodup_append.mpr ⟨ndX, q.2.1, fun x hx y hy e => ?_⟩), fun x hx => ?_⟩
  · subst e
    rcases or x hx with h | h
    · exact q.2.2 x h x hy rfl
    · exact h (p2.mem_iff.mpr (List.mem_append_right _ hy))
  · rcases List.mem_append.mp (p1.mem_iff.mp hx) with h | h
    · exact .inr h
    · exact .inl (p2.mem_iff.mpr (List.mem_append_right _ h))

/-! ### arguments -/
inductive AK where
  | pl (i : Nat) (π : Pi') | hd (f : En → Ot D) | nt (f : En → Ot D)
def AK.te (K : PySem.W.Frag) (cm : Cm) (W : WX) : AK → TE
  | .pl i π => tPth2 K cm W i π
  | .hd f => tP K cm W f
  | .nt f => tP K cm W f
def tAs (K : PySem.W.Frag) (cm : Cm) (W : WX) : List AK → TA
  | [] => tNil
  | a :: r => tCons (a.te K cm W) (tAs K cm W r)
def plS : List AK → List Nat
  | [] => []
  | .pl i _ :: r => i :: plS r
  | .hd _ :: r => plS r
  | .nt _ :: r => plS r
def subD (ρ : En) (i : Nat) (π : Pi') : Option (D × List Nat × D) := match ρ[i]? with
  | some (some d) => (π ρ).bind fun js => (getP d js).map fun d0 => (d, js, d0)
  | _ => none
theorem subD_eq {ρ : En} {i : Nat} {π : Pi'} {d d0 : D} {js : List Nat} (h : subD ρ i π = some (d, js, d0)) : ρ[i]? = some (some d) ∧ π ρ = some js ∧ getP d js = some d0 := by
  unfold subD at h
  split at h
  · rename_i d' hd
    cases e : π ρ with
    | none => rw [e] at h; cases h
    | some js' =>
      rw [e] at h
      dsimp only [Option.bind_some] at h
      cases e2 : getP d' js' with
      | none => rw [e2] at h; cases h
      | some d1 =>
        rw [e2] at h
        cases h
        exact ⟨hd, rfl, e2⟩
  · cases h
def evA (hid : List Nat) (ρ : En) : List AK → Ot (List D)
  | [] => .ok []
  | .pl i π :: r => match subD ρ i π with
    | some (_, _, d0) => if noB d0 then (evA hid ρ r).bind fun ds => .ok (d0 :: ds) else .no
    | none => .no
  | .hd f :: r => (f (wipeE ρ hid)).bind fun d => (evA hid ρ r).bind fun ds => .ok (toArg d :: ds)
  | .nt f :: r => (f ρ).bind fun d => if noT d then (evA hid ρ r).bind fun ds => .ok (toArg d :: ds) else .no
/-- what was handed over goes back to its places -/
def putAll (ρ0 : En) : List AK → List D → En → Option En
  | [], [], ρ => some ρ
  | .pl i π :: r, e :: es, ρ => match subD ρ0 i π with
    | some (d, js, _) => putAll ρ0 r es (ρ.set i (some (putP d js e)))
    | none => none
  | .hd _ :: r, es, ρ => putAll ρ0 r es ρ
  | .nt _ :: r, es, ρ => putAll ρ0 r es ρ
  | _, _, _ => none
def wipeA (Fs : List (List Addr)) : List Nat → List (List Addr)
  | [] => Fs
  | v :: vs => (wipeA Fs vs).set v []
theorem wipeA_mem {Fs : List (List Addr)} : ∀ {vs : List Nat} {a : Addr}, a ∈ (wipeA Fs vs).flatten → ∃ j F, j ∉ vs ∧ Fs[j]? = some F ∧ a ∈ F := by
  have get : ∀ {vs : List Nat} {j : Nat} {F : List Addr}, (wipeA Fs vs)[j]? = some F → F = [] ∨ (j ∉ vs ∧ Fs[j]? = some F) := by
    intro vs
    induction vs with
    | nil => exact fun h => .inr ⟨by simp, h⟩
    | cons v vs ih =>
      intro j F h
      unfold wipeA at h
      by_cases e : v = j
      · subst e
        rw [List.getElem?_set] at h
        split at h
        · split at h
          · cases h; exact .inl rfl
          · cases h
        · rename_i n; exact absurd rfl n
      · rw [List.getElem?_set_ne e] at h
        refine (ih h).imp id fun ⟨a, b⟩ => ⟨?_, b⟩
        intro q
        rcases List.mem_cons.mp q with q | q
        · exact e q.symm
        · exact a q
  intro vs a h
  obtain ⟨F, hF, ha⟩ := List.mem_flatten.mp h
  obtain ⟨j, hj, e⟩ := List.mem_iff_getElem.mp hF
  rcases get (show (wipeA Fs vs)[j]? = some F by rw [List.getElem?_eq_getElem hj, e]) with q | q
  · subst q; cases ha
  · exact ⟨j, F, q.1, q.2, ha⟩
section
variable {K : PySem.W.Frag} {cm : Cm} {H H' : Hp} {Z Z' : Zn} {σ : L2.St} {ρ : En} {Fs : List (List Addr)}
theorem RepE.hide (r : RepE K cm H Z σ ρ Fs) : ∀ vs, RepE K cm H Z σ (wipeE ρ vs) (wipeA Fs vs)
  | [] => r
  | v :: vs => by
    have h := RepE.hide r vs
    unfold wipeE wipeA
    refine ⟨by rw [List.length_set]; exact h.lσ, by rw [List.length_set, List.length_set]; exact h.lF, fun j d q => ?_⟩
    by_cases e : v = j
    · subst e
      rw [List.getElem?_set] at q
      split at q
      · split at q <;> cases q
      · rename_i n; exact absurd rfl n
    · rw [List.getElem?_set_ne e] at q ⊢
      exact h.get j d q
/-- one argument, at hand -/
def AArg (K : PySem.W.Frag) (cm : Cm) (σ : L2.St) (ρ : En) (Fs : List (List Addr)) (b Th : Addr → Prop) (Hc : Hp) (fc : Addr → Prop) : AK → D → V → List Addr → List Addr → Prop
  | .pl i π, d0, v0, O, N => N = [] ∧ noB d0 = true ∧ ∃ d js v F A B, subD ρ i π = some (d, js, d0) ∧ σ[i]? = some (some v) ∧ Fs[i]? = some F ∧ Foc K cm Hc ⟨fc, b, fun _ => False⟩ v F d js d0 v0 O A B
  | .hd _, d', v, O, N => O = [] ∧ ∃ d, d' = toArg d ∧ Rep K cm Hc ⟨fc, b, Th⟩ d v N
  | .nt _, d', v, O, N => O = [] ∧ ∃ d, d' = toArg d ∧ Rep K cm Hc ⟨fc, b, Th⟩ d v N
theorem AArg.grow {b Th : Addr → Prop} {Hc Hd : Hp} {fc fd : Addr → Prop} (g : Grow Hc Hd) (hf : ∀ a, fc a → fd a) : ∀ {k : AK} {d : D} {v : V} {O N : List Addr}, AArg K cm σ ρ Fs b Th Hc fc k d v O N → AArg K cm σ ρ Fs b Th Hd fd k d v O N
  | .pl i π, d0, v0, O, N, h => by
    obtain ⟨e, nb, d, js, v, F, A, B, h1, h2, h3, fo⟩ := h
    exact ⟨e, nb, d, js, v, F, A, B, h1, h2, h3, fo.move (cell_grow g hf (fun _ h => h) fun _ h => h)⟩
  | .hd _, d', v, O, N, h => by
    obtain ⟨e, d, e2, r⟩ := h
    exact ⟨e, d, e2, r.grow g hf (fun _ h => h) fun _ h => h⟩
  | .nt _, d', v, O, N, h => by
    obtain ⟨e, d, e2, r⟩ := h
    exact ⟨e, d, e2, r.grow g hf (fun _ h => h) fun _ h => h⟩
inductive AArgs (K : PySem.W.Frag) (cm : Cm) (σ : L2.St) (ρ : En) (Fs : List (List Addr)) (b Th : Addr → Prop) (Hc : Hp) (fc : Addr → Prop) : List AK → List D → List V → List (List Addr) → List (List Addr) → Prop
  | nil : AArgs K cm σ ρ Fs b Th Hc fc [] [] [] [] []
  | cons {k : AK} {ks : List AK} {d : D} {ds : List D} {v : V} {vs : List V} {O N : List Addr} {Os Ns : List (List Addr)} (h : AArg K cm σ ρ Fs b Th Hc fc k d v O N) (hs : AArgs K cm σ ρ Fs b Th Hc fc ks ds vs Os Ns) : AArgs K cm σ ρ Fs b Th Hc fc (k :: ks) (d :: ds) (v :: vs) (O :: Os) (N :: Ns)
theorem args_run {W : WX} {hid : List Nat} (ok : Ok K cm H σ ρ Fs Z) : ∀ (aks : List AK) {Hc : Hp} {Z1 : Zn}, Ext H (lendZ Z Fs) Hc Z1 → ∀ R : List V → Hp → Prop, evA hid ρ aks ≠ .no →
    (∀ x, evA hid ρ aks = .ex x → ∀ cls dd H' Z', Ext H (lendZ Z Fs) H' Z' → XRep K cm H' Z' x cls dd → W cls dd σ H') →
    (∀ ds, evA hid ρ aks = .ok ds → ∀ vs Os Ns H' Z', Ext Hc Z1 H' Z' → AArgs K cm σ ρ Fs Z.b (fun a => a ∈ (wipeA Fs hid).flatten) H' Z'.f aks ds vs Os Ns → Ns.flatten.Nodup → (∀ a ∈ Ns.flatten, Hc a = none ∧ Mut (H' a)) → (∀ a ∈ Ns.flatten, ¬ Z'.f a) → R vs H') → tAs K cm W aks σ Hc R
  | [], Hc, Z1, e, R, _, _, hk => hk [] rfl [] [] [] Hc Z1 (.refl ((ok.pure).dom.ext e)) .nil List.nodup_nil (fun _ h => nomatch h) (fun _ h => nomatch h)
  | k :: aks, Hc, Z1, e, R, hn, hx, hk => by
    have dm1 := ok.pure.dom.ext e
    have eZ : Z1 = ⟨Z1.f, Z.b, fun a => a ∈ Fs.flatten⟩ := by
      have h1 : Z1.b = Z.b := e.b
      have h2 : Z1.t = fun a => a ∈ Fs.flatten := e.t
      cases Z1
      simp only at h1 h2
      rw [h1, h2]
    cases k with
    | pl i π =>
      unfold evA at hn hx hk
      cases q : subD ρ i π with
      | none => rw [q] at hn; exact absurd rfl hn
      | some p =>
        obtain ⟨d, js, d0⟩ := p
        rw [q] at hn hx hk
        dsimp only at hn hx hk
        by_cases nb : noB d0 = true
        rotate_left
        · rw [if_neg nb] at hn; exact absurd rfl hn
        · rw [if_pos nb] at hn hx hk
          obtain ⟨h1, h2, h3⟩ := subD_eq q
          have ok1 := ok.ext e
          refine ⟨_, ρ, Fs, d, js, d0, ok1, h1, h2, h3, fun H2 Z2 v F v0 F0 A B ex hs hF fo => ?_⟩
          have ex : Ext Hc Z1 H2 Z2 := by rw [eZ]; exact ex
          refine args_run ok aks (e.trans ex) _ (fun q2 => hn (by rw [q2]; rfl)) (fun x q2 => hx x (by rw [q2]; rfl)) fun ds q2 vs Os Ns H3 Z3 ex3 as nd fr nf => ?_
          refine hk (d0 :: ds) (by rw [q2]; rfl) (v0 :: vs) (F0 :: Os) ([] :: Ns) H3 Z3 (ex.trans ex3) (.cons ⟨rfl, nb, d, js, v, F, A, B, q, hs, hF, fo.move (cell_grow ex3.gr ex3.f (fun _ h => h) fun _ h => h)⟩ as) (by simpa using nd) (fun a ha => ?_) (by simpa using nf)
          have ha : a ∈ Ns.flatten := by simpa using ha
          exact ⟨ex.gr.back (fr a ha).1, (fr a ha).2⟩
    | hd f =>
      unfold evA at hn hx hk
      have rh : RepE K cm Hc ⟨Z1.f, Z.b, fun a => a ∈ (wipeA Fs hid).flatten⟩ σ (wipeE ρ hid) (wipeA Fs hid) := by
        have r1 := (ok.ext e).rep.hide hid
        exact ⟨r1.lσ, r1.lF, fun i d q => by
          obtain ⟨v, F, a, b, c⟩ := r1.get i d q
          exact ⟨v, F, a, b, c.grow (.refl _) (fun _ h => h) (fun _ h => h) fun _ h => h.elim⟩⟩
      have okh : OkP K cm Hc σ (wipeE ρ hid) (wipeA Fs hid) ⟨Z1.f, Z.b, fun a => a ∈ (wipeA Fs hid).flatten⟩ := ⟨rh, ⟨dm1.f, fun a h => dm1.b a (by rw [eZ]; exact h), fun a h => by
        obtain ⟨j, F, _, hj, ha⟩ := wipeA_mem h
        exact dm1.t a (by rw [eZ]; exact flat_mem hj ha)⟩, fun a h => h⟩
      refine tP_bind okh (fun q => hn (by rw [q]; rfl)) (fun d q v H2 Z2 F r => ?_) (fun x q cls dd H2 Z2 ex xr => hx x (by rw [q]; rfl) cls dd H2 ⟨Z2.f, Z1.b, Z1.t⟩ (e.trans ⟨ex.gr, ex.f, ex.fn, ex.fd, rfl, rfl⟩) (xr.back fun _ h => h))
      rw [q] at hn hx hk
      simp only [Ot.bind_ok] at hn hx hk
      have ex : Ext Hc Z1 H2 ⟨Z2.f, Z1.b, Z1.t⟩ := ⟨r.ext.gr, r.ext.f, r.ext.fn, r.ext.fd, rfl, rfl⟩
      have e2b : Z2.b = Z.b := r.ext.b
      have e2t : Z2.t = fun a => a ∈ (wipeA Fs hid).flatten := r.ext.t
      have eZ2 : Z2 = ⟨Z2.f, Z.b, fun a => a ∈ (wipeA Fs hid).flatten⟩ := by
        cases Z2
        simp only at e2b e2t
        rw [e2b, e2t]
      have rr := r.rep
      rw [eZ2] at rr
      have hm := Rep.mut d rr
      refine args_run ok aks (e.trans ex) _ (fun q2 => hn (by rw [q2]; rfl)) (fun x q2 => hx x (by rw [q2]; rfl)) fun ds q2 vs Os Ns H3 Z3 ex3 as nd fr nf => ?_
      refine hk (toArg d :: ds) (by rw [q2]; rfl) (v :: vs) ([] :: Os) (F :: Ns) H3 Z3 (ex.trans ex3) (.cons ⟨rfl, d, rfl, rr.grow ex3.gr ex3.f (fun _ h => h) fun _ h => h⟩ as) ?_ (fun a ha => ?_) (fun a ha => ?_)
      · rw [List.flatten_cons, List.nodup_append]
        exact ⟨r.nd, nd, fun x hx y hy exy => by subst exy; exact mut_ne (hm x hx) (fr x hy).1⟩
      · rw [List.flatten_cons] at ha
        rcases List.mem_append.mp ha with ha | ha
        · exact ⟨r.new a ha, ex3.gr.mut (hm a ha)⟩
        · exact ⟨ex.gr.back (fr a ha).1, (fr a ha).2⟩
      · rw [List.flatten_cons] at ha
        rcases List.mem_append.mp ha with ha | ha
        · exact keep_nf ex3 (hm a ha) (r.nf a ha)
        · exact nf a ha
    | nt f =>
      unfold evA at hn hx hk
      have okp : OkP K cm Hc σ ρ Fs Z1 := ok.pure.ext e
      refine tP_bind okp (fun q => hn (by rw [q]; rfl)) (fun d q v H2 Z2 F r => ?_) (fun x q cls dd H2 Z2 ex xr => hx x (by rw [q]; rfl) cls dd H2 Z2 (e.trans ex) xr)
      rw [q] at hn hx hk
      simp only [Ot.bind_ok] at hn hx hk
      by_cases nt : noT d = true
      rotate_left
      · rw [if_neg nt] at hn; exact absurd rfl hn
      · rw [if_pos nt] at hn hx hk
        have e2b : Z2.b = Z.b := r.ext.b.trans e.b
        have rr := noT_rep (t' := fun a => a ∈ (wipeA Fs hid).flatten) r.rep nt
        rw [e2b] at rr
        have hm := Rep.mut d rr
        refine args_run ok aks (e.trans r.ext) _ (fun q2 => hn (by rw [q2]; rfl)) (fun x q2 => hx x (by rw [q2]; rfl)) fun ds q2 vs Os Ns H3 Z3 ex3 as nd fr nf => ?_
        refine hk (toArg d :: ds) (by rw [q2]; rfl) (v :: vs) ([] :: Os) (F :: Ns) H3 Z3 (r.ext.trans ex3) (.cons ⟨rfl, d, rfl, rr.grow ex3.gr ex3.f (fun _ h => h) fun _ h => h⟩ as) ?_ (fun a ha => ?_) (fun a ha => ?_)
        · rw [List.flatten_cons, List.nodup_append]
          exact ⟨r.nd, nd, fun x hx y hy exy => by subst exy; exact mut_ne (hm x hx) (fr x hy).1⟩
        · rw [List.flatten_cons] at ha
          rcases List.mem_append.mp ha with ha | ha
          · exact ⟨r.new a ha, ex3.gr.mut (hm a ha)⟩
          · exact ⟨r.ext.gr.back (fr a ha).1, (fr a ha).2⟩
        · rw [List.flatten_cons] at ha
          rcases List.mem_append.mp ha with ha | ha
          · exact keep_nf ex3 (hm a ha) (r.nf a ha)
          · exact nf a ha
end
end OB

namespace OB
open PySem PySem.Spec PyProof.Rows L2
def okBack : Ot D → Bool
  | .ok d => noB d
  | .ex _ => true
  | .no => false
abbrev Xf := En → Option (Ot D × En)
def plPos : List AK → Nat → List Nat
  | [], _ => []
  | .pl _ _ :: r, k => k :: plPos r (k + 1)
  | .hd _ :: r, k => plPos r (k + 1)
  | .nt _ :: r, k => plPos r (k + 1)
def plV {α : Type} : List AK → List α → List α
  | .pl _ _ :: r, v :: vs => v :: plV r vs
  | .hd _ :: r, _ :: vs => plV r vs
  | .nt _ :: r, _ :: vs => plV r vs
  | _, _ => []
theorem plV_eq {α : Type} : ∀ {aks : List AK} {vs ws : List α} {k : Nat}, vs.length = aks.length → (∀ j, j < vs.length → ws[k + j]? = vs[j]?) → (plPos aks k).filterMap (ws[·]?) = plV aks vs
  | [], [], _, _, _, _ => rfl
  | [], _ :: _, _, _, l, _ => by simp at l
  | _ :: _, [], _, _, l, _ => by simp at l
  | a :: aks, v :: vs, ws, k, l, h => by
    have ih := plV_eq (aks := aks) (vs := vs) (ws := ws) (k := k + 1) (by simpa using l) fun j hj => by
      have := h (j + 1) (by simpa using hj)
      rw [show k + 1 + j = k + (j + 1) by omega, this]; rfl
    have h0 : ws[k]? = some v := by have := h 0 (by simp); simpa using this
    cases a with
    | pl i π =>
      unfold plPos plV
      rw [List.filterMap_cons, h0]
      dsimp only
      rw [ih]
    | hd f => unfold plPos plV; exact ih
    | nt f => unfold plPos plV; exact ih
def xEnd (m : MM) (aks : List AK) (dd : List D) (ρ : En) (ds : List D) : Option (Ot D × En) := match m (ds ++ dd) with
  | none => none
  | some (r, es) => if okBack r && es.all noB && decide ((plS aks).Nodup) then (putAll ρ aks es ρ).map fun ρ' => (r, ρ') else none
def xCall (m : MM) (aks : List AK) (dd : List D) : Xf := fun ρ => match evA (plS aks) ρ aks with
  | .no => none
  | .ex x => some (.ex x, ρ)
  | .ok ds => xEnd m aks dd ρ ds
def FinX (K : PySem.W.Frag) (cm : Cm) (W : WX) (σ : L2.St) (H : Hp) (Z : Zn) (Fs : List (List Addr)) (Q : VK) : Option (Ot D × En) → Prop
  | none => False
  | some (.no, _) => False
  | some (.ok d, ρ') => ∀ v H' Z' Fs' F, SStep [] σ H Z Fs σ H' Z' Fs' → OkT K cm H' σ ρ' Fs' Z' [d] [v] [F] → (∀ a ∈ F, a ∈ Fs.flatten ∨ H a = none) → Q v H'
  | some (.ex x, ρ') => ∀ cls dd H' Z' Fs', SStep [] σ H Z Fs σ H' Z' Fs' → Ok K cm H' σ ρ' Fs' Z' → XRep K cm H' Z' x cls dd → W cls dd σ H'
def tX (K : PySem.W.Frag) (cm : Cm) (W : WX) (f : Xf) : TE := fun σ H Q => ∃ Z ρ Fs, Ok K cm H σ ρ Fs Z ∧ FinX K cm W σ H Z Fs Q (f ρ)
abbrev SX (X : Cx) (cm : Cm) (W : WX) (e : Expr) (f : Xf) : Prop := PE X e (tX X.K cm W f)
theorem SStep.anyP {P : List Nat} {σ : L2.St} {H H' : Hp} {Z Z' : Zn} {Fs Fs' : List (List Addr)} (s : SStep [] σ H Z Fs σ H' Z' Fs') : SStep P σ H Z Fs σ H' Z' Fs' := ⟨s.keep, s.own, s.f, s.fn, s.b, fun _ _ => rfl⟩
theorem setsF_ok2 {cs : List Chg} {Fs : List (List Addr)} (nd : Fs.flatten.Nodup) (n : (cs.map (·.i)).Nodup) (hg : ∀ c ∈ cs, Fs[c.i]? = some (c.A ++ c.G ++ c.B)) {X F : List Addr} (hX : (cs.map Chg.E).flatten = X) (ndX : (X ++ F).Nodup) (or : ∀ x ∈ X ++ F, x ∈ (cs.map Chg.G).flatten ∨ x ∉ Fs.flatten) :
    ((setsF Chg.E cs Fs).flatten ++ F).Nodup ∧ ∀ x ∈ (setsF Chg.E cs Fs).flatten, x ∈ Fs.flatten ∨ x ∈ X := by
  obtain ⟨a, b⟩ := setsF_ok nd n hg hX (List.nodup_append.mp ndX).1 fun x hx => or x (List.mem_append_left _ hx)
  refine ⟨?_, b⟩
  have l : ∀ c ∈ cs, c.i < Fs.length := fun c hc => (List.getElem?_eq_some_iff.mp (hg c hc)).1
  have p1 := setsF_perm (h := Chg.E) n l
  have p2 := setsF_perm (h := Chg.G) n l
  rw [setsF_same hg] at p2
  rw [hX] at p1
  have q := List.nodup_append.mp (p2.nodup_iff.mp nd)
  obtain ⟨n1, n2, n3⟩ := List.nodup_append.mp ndX
  rw [List.nodup_append]
  refine ⟨a, n2, fun x hx y hy e => ?_⟩
  subst e
  rcases List.mem_append.mp (p1.mem_iff.mp hx) with h | h
  · exact n3 x h x hy rfl
  · rcases or x (List.mem_append_right _ hy) with g | g
    · exact q.2.2 x g x h rfl
    · exact g (p2.mem_iff.mpr (List.mem_append_right _ h))
theorem noB_onlyL {K : PySem.W.Frag} {cm : Cm} {H : Hp} {Z Z' : Zn} : ∀ {ds : List D} {vs : List V} {Fs : List (List Addr)}, RepL K cm H Z ds vs Fs → ds.all noB = true → (∀ a, Z.f a → Z'.f a) → RepL K cm H Z' ds vs Fs
  | [], _, _, r, _, _ => r
  | d :: ds, _, _, r, h, hf => by
    obtain ⟨v, vs', F, Fs', rfl, rfl, h1, h2⟩ := r
    rw [List.all_cons, Bool.and_eq_true] at h
    exact repL_cons (noB_only h1 h.1 hf) (noB_onlyL h2 h.2 hf)
section
variable {K : PySem.W.Frag} {cm : Cm} {H : Hp} {Z : Zn} {σ : L2.St} {ρ : En} {Fs : List (List Addr)} {b Th : Addr → Prop} {Hc : Hp} {fc : Addr → Prop}
theorem AArgs.len : ∀ {aks : List AK} {ds : List D} {vs : List V} {Os Ns : List (List Addr)}, AArgs K cm σ ρ Fs b Th Hc fc aks ds vs Os Ns → ds.length = aks.length ∧ vs.length = aks.length
  | _, _, _, _, _, .nil => ⟨rfl, rfl⟩
  | _, _, _, _, _, .cons _ hs => by
    obtain ⟨a, b⟩ := hs.len
    exact ⟨by simp [a], by simp [b]⟩
theorem AArgs.owned : ∀ {aks : List AK} {ds : List D} {vs : List V} {Os Ns : List (List Addr)}, AArgs K cm σ ρ Fs b Th Hc fc aks ds vs Os Ns → Fs.flatten.Nodup → (plS aks).Nodup → Os.flatten.Nodup ∧ ∀ a ∈ Os.flatten, ∃ i ∈ plS aks, ∃ F, Fs[i]? = some F ∧ a ∈ F
  | _, _, _, _, _, .nil, _, _ => ⟨List.nodup_nil, fun _ h => nomatch h⟩
  | k :: ks, _, _, _, _, .cons (O := O) (Os := Os) h hs, nd, n => by
    cases k with
    | pl i π =>
      obtain ⟨n1, n2⟩ := List.nodup_cons.mp (show (i :: plS ks).Nodup from n)
      obtain ⟨a, b⟩ := hs.owned nd n2
      obtain ⟨_, _, d, js, v, F, A, B, _, _, hF, fo⟩ := h
      have sub : ∀ x ∈ O, x ∈ F := fun x hx => by rw [fo.eF]; simp [hx]
      have ndO : O.Nodup := by
        have := nd.sublist (flatten_get hF)
        rw [fo.eF] at this
        exact (List.nodup_append.mp (List.nodup_append.mp this).1).2.1
      refine ⟨?_, fun x hx => ?_⟩
      · rw [List.flatten_cons, List.nodup_append]
        refine ⟨ndO, a, fun x hx y hy e => ?_⟩
        subst e
        obtain ⟨j, hj, G, c1, c2⟩ := b x hy
        exact slots_apart nd hF c1 (fun q => n1 (q ▸ hj)) (sub x hx) c2
      · rw [List.flatten_cons] at hx
        rcases List.mem_append.mp hx with hx | hx
        · exact ⟨i, by simp [plS], F, hF, sub x hx⟩
        · obtain ⟨j, hj, G, c⟩ := b x hx
          exact ⟨j, by simp [plS, hj], G, c⟩
    | hd f =>
      obtain ⟨rfl, _⟩ := h
      exact hs.owned nd n
    | nt f =>
      obtain ⟨rfl, _⟩ := h
      exact hs.owned nd n
theorem AArgs.repL {f : Addr → Prop} {O : List Addr} : ∀ {aks : List AK} {ds : List D} {vs : List V} {Os Ns : List (List Addr)}, AArgs K cm σ ρ Fs b Th Hc fc aks ds vs Os Ns → (∀ a, fc a → f a) → (∀ a ∈ Ns.flatten, f a) → (∀ a, b a → Hc a ≠ none ∧ a ∉ O) → (∀ a, Th a → Hc a ≠ none ∧ a ∉ O) → RepL K cm Hc (lentM Hc f O) ds vs Os
  | _, _, _, _, _, .nil, _, _, _, _ => repL_nil
  | k :: ks, _, _, _, _, .cons (v := v) (N := N) h hs, hf, hN, hb, ht => by
    have ih := hs.repL hf (fun a ha => hN a (by rw [List.flatten_cons]; exact List.mem_append_right _ ha)) hb ht
    have give : ∀ {d : D}, Rep K cm Hc ⟨fc, b, Th⟩ d v N → Rep K cm Hc (lentM Hc f O) (toArg d) v [] := fun {d} r =>
      Rep.give (g := Fl.toArg) (O := fun a => a ∈ N) (cell_flag (fun a ha fl e _ => by subst e; exact hN a (by rw [List.flatten_cons]; exact List.mem_append_left _ ha)) (fun a fl hfl hz => by
        cases fl with
        | own => exact absurd rfl hfl
        | frz => exact hf a hz
        | bor => exact hb a hz
        | tmp => exact ht a hz) (fun fl e => by cases fl <;> cases e)) (fun fl e => by cases fl <;> cases e) d r fun _ h => h
    cases k with
    | pl i π =>
      obtain ⟨_, nb, d, js, v', F, A, B, _, _, _, fo⟩ := h
      exact repL_cons (noB_only fo.rep nb hf) ih
    | hd g =>
      obtain ⟨rfl, d, rfl, r⟩ := h
      exact repL_cons (give r) ih
    | nt g =>
      obtain ⟨rfl, d, rfl, r⟩ := h
      exact repL_cons (give r) ih
/-- the changes of the slots -/
theorem AArgs.chgs {H2 : Hp} {Z2 : Zn} : ∀ {aks : List AK} {ds : List D} {vs : List V} {Os Ns : List (List Addr)}, AArgs K cm σ ρ Fs b Th Hc fc aks ds vs Os Ns → ∀ {es : List D} {Es : List (List Addr)}, RepL K cm H2 Z2 es (plV aks vs) Es →
    ∃ cs : List Chg, cs.map (·.i) = plS aks ∧ (cs.map Chg.G).flatten = Os.flatten ∧ cs.map Chg.E = Es ∧ (∀ c ∈ cs, Fs[c.i]? = some (c.A ++ c.G ++ c.B) ∧ c.i < ρ.length) ∧ (∀ ρ0, putAll ρ aks es ρ0 = some (setsD cs ρ0)) ∧
      ∀ c ∈ cs, ∃ v, σ[c.i]? = some (some v) ∧ ∀ O : Addr → Prop, (∀ x ∈ c.A, ¬ O x) → (∀ x ∈ c.B, ¬ O x) → CellMove K cm Hc H2 ⟨fc, b, fun _ => False⟩ Z2 id (fun a => ¬ O a) → Rep K cm H2 Z2 c.d v (c.A ++ c.E ++ c.B)
  | _, _, _, _, _, .nil, es, Es, r => by
    cases es with
    | nil =>
      obtain ⟨_, rfl⟩ := r
      exact ⟨[], rfl, rfl, rfl, (fun _ h => nomatch h), (fun _ => rfl), (fun _ h => nomatch h)⟩
    | cons e es => obtain ⟨_, _, _, _, h, _⟩ := r; cases h
  | .pl i π :: ks, _, _, _, _, .cons (O := O) h hs, es, Es, r => by
    cases es with
    | nil => cases r.1
    | cons e es =>
      obtain ⟨v1, vs1, F1, Es', hv, rfl, r1, r2⟩ := r
      unfold plV at hv
      obtain ⟨ha, hb⟩ := List.cons.inj hv
      rw [← ha] at r1
      rw [← hb] at r2
      obtain ⟨cs, c1, c2, c3, c4, c5, c6⟩ := hs.chgs r2
      obtain ⟨_, nb, d, js, v', F, A, B, hsub, hσ, hF, fo⟩ := h
      refine ⟨⟨i, A, O, B, F1, putP d js e⟩ :: cs, by simp [plS, c1], by simp [c2], by simp [c3], fun c hc => ?_, fun ρ0 => ?_, fun c hc => ?_⟩
      · rcases List.mem_cons.mp hc with q | q
        · subst q
          exact ⟨by rw [hF, fo.eF], (List.getElem?_eq_some_iff.mp (subD_eq hsub).1).1⟩
        · exact c4 c q
      · unfold putAll setsD
        rw [hsub]
        exact c5 _
      · rcases List.mem_cons.mp hc with q | q
        · subst q
          exact ⟨v', hσ, fun O' hA hB mv => fo.put O' H2 Z2 e F1 hA hB mv r1⟩
        · exact c6 c q
  | .hd f :: ks, _, _, _, _, .cons h hs, es, Es, r => by
    obtain ⟨cs, c1, c2, c3, c4, c5, c6⟩ := hs.chgs (show RepL K cm H2 Z2 es (plV ks _) Es from r)
    obtain ⟨rfl, _⟩ := h
    refine ⟨cs, c1, c2, c3, c4, fun ρ0 => ?_, c6⟩
    rw [← c5 ρ0]
    cases es <;> rfl
  | .nt f :: ks, _, _, _, _, .cons h hs, es, Es, r => by
    obtain ⟨cs, c1, c2, c3, c4, c5, c6⟩ := hs.chgs (show RepL K cm H2 Z2 es (plV ks _) Es from r)
    obtain ⟨rfl, _⟩ := h
    refine ⟨cs, c1, c2, c3, c4, fun ρ0 => ?_, c6⟩
    rw [← c5 ρ0]
    cases es <;> rfl
end
theorem rdd_at {K : PySem.W.Frag} {cm : Cm} {H1 : Hp} : ∀ (l : List D), l.all isAt = true → ∀ (Z2 : Zn), RepL K cm H1 Z2 l (l.map toV) (l.map fun _ => [])
  | [], _, _ => repL_nil
  | d :: l, hl, Z2 => by
    rw [List.all_cons, Bool.and_eq_true] at hl
    refine repL_cons ?_ (rdd_at l hl.2 Z2)
    cases d with
    | nd k ds => cases hl.1
    | non => exact ⟨rfl, rfl⟩
    | bl b => exact ⟨rfl, rfl⟩
    | int i => exact ⟨rfl, rfl⟩
    | str s => exact ⟨rfl, rfl⟩
theorem xcall_fin {K : PySem.W.Frag} {cm : Cm} {W : WX} {m : MM} {n : Nat} {aks : List AK} {dd : List D} {dvs : List V} (hdd : dd.all isAt = true) (hdv : dvs = dd.map toV) (hlen : aks.length + dd.length = n) {σ : L2.St} {H : Hp} {Q : VK} {Z : Zn} {ρ : En} {Fs : List (List Addr)} (ok : Ok K cm H σ ρ Fs Z)
    {H1 : Hp} {Z1 : Zn} {ds : List D} {vs : List V} {Os Ns : List (List Addr)} (ex : Ext H (lendZ Z Fs) H1 Z1) (as : AArgs K cm σ ρ Fs Z.b (fun a => a ∈ (wipeA Fs (plS aks)).flatten) H1 Z1.f aks ds vs Os Ns) (ndN : Ns.flatten.Nodup) (frN : ∀ a ∈ Ns.flatten, H a = none ∧ Mut (H1 a)) (nfN : ∀ a ∈ Ns.flatten, ¬ Z1.f a)
    (q0 : FinX K cm W σ H Z Fs Q (xEnd m aks dd ρ ds)) : spM K cm n (plPos aks 0) m (vs ++ dvs) H1 Q (fun cls d H' => W cls d σ H') := by
    unfold xEnd at q0
    have ok1 := ok.ext ex
    cases em : m (ds ++ dd) with
    | none => rw [em] at q0; exact q0.elim
    | some p =>
      obtain ⟨r, es⟩ := p
      rw [em] at q0
      dsimp only at q0
      split at q0
      rotate_left
      · exact q0.elim
      rename_i hc
      rw [Bool.and_eq_true, Bool.and_eq_true] at hc
      obtain ⟨⟨hr, hes⟩, hnd⟩ := hc
      have hnd := of_decide_eq_true hnd
      obtain ⟨l1, l2⟩ := as.len
      obtain ⟨ndO, ow⟩ := as.owned ok.nd hnd
      have inFs : ∀ a ∈ Os.flatten, a ∈ Fs.flatten := fun a ha => by
        obtain ⟨i, _, F, c1, c2⟩ := ow a ha
        exact flat_mem c1 c2
      have fl0 : ∀ l : List D, (l.map fun _ => ([] : List Addr)).flatten = [] := fun l => by induction l with
        | nil => rfl
        | cons d l ih => rw [List.map_cons, List.flatten_cons, ih]; rfl
      have flO : (Os ++ (dd.map fun _ => [])).flatten = Os.flatten := by rw [List.flatten_append, fl0, List.append_nil]
      have eb : Z1.b = Z.b := ex.b
      let f : Addr → Prop := fun a => Z1.f a ∨ a ∈ Ns.flatten
      have hrep : RepL K cm H1 (lentM H1 f (Os ++ (dd.map fun _ => [])).flatten) (ds ++ dd) (vs ++ dvs) (Os ++ (dd.map fun _ => [])) := by
        rw [flO, hdv]
        refine (as.repL (f := f) (O := Os.flatten) (fun a h => .inl h) (fun a h => .inr h) (fun a h => ⟨ok1.dom.b a h, fun q => (ok1.nz a (inFs a q)).2 h⟩) fun a h => ?_).app (rdd_at dd hdd _)
        obtain ⟨j, F, hj, c1, c2⟩ := wipeA_mem h
        refine ⟨mut_ne (ok1.mu a (flat_mem c1 c2)), fun q => ?_⟩
        obtain ⟨i, hi, G, g1, g2⟩ := ow a q
        exact slots_apart ok.nd c1 g1 (fun z => hj (z ▸ hi)) c2 g2
      have nfO : ∀ a ∈ Os.flatten, ¬ f a := fun a h q => q.elim (ok1.nz a (inFs a h)).1 fun z => mut_ne (ok.mu a (inFs a h)) (frN a z).1
      have ews : (plPos aks 0).filterMap ((vs ++ dvs)[·]?) = plV aks vs := plV_eq l2 fun j hj => by
        rw [Nat.zero_add, List.getElem?_append_left hj]
      refine ⟨f, ds ++ dd, Os ++ (dd.map fun _ => []), fun a h => h.elim (ok1.dom.f a) fun z => mut_ne (frN a z).2, by simp [l1, hlen], hrep, by rw [flO]; exact ndO, by rw [flO]; exact nfO, ?_⟩
      rw [ews, flO, em]
      -- behind the call
      have after : ∀ {H2 : Hp} {f' : Addr → Prop} {Es : List (List Addr)} {Fv : List Addr}, MEnd K cm H1 f Os.flatten (plV aks vs) H2 f' es Es Fv → ∃ ρ' Fs', putAll ρ aks es ρ = some ρ' ∧ Ok K cm H2 σ ρ' Fs' ⟨f', Z.b, fun _ => False⟩ ∧ SStep [] σ H Z Fs σ H2 ⟨f', Z.b, fun _ => False⟩ Fs' ∧ (Fs'.flatten ++ Fv).Nodup ∧
          (∀ a ∈ Fv, ¬ f' a ∧ ¬ Z.b a) ∧ (∀ a ∈ Fv, a ∈ Fs.flatten ∨ H a = none) := fun {H2 f' Es Fv} me => by
        let Z2 : Zn := ⟨f', Z.b, fun _ => False⟩
        have rE : RepL K cm H2 Z2 es (plV aks vs) Es := noB_onlyL me.rep hes fun _ h => h
        obtain ⟨cs, c1, c2, c3, c4, c5, c6⟩ := as.chgs rE
        have n1 : (cs.map (·.i)).Nodup := by rw [c1]; exact hnd
        have back1 : ∀ a, H1 a = none → H a = none := fun a h => ex.gr.back h
        have orX : ∀ x ∈ Es.flatten ++ Fv, x ∈ (cs.map Chg.G).flatten ∨ x ∉ Fs.flatten := fun x hx => (me.org x hx).imp (fun q => by rw [c2]; exact q) fun q z => mut_ne (ok1.mu x z) q
        obtain ⟨nd2, sub2⟩ := setsF_ok2 (F := Fv) ok.nd n1 (fun c hc => (c4 c hc).1) (X := Es.flatten) (by rw [c3]) me.nd orX
        have mv : CellMove K cm H1 H2 ⟨Z1.f, Z.b, fun _ => False⟩ Z2 id (fun a => ¬ a ∈ Os.flatten) := cell_kept me.keep (fun a h => ok1.mu a (inFs a h)) (fun a h => ⟨(ok1.nz a (inFs a h)).1, (ok1.nz a (inFs a h)).2, fun z => z⟩) (fun a h => me.fm a (.inl h)) (fun _ h => h) fun _ h => h
        have mE := RepL.mut es rE
        have offO : ∀ c ∈ cs, ∀ x, (x ∈ c.A ∨ x ∈ c.B) → x ∉ Os.flatten := fun c hc x hx q => by
          obtain ⟨i, hi, G, g1, g2⟩ := ow x q
          have hF := (c4 c hc).1
          have ndF := ok.nd.sublist (flatten_get hF)
          by_cases ei : c.i = i
          · -- the same slot: x is in its own G
            rw [← c2] at q
            obtain ⟨L, hL, hx2⟩ := List.mem_flatten.mp q
            obtain ⟨c', hc', rfl⟩ := List.mem_map.mp hL
            by_cases ec : c'.i = c.i
            · have : c' = c := by
                have inj : ∀ {l : List Chg}, (l.map (·.i)).Nodup → ∀ a ∈ l, ∀ b ∈ l, a.i = b.i → a = b := by
                  intro l
                  induction l with
                  | nil => exact fun _ _ h => nomatch h
                  | cons y l ih =>
                    intro nl a ha b hb e
                    obtain ⟨m1, m2⟩ := List.nodup_cons.mp (show (y.i :: l.map (·.i)).Nodup from nl)
                    rcases List.mem_cons.mp ha with p | p
                    · rcases List.mem_cons.mp hb with p2 | p2
                      · rw [p, p2]
                      · subst p; exact absurd (List.mem_map.mpr ⟨b, p2, e.symm⟩) m1
                    · rcases List.mem_cons.mp hb with p2 | p2
                      · subst p2; exact absurd (List.mem_map.mpr ⟨a, p, e⟩) m1
                      · exact ih m2 a p b p2 e
                exact inj n1 c' hc' c hc ec
              subst this
              rw [List.append_assoc] at ndF
              rcases hx with hx | hx
              · exact (List.nodup_append.mp ndF).2.2 x hx x (List.mem_append_left _ hx2) rfl
              · exact (List.nodup_append.mp (List.nodup_append.mp ndF).2.1).2.2 x hx2 x hx rfl
            · exact slots_apart ok.nd (c4 c' hc').1 hF ec (show x ∈ c'.A ++ c'.G ++ c'.B by simp [hx2]) (show x ∈ c.A ++ c.G ++ c.B by rcases hx with hx | hx <;> simp [hx])
          · exact slots_apart ok.nd hF g1 ei (show x ∈ c.A ++ c.G ++ c.B by rcases hx with hx | hx <;> simp [hx]) g2
        have rE2 : RepE K cm H2 Z2 σ (setsD cs ρ) (setsF Chg.E cs Fs) := by
          refine ⟨by rw [setsD_len]; exact ok.rep.lσ, by rw [setsF_len, setsD_len]; exact ok.rep.lF, fun j d q => ?_⟩
          by_cases hj : ∃ c ∈ cs, c.i = j
          · obtain ⟨c, hcm, rfl⟩ := hj
            rw [setsD_at n1 hcm (c4 c hcm).2] at q
            cases q
            obtain ⟨v, v1, v2⟩ := c6 c hcm
            exact ⟨v, _, v1, setsF_at n1 hcm (by rw [ok.rep.lF]; exact (c4 c hcm).2), v2 (fun a => a ∈ Os.flatten) (fun x hx => offO c hcm x (.inl hx)) (fun x hx => offO c hcm x (.inr hx)) mv⟩
          · have off : ∀ c ∈ cs, c.i ≠ j := fun c hc e => hj ⟨c, hc, e⟩
            rw [setsD_off off] at q
            obtain ⟨v, F, a, b2, r2⟩ := ok1.rep.get j d q
            refine ⟨v, F, a, by rw [setsF_off off]; exact b2, r2.stay mv fun x hx hq => ?_⟩
            obtain ⟨i, hi, G, g1, g2⟩ := ow x hq
            rw [← c1] at hi
            obtain ⟨c, hcm, ei⟩ := List.mem_map.mp hi
            exact slots_apart ok.nd b2 g1 (fun z => off c hcm (ei.trans z.symm)) hx g2
        have subFs : ∀ x ∈ (setsF Chg.E cs Fs).flatten, (x ∈ Fs.flatten ∧ x ∉ Os.flatten) ∨ x ∈ Es.flatten := fun x hx => by
          have l : ∀ c ∈ cs, c.i < Fs.length := fun c hc => (List.getElem?_eq_some_iff.mp (c4 c hc).1).1
          have p1 := setsF_perm (h := Chg.E) n1 l
          have p2 := setsF_perm (h := Chg.G) n1 l
          rw [setsF_same (fun c hc => (c4 c hc).1), c2] at p2
          rw [c3] at p1
          rcases List.mem_append.mp (p1.mem_iff.mp hx) with h | h
          · exact .inr h
          · have nn := List.nodup_append.mp (p2.nodup_iff.mp ok.nd)
            exact .inl ⟨p2.mem_iff.mpr (List.mem_append_right _ h), fun z => nn.2.2 x z x h rfl⟩
        refine ⟨setsD cs ρ, setsF Chg.E cs Fs, c5 ρ, ⟨rE2, ⟨me.fd, fun a h q => ?_, fun _ h => h.elim⟩, fun a ha => ?_, (List.nodup_append.mp nd2).1, fun a ha => ?_, fun _ h => h⟩, ⟨fun a o h n => me.keep a o (ex.gr a o h) fun z => n (inFs a z), fun a ha => ?_, fun a h => me.fm a (.inl (ex.f a h)), fun a h => ?_, rfl, fun _ h => nomatch h⟩, nd2, fun a ha => ?_, fun a ha => ?_⟩
        · have hb1 := ok1.dom.b a h
          cases hh : H1 a with
          | none => exact hb1 hh
          | some o =>
            have := me.keep a o hh fun z => (ok1.nz a (inFs a z)).2 h
            rw [q] at this
            cases this
        · rcases subFs a ha with ⟨h, hn⟩ | h
          · cases hh : H1 a with
            | none => exact absurd hh (mut_ne (ok1.mu a h))
            | some o =>
              have e2 := me.keep a o hh hn
              have := ok1.mu a h
              rw [hh] at this
              rw [e2]; exact this
          · exact mE a h
        · rcases subFs a ha with ⟨h, hn⟩ | h
          · refine ⟨fun z => ?_, (ok1.nz a h).2⟩
            rcases me.fn a z with q | q | q
            · rcases q with q | q
              · exact (ok1.nz a h).1 q
              · exact mut_ne (ok.mu a h) (frN a q).1
            · exact hn q
            · exact mut_ne (ok1.mu a h) q
          · refine ⟨me.nf a (List.mem_append_left _ h), fun z => ?_⟩
            rcases me.org a (List.mem_append_left _ h) with q | q
            · exact (ok1.nz a (inFs a q)).2 z
            · exact ok1.dom.b a z q
        · rcases subFs a ha with ⟨h, _⟩ | h
          · exact .inl h
          · exact (me.org a (List.mem_append_left _ h)).imp (inFs a) (back1 a)
        · rcases me.fn a h with q | q | q
          · rcases q with q | q
            · exact (ex.fn a q).imp id fun q => .inr q
            · exact .inr (.inr (frN a q).1)
          · exact .inr (.inl (inFs a q))
          · exact .inr (.inr (back1 a q))
        · refine ⟨me.nf a (List.mem_append_right _ ha), fun z => ?_⟩
          rcases me.org a (List.mem_append_right _ ha) with q | q
          · exact (ok1.nz a (inFs a q)).2 z
          · exact ok1.dom.b a z q
        · exact (me.org a (List.mem_append_right _ ha)).imp (inFs a) (back1 a)
      cases r with
      | no => cases hr
      | ok d =>
        intro v H2 f' Es F me rp
        obtain ⟨ρ', Fs', hp, ok2, st, nd2, nz2, or2⟩ := after me
        rw [hp] at q0
        have nb : noB d = true := hr
        exact q0 v H2 _ Fs' F st ⟨ok2, repL_cons (noB_only rp nb fun _ h => h) repL_nil, by simpa using nd2, by simpa using nz2⟩ or2
      | ex x =>
        intro cls d H2 f' Es me xr
        obtain ⟨ρ', Fs', hp, ok2, st, _, _, _⟩ := after me
        rw [hp] at q0
        exact q0 cls d H2 _ Fs' st ok2 (xr.back fun _ h => h)
theorem xcall_end {K : PySem.W.Frag} {cm : Cm} {W : WX} {m : MM} {n : Nat} {aks : List AK} {dd : List D} {dvs : List V} (hdd : dd.all isAt = true) (hdv : dvs = dd.map toV) (hlen : aks.length + dd.length = n) {σ : L2.St} {H : Hp} {Q : VK} (q0 : tX K cm W (xCall m aks dd) σ H Q) :
    tAs K cm W aks σ H (fun vs H1 => spM K cm n (plPos aks 0) m (vs ++ dvs) H1 Q (fun cls d H' => W cls d σ H')) := by
  obtain ⟨Z, ρ, Fs, ok, q0⟩ := q0
  unfold xCall at q0
  refine args_run ok aks (.refl ok.pure.dom) _ (fun e => by rw [e] at q0; exact q0) (fun x e cls dd H' Z' ex xr => ?_) fun ds e vs Os Ns H1 Z1 ex as ndN frN nfN => ?_
  · rw [e] at q0
    exact q0 cls dd H' _ Fs (SStep.ext ok ex) (ok.ext ex) (xr.back fun _ h => h)
  · rw [e] at q0
    exact xcall_fin hdd hdv hlen ok ex as ndN frN nfN q0
/-- ahead of the arguments stands the object whose method is called -/
def recvOk (c n : Str) (ρ : En) : List AK → Bool
  | .pl i π :: _ => match subD ρ i π with
    | some (_, _, .nd (.obj _ c' fs) _) => decide (c' = c) && !fs.contains n
    | _ => false
  | _ => false
def xMeth (c n : Str) (m : MM) (aks : List AK) (dd : List D) : Xf := fun ρ => if recvOk c n ρ aks then xCall m aks dd ρ else none
theorem lookup_out {α : Type} {n : Str} : ∀ {fs : List Str} {vs : List α}, fs.contains n = false → (fs.zip vs).lookup n = none
  | [], _, _ => rfl
  | f :: fs, [], _ => rfl
  | f :: fs, v :: vs, h => by
    rw [List.contains_cons, Bool.or_eq_false_iff] at h
    rw [List.zip_cons_cons, List.lookup]
    rw [h.1]
    exact lookup_out h.2
theorem xmeth_end {K : PySem.W.Frag} {cm : Cm} {W : WX} {c nm : Str} {m : MM} {n i : Nat} {π : Pi'} {aks : List AK} {dd : List D} {dvs : List V} (hdd : dd.all isAt = true) (hdv : dvs = dd.map toV) (hlen : aks.length + 1 + dd.length = n) {σ : L2.St} {H : Hp} {Q : VK} (q0 : tX K cm W (xMeth c nm m (.pl i π :: aks) dd) σ H Q) :
    tPth2 K cm W i π σ H (fun x H1 => ∃ a dx fs, x = .ref a ∧ H1 a = some (.ins (cm c) dx fs) ∧ fs.lookup nm = none ∧ tAs K cm W aks σ H1 (fun vs H2 => spM K cm n (plPos (.pl i π :: aks) 0) m (x :: (vs ++ dvs)) H2 Q (fun cls d H' => W cls d σ H'))) := by
  obtain ⟨Z, ρ, Fs, ok, q0⟩ := q0
  unfold xMeth at q0
  split at q0
  rotate_left
  · exact q0.elim
  rename_i hr
  unfold recvOk at hr
  dsimp only at hr
  split at hr
  rotate_left
  · cases hr
  rename_i d js fl c' fs es q
  rw [Bool.and_eq_true] at hr
  have hc : c' = c := of_decide_eq_true hr.1
  subst hc
  have hf : fs.contains nm = false := by simpa using hr.2
  unfold xCall at q0
  have h0 := subD_eq q
  have e : Ext H (lendZ Z Fs) H (lendZ Z Fs) := .refl ok.pure.dom
  refine ⟨Z, ρ, Fs, d, js, _, ok, h0.1, h0.2.1, h0.2.2, fun H2 Z2 v F v0 F0 A B ex hs hF fo => ?_⟩
  obtain ⟨a, us, Es, rfl, cell, _, _⟩ := fo.rep
  obtain ⟨⟨dx, hi⟩, hl, _⟩ := cell
  refine ⟨a, dx, _, rfl, hi, lookup_out hf, ?_⟩
  generalize hD : (D.nd (.obj fl c' fs) es) = d0 at *
  by_cases nb : noB d0 = true
  rotate_left
  · unfold evA at q0
    rw [q] at q0
    dsimp only at q0
    rw [if_neg nb] at q0
    exact q0.elim
  have eev : evA (plS (.pl i π :: aks)) ρ (.pl i π :: aks) = (evA (plS (.pl i π :: aks)) ρ aks).bind fun ds => .ok (d0 :: ds) := by
    conv => lhs; unfold evA
    rw [q]
    dsimp only
    rw [if_pos nb]
  rw [eev] at q0
  refine args_run (hid := plS (.pl i π :: aks)) ok aks (e.trans ex) _ (fun q2 => by rw [q2] at q0; exact q0) (fun x q2 cls dd H' Z' ex' xr => ?_) fun ds q2 vs Os Ns H3 Z3 ex3 as nd fr nf => ?_
  · rw [q2] at q0
    exact q0 cls dd H' _ Fs (SStep.ext ok ex') (ok.ext ex') (xr.back fun _ h => h)
  · rw [q2] at q0
    have := xcall_fin (aks := .pl i π :: aks) (ds := d0 :: ds) (vs := .ref a :: vs) (Os := F0 :: Os) (Ns := [] :: Ns) hdd hdv (by simpa using hlen) ok (ex.trans ex3) (.cons ⟨rfl, nb, d, js, v, F, A, B, q, hs, hF, fo.move (cell_grow ex3.gr ex3.f (fun _ h => h) fun _ h => h)⟩ as) (by simpa using nd) (fun x hx => by
      have hx : x ∈ Ns.flatten := by simpa using hx
      exact ⟨ex.gr.back (fr x hx).1, (fr x hx).2⟩) (by simpa using nf) q0
    exact this
end OB

namespace OB
open PySem PySem.Spec PyProof.Rows L2
/-! ### o.m(..), what is raised is wished for at the caller's slots -/
def tMethSD (C : Addr) (m : Str) (sp : Sp) (dvs : List V) (E : L2.St → XK) (ta : TE) (t : TA) : TE := fun σ H Q => ta σ H fun x H1 => ∃ a dx fs, x = .ref a ∧ H1 a = some (.ins C dx fs) ∧ fs.lookup m = none ∧ t σ H1 fun vs H2 => sp (x :: (vs ++ dvs)) H2 Q (E σ)
section
variable {X : Cx} {CX : CXT} {k : Nat} {f C : Addr} {fd : FuncData} {ps : List Str} {sp : Sp} {dvs : List V} {ds : List Value} {E : L2.St → XK} {x m : Str} {p pos apos : Pos} {e o : Expr} {es : List Expr} {ta : TE} {t : TA}
theorem pe_methSD {pl : Sem Bool} (he : PE X o ta) (c : Cls X.K C) (hm : Meth X.K C m f) (F : FnOk X.prog X.w X.K X.mg X.base CX k f fd ps sp) (hr : Room k X.A) (hb : Binds X.K fd ps ds) (hd : Vals dvs ds) (hx : ∀ σ, PassesAt CX X σ (E σ)) (ha : PA X (e :: es) t)
    (hst : starEach (e :: es) X.env = (false, eval e X.env) :: starEach es X.env := by rfl) (hpl : (backTo pos (starEach es X.env)).any (·.1) = false := by rfl)
    (ht : eval (.Call (.Attribute o m apos) (e :: es) [] pos) X.env = (do
      let ov ← eval o X.env
      standAt apos.atName
      let (f, first) ← holding [ov] (getMethod ov m pl)
      callWith pos f first (backTo pos (starEach (e :: es) X.env)) (backToKw pos (keywordEach [] X.env))) := by rfl) :
    PE X (.Call (.Attribute o m apos) (e :: es) [] pos) (tMethSD C m sp dvs E ta t) := by
  refine ⟨fun pins s σ H Q I h => ?_⟩
  refine PySem.W.methodCall_KW (pl := pl) (thn (he.run pins s σ H _ I h) fun u s1 ⟨x, H1, I1, rx, a, dx, fs, ex, ea, l, q⟩ => ?_) ht
  subst ex
  obtain rfl : u = Value.ref a := rx
  refine getmeth_ok I1 ea c hm l ?_
  refine PySem.W.callWith_K (first := [.ref a]) (h₀ := X.base) I.ok.mod.kin hm.kp (thn (ha.run pos pins s1 σ H1 _ I1 q) fun us s2 ⟨vs, H2, I2, r, q2⟩ => ⟨I2.kIn, ?_⟩) hst hpl
  exact run_fnSD (us := .ref a :: us) (vs := .ref a :: vs) F hr hb hd (hx σ) I2 (.cons rfl r) q2
theorem pe_methSD0 {pl : Sem Bool} (he : PE X o ta) (c : Cls X.K C) (hm : Meth X.K C m f) (F : FnOk X.prog X.w X.K X.mg X.base CX k f fd ps sp) (hr : Room k X.A) (hb : Binds X.K fd ps ds) (hd : Vals dvs ds) (hx : ∀ σ, PassesAt CX X σ (E σ))
    (ht : eval (.Call (.Attribute o m apos) [] [] pos) X.env = (do
      let ov ← eval o X.env
      standAt apos.atName
      let (f, first) ← holding [ov] (getMethod ov m pl)
      callWith pos f first (backTo pos (starEach [] X.env)) (backToKw pos (keywordEach [] X.env))) := by rfl) :
    PE X (.Call (.Attribute o m apos) [] [] pos) (tMethSD C m sp dvs E ta tNil) := by
  refine ⟨fun pins s σ H Q I h => ?_⟩
  refine PySem.W.methodCall_KW (pl := pl) (thn (he.run pins s σ H _ I h) fun u s1 ⟨x, H1, I1, rx, a, dx, fs, ex, ea, l, q⟩ => ?_) ht
  subst ex
  obtain rfl : u = Value.ref a := rx
  refine getmeth_ok I1 ea c hm l ?_
  exact PySem.W.callWith_K0 (first := [.ref a]) I1.kIn hm.kp (run_fnSD (us := [.ref a]) (vs := [.ref a]) F hr hb hd (hx σ) I1 (.cons rfl .nil) q)
theorem pe_call0SD (F : FnOk X.prog X.w X.K X.mg X.base CX k f fd ps sp) (hr : Room k X.A) (hg : Gl X x) (hm : X.mg x = some (.ref f)) (hk : PySem.W.keepIn X.K (.ref f) = true) (hb : Binds X.K fd ps ds) (hd : Vals dvs ds) (hx : ∀ σ, PassesAt CX X σ (E σ))
    (hdb : (x == ("__debug__" : Str)) = false := by decide) : PE X (.Call (.Name x p) [] [] pos) (tCallSD sp dvs E tNil) := by
  refine ⟨fun pins s σ H Q I h => ?_⟩
  refine wpAny_Call_Name_kw (ld_glob I hg hm ?_ hdb)
  exact PySem.W.callWith_K0 I.kIn hk (run_fnSD (us := []) F hr hb hd (hx σ) I .nil h)
end

/-! ### what is called, by name -/
section
variable (P : Program) (w : World) (K : PySem.W.Frag) (mg : Str → Option Value) (base : Heap) (cm : Cm)
def GoodF (x : Str) (k : Nat) (sp : Sp) (dd : List D) : Prop :=
  ∃ (a : Addr) (fd : FuncData) (ps : List Str) (ds : List Value), mg x = some (.ref a) ∧ PySem.W.keepIn K (.ref a) = true ∧ Binds K fd ps ds ∧ Vals (dd.map toV) ds ∧ FnOk P w K mg base (L2.CX P w) k a fd ps sp
def GoodMt (c n : Str) (k : Nat) (sp : Sp) (dd : List D) : Prop :=
  ∃ (f : Addr) (fd : FuncData) (ps : List Str) (ds : List Value), Cls K (cm c) ∧ Meth K (cm c) n f ∧ Binds K fd ps ds ∧ Vals (dd.map toV) ds ∧ FnOk P w K mg base (L2.CX P w) k f fd ps sp
def GoodMk (c : Str) (k : Nat) (sp : Sp) (dd : List D) : Prop :=
  ∃ (f : Addr) (fd : FuncData) (ps : List Str) (ds : List Value), mg c = some (.ref (cm c)) ∧ Mk K (cm c) f ∧ Binds K fd ps ds ∧ Vals (dd.map toV) ds ∧ FnOk P w K mg base (L2.CX P w) k f fd ps sp
end
theorem as_nil {X : Cx} {cm : Cm} {W : WX} : PA X [] (tAs X.K cm W []) := pa_nil
theorem as_cons {X : Cx} {cm : Cm} {W : WX} {e : Expr} {es : List Expr} {a : AK} {aks : List AK} (h : PE X e (a.te X.K cm W)) (hs : PA X es (tAs X.K cm W aks)) (hst : starEach (e :: es) X.env = (false, eval e X.env) :: starEach es X.env := by rfl) : PA X (e :: es) (tAs X.K cm W (a :: aks)) := pa_cons h hs hst
section
variable {X : Cx} {cm : Cm} {W : WX} {x c nm : Str} {p pos apos : Pos} {o e : Expr} {es : List Expr} {k j n i : Nat} {π : Pi'} {mt : List Nat} {m : MM} {dd : List D} {aks : List AK}
theorem x_call (tk : Takes X W) (G : GoodF X.prog X.w X.K X.mg X.base x k (spM X.K cm n mt m) dd) (hr : Room j X.A) (hk : k ≤ j) (hg : Gl X x) (hdd : dd.all isAt = true) (hn : aks.length + dd.length = n) (hmt : plPos aks 0 = mt) (ha : PA X (e :: es) (tAs X.K cm W aks))
    (hdb : (x == ("__debug__" : Str)) = false := by decide) (he : starEach (e :: es) X.env = (false, eval e X.env) :: starEach es X.env := by rfl) (hpl : (backTo pos (starEach es X.env)).any (·.1) = false := by rfl) :
    SX X cm W (.Call (.Name x p) (e :: es) [] pos) (xCall m aks dd) := by
  obtain ⟨a, fd, ps, ds, hm, kp, b, hd, F⟩ := G
  subst hmt
  exact PE.imp (pe_callSD (E := fun σ cls d H => W cls d σ H) F (hr.mono hk) hg hm kp b hd (fun σ => passAt tk σ) ha hdb he hpl) fun σ H Q q0 => xcall_end hdd rfl hn q0
theorem x_meth {pl : Sem Bool} (tk : Takes X W) (G : GoodMt X.prog X.w X.K X.mg X.base cm c nm k (spM X.K cm n mt m) dd) (hr : Room j X.A) (hk : k ≤ j) (hdd : dd.all isAt = true) (hn : aks.length + 1 + dd.length = n) (hmt : plPos (.pl i π :: aks) 0 = mt) (ho : SP2 X cm W o i π) (ha : PA X (e :: es) (tAs X.K cm W aks))
    (hst : starEach (e :: es) X.env = (false, eval e X.env) :: starEach es X.env := by rfl) (hpl : (backTo pos (starEach es X.env)).any (·.1) = false := by rfl)
    (ht : eval (.Call (.Attribute o nm apos) (e :: es) [] pos) X.env = (do
      let ov ← eval o X.env
      standAt apos.atName
      let (f, first) ← holding [ov] (getMethod ov nm pl)
      callWith pos f first (backTo pos (starEach (e :: es) X.env)) (backToKw pos (keywordEach [] X.env))) := by rfl) :
    SX X cm W (.Call (.Attribute o nm apos) (e :: es) [] pos) (xMeth c nm m (.pl i π :: aks) dd) := by
  obtain ⟨f, fd, ps, ds, cl, hm, b, hd, F⟩ := G
  subst hmt
  exact PE.imp (pe_methSD (pl := pl) (E := fun σ cls d H => W cls d σ H) ho cl hm F (hr.mono hk) b hd (fun σ => passAt tk σ) ha hst hpl ht) fun σ H Q q0 => xmeth_end hdd rfl hn q0
theorem x_meth0 {pl : Sem Bool} (tk : Takes X W) (G : GoodMt X.prog X.w X.K X.mg X.base cm c nm k (spM X.K cm n mt m) dd) (hr : Room j X.A) (hk : k ≤ j) (hdd : dd.all isAt = true) (hn : 1 + dd.length = n) (hmt : [0] = mt) (ho : SP2 X cm W o i π)
    (ht : eval (.Call (.Attribute o nm apos) [] [] pos) X.env = (do
      let ov ← eval o X.env
      standAt apos.atName
      let (f, first) ← holding [ov] (getMethod ov nm pl)
      callWith pos f first (backTo pos (starEach [] X.env)) (backToKw pos (keywordEach [] X.env))) := by rfl) :
    SX X cm W (.Call (.Attribute o nm apos) [] [] pos) (xMeth c nm m [.pl i π] dd) := by
  obtain ⟨f, fd, ps, ds, cl, hm, b, hd, F⟩ := G
  subst hmt
  exact PE.imp (pe_methSD0 (pl := pl) (E := fun σ cls d H => W cls d σ H) ho cl hm F (hr.mono hk) b hd (fun σ => passAt tk σ) ht) fun σ H Q q0 => xmeth_end (aks := []) hdd rfl (by simpa using hn) q0
end

/-! ### a method that changes nothing -/
theorem eL_len {ρ : En} : ∀ {fs : List (En → Ot D)} {ds : List D}, eL fs ρ = .ok ds → ds.length = fs.length
  | [], ds, h => by cases h; rfl
  | f :: fs, ds, h => by
    unfold eL at h
    cases q1 : f ρ with
    | no => rw [q1] at h; cases h
    | ex x => rw [q1] at h; cases h
    | ok d =>
      rw [q1, Ot.bind_ok] at h
      cases q2 : eL fs ρ with
      | no => rw [q2] at h; cases h
      | ex x => rw [q2] at h; cases h
      | ok es => rw [q2, Ot.bind_ok] at h; cases h; simp [eL_len q2]
theorem flat_map_nil {α : Type} : ∀ l : List α, (l.map fun _ => ([] : List Addr)).flatten = []
  | [] => rfl
  | d :: l => by rw [List.map_cons, List.flatten_cons, flat_map_nil l]; rfl
/-- behind the arguments -/
theorem call_fin {K : PySem.W.Frag} {cm : Cm} {W : WX} {m : List D → Ot D} {n : Nat} {dd : List D} {dvs : List V} (hdd : dd.all isAt = true) (hdv : dvs = dd.map toV) {σ : L2.St} {H H1 : Hp} {Z Z1 : Zn} {ds : List D} {vs : List V} {Gs : List (List Addr)} {Q : VK} (hlen : ds.length + dd.length = n)
    (dm : Dom H Z) (r1 : ResL K cm H Z H1 Z1 [] ds vs Gs) (q0 : FinD K cm W σ H Z Q (back (m (ds.map toArg ++ dd)))) : spP K cm n m (vs ++ dvs) H1 Q (fun cls d H' => W cls d σ H') := by
  have dm1 := dm.ext r1.ext
  obtain ⟨Ms, e1, e2⟩ := r1.rep.arg (f := fun a => Z1.f a ∨ a ∈ Gs.flatten) (fun a h => .inr h) (fun a h => .inl h)
  have hm := RepL.mut ds r1.rep
  refine ⟨fun a => Z1.f a ∨ a ∈ Gs.flatten, ds.map toArg ++ dd, Ms ++ (dd.map fun _ => []), fun a h => h.elim (dm1.f a) fun z => mut_ne (hm a z), by simp [hlen], by rw [List.flatten_append, e1, flat_map_nil]; rfl, ?_, ?_⟩
  · rw [hdv]; exact e2.app (rdd_at dd hdd _)
  · have extB : ∀ {H2 : Hp} {Z2 : Zn}, Ext H1 (lentZ H1 fun a => Z1.f a ∨ a ∈ Gs.flatten) H2 Z2 → Ext H Z H2 ⟨Z2.f, Z.b, Z.t⟩ := fun {H2 Z2} e =>
      ⟨r1.ext.gr.trans e.gr, fun a h => e.f a (.inl (r1.ext.f a h)), fun a h => (e.fn a h).elim (fun q => q.elim (r1.ext.fn a) fun z => .inr (r1.new a z)) fun q => .inr (r1.ext.gr.back q), e.fd, rfl, rfl⟩
    cases q2 : m (ds.map toArg ++ dd) with
    | no => rw [q2] at q0; exact q0
    | ok r =>
      rw [q2] at q0
      have q0 : FinD K cm W σ H Z Q (if noB r then .ok r else .no) := q0
      split at q0
      · rename_i nb
        intro v H2 Z2 F r2
        exact q0 v H2 ⟨Z2.f, Z.b, Z.t⟩ F ⟨extB r2.ext, noB_only r2.rep nb fun _ h => h, r2.nd, fun a h => .inl (r1.ext.gr.back (r2.new a h)), r2.nf⟩
      · exact q0.elim
    | ex x =>
      rw [q2] at q0
      have q0 : FinD K cm W σ H Z Q (.ex x) := q0
      intro cls d H2 Z2 e xr
      exact q0 cls d H2 ⟨Z2.f, Z.b, Z.t⟩ (extB e) (xr.back fun _ h => h)
def objHas (c n : Str) : D → Bool
  | .nd (.obj _ c' fs) _ => decide (c' = c) && !fs.contains n
  | _ => false
def eMeth (c n : Str) (m : List D → Ot D) (dd : List D) (f : En → Ot D) (fs : List (En → Ot D)) : En → Ot D := fun ρ => (f ρ).bind fun x => if objHas c n x then (eL fs ρ).bind fun ds => back (m ((x :: ds).map toArg ++ dd)) else .no
theorem objHas_ok {K : PySem.W.Frag} {cm : Cm} {H : Hp} {Z : Zn} {c n : Str} {d : D} {v : V} {F : List Addr} (h : Rep K cm H Z d v F) (e : objHas c n d = true) : ∃ a dx fs, v = .ref a ∧ H a = some (.ins (cm c) dx fs) ∧ fs.lookup n = none := by
  unfold objHas at e
  split at e
  · rename_i fl c' fs es
    rw [Bool.and_eq_true] at e
    have hc := of_decide_eq_true e.1
    subst hc
    obtain ⟨a, us, Es, rfl, ⟨⟨dx, hi⟩, hl, _⟩, _, _⟩ := h
    exact ⟨a, dx, _, rfl, hi, lookup_out (by simpa using e.2)⟩
  · cases e
theorem meth_end {K : PySem.W.Frag} {cm : Cm} {W : WX} {c nm : Str} {m : List D → Ot D} {n : Nat} {dd : List D} {f : En → Ot D} {fs : List (En → Ot D)} {dvs : List V} (hdd : dd.all isAt = true) (hdv : dvs = dd.map toV) (hlen : fs.length + 1 + dd.length = n) {σ : L2.St} {H : Hp} {Q : VK} (q0 : tP K cm W (eMeth c nm m dd f fs) σ H Q) :
    tP K cm W f σ H (fun x H1 => ∃ a dx fs', x = .ref a ∧ H1 a = some (.ins (cm c) dx fs') ∧ fs'.lookup nm = none ∧ tPL K cm W (eL fs) σ H1 (fun vs H2 => spP K cm n m (x :: (vs ++ dvs)) H2 Q (fun cls d H' => W cls d σ H'))) := by
  obtain ⟨Z, ρ, Fs, ok, q0⟩ := q0
  unfold eMeth at q0
  refine tP_bind ok (fun q => ?_) (fun x q v H1 Z1 F r1 => ?_) (fun x q => ?_)
  · rw [q] at q0; exact q0
  · rw [q, Ot.bind_ok] at q0
    split at q0
    · rename_i ty
      obtain ⟨a, dx, fs', rfl, e1, e2⟩ := objHas_ok r1.rep ty
      refine ⟨a, dx, fs', rfl, e1, e2, Z1, ρ, Fs, ok.ext r1.ext, ?_⟩
      cases q2 : eL fs ρ with
      | no => rw [q2] at q0; exact q0
      | ex x => rw [q2] at q0; exact fun cls dd H' Z' ex xr => q0 cls dd H' Z' (r1.ext.trans ex) xr
      | ok ds =>
        rw [q2, Ot.bind_ok] at q0
        intro vs H2 Z2 Gs r2
        have rl := ResL.cons r1 r2
        exact call_fin (vs := .ref a :: vs) hdd hdv (by simp [eL_len q2]; omega) ok.dom rl q0
    · exact q0.elim
  · rw [q] at q0; exact q0
section
variable {X : Cx} {cm : Cm} {W : WX} {x c nm : Str} {p pos apos : Pos} {o e : Expr} {es : List Expr} {k j n i : Nat} {m : List D → Ot D} {dd : List D} {f : En → Ot D} {fs : List (En → Ot D)}
theorem s_meth {pl : Sem Bool} (tk : Takes X W) (G : GoodMt X.prog X.w X.K X.mg X.base cm c nm k (spP X.K cm n m) dd) (hr : Room j X.A) (hk : k ≤ j) (hdd : dd.all isAt = true) (hn : fs.length + 1 + dd.length = n) (ho : SE X cm W o f) (ha : SA X cm W (e :: es) (eL fs))
    (hst : starEach (e :: es) X.env = (false, eval e X.env) :: starEach es X.env := by rfl) (hpl : (backTo pos (starEach es X.env)).any (·.1) = false := by rfl)
    (ht : eval (.Call (.Attribute o nm apos) (e :: es) [] pos) X.env = (do
      let ov ← eval o X.env
      standAt apos.atName
      let (f, first) ← holding [ov] (getMethod ov nm pl)
      callWith pos f first (backTo pos (starEach (e :: es) X.env)) (backToKw pos (keywordEach [] X.env))) := by rfl) :
    SE X cm W (.Call (.Attribute o nm apos) (e :: es) [] pos) (eMeth c nm m dd f fs) := by
  obtain ⟨g, fd, ps, ds, cl, hm, b, hd, F⟩ := G
  exact PE.imp (pe_methSD (pl := pl) (E := fun σ cls d H => W cls d σ H) ho cl hm F (hr.mono hk) b hd (fun σ => passAt tk σ) ha hst hpl ht) fun σ H Q q0 => meth_end hdd rfl hn q0
theorem s_meth0 {pl : Sem Bool} (tk : Takes X W) (G : GoodMt X.prog X.w X.K X.mg X.base cm c nm k (spP X.K cm n m) dd) (hr : Room j X.A) (hk : k ≤ j) (hdd : dd.all isAt = true) (hn : 1 + dd.length = n) (ho : SE X cm W o f)
    (ht : eval (.Call (.Attribute o nm apos) [] [] pos) X.env = (do
      let ov ← eval o X.env
      standAt apos.atName
      let (f, first) ← holding [ov] (getMethod ov nm pl)
      callWith pos f first (backTo pos (starEach [] X.env)) (backToKw pos (keywordEach [] X.env))) := by rfl) :
    SE X cm W (.Call (.Attribute o nm apos) [] [] pos) (eMeth c nm m dd f []) := by
  obtain ⟨g, fd, ps, ds, cl, hm, b, hd, F⟩ := G
  exact PE.imp (pe_methSD0 (pl := pl) (E := fun σ cls d H => W cls d σ H) ho cl hm F (hr.mono hk) b hd (fun σ => passAt tk σ) ht) fun σ H Q q0 => by
    obtain ⟨Z, ρ, Fs, ok, q⟩ := meth_end (fs := []) hdd rfl (by simpa using hn) q0
    refine tP_bind ok (fun e => by rw [e] at q; exact q) (fun d e v H1 Z1 F r => ?_) (fun x e => by rw [e] at q; exact q)
    rw [e] at q
    obtain ⟨a, dx, fs', e1, e2, e3, q4⟩ := q v H1 Z1 F r
    refine ⟨a, dx, fs', e1, e2, e3, ?_⟩
    obtain ⟨Z2, ρ2, Fs2, ok2, q5⟩ := q4
    exact q5 [] H1 Z2 [] (.nil ok2.dom)
/-- a def's value, no parameters given, what it raises let out -/
theorem s_call0X (tk : Takes X W) (G : GoodF X.prog X.w X.K X.mg X.base x k (spP X.K cm n m) dd) (hr : Room j X.A) (hk : k ≤ j) (hg : Gl X x) (hdd : dd.all isAt = true) (hn : dd.length = n) (hdb : (x == ("__debug__" : Str)) = false := by decide) :
    SE X cm W (.Call (.Name x p) [] [] pos) (eCall m dd []) := by
  obtain ⟨a, fd, ps, ds, hm, kp, b, hd, F⟩ := G
  exact PE.imp (pe_call0SD (E := fun σ cls d H => W cls d σ H) F (hr.mono hk) hg hm kp b hd (fun σ => passAt tk σ) hdb) fun σ H Q q0 => by
    obtain ⟨Z, ρ, Fs, ok, q3⟩ := call_end (n := n) (fs := []) hdd rfl (by simpa using hn) q0
    exact q3 [] H Z [] (.nil ok.dom)
theorem s_callF (tk : Takes X W) (G : GoodF X.prog X.w X.K X.mg X.base x k (spP X.K cm n m) dd) (hr : Room j X.A) (hk : k ≤ j) (hg : Gl X x) (hdd : dd.all isAt = true) (hn : fs.length + dd.length = n) (ha : SA X cm W (e :: es) (eL fs))
    (hdb : (x == ("__debug__" : Str)) = false := by decide) (he : starEach (e :: es) X.env = (false, eval e X.env) :: starEach es X.env := by rfl) (hpl : (backTo pos (starEach es X.env)).any (·.1) = false := by rfl) :
    SE X cm W (.Call (.Name x p) (e :: es) [] pos) (eCall m dd fs) := by
  obtain ⟨a, fd, ps, ds, hm, kp, b, hd, F⟩ := G
  exact s_call tk F (hr.mono hk) hg hm kp b hd hdd rfl hn ha hdb he hpl
end
end OB

namespace OB
open PySem PySem.Spec PyProof.Rows L2
/-! ### C(..) -/
def tMakeSD (C : Addr) (sp : Sp) (dvs : List V) (E : L2.St → XK) (t : TA) : TE := fun σ H Q => t σ H fun vs H1 => ∀ x dx, H1 x = none → H1 dx = none → dx ≠ x →
  sp (.ref x :: (vs ++ dvs)) (L2.upd (L2.upd H1 dx (.own x)) x (.ins C dx [])) (fun v H2 => v = .non ∧ Q (.ref x) H2) (E σ)
section
variable {X : Cx} {CX : CXT} {k : Nat} {f C : Addr} {fd : FuncData} {ps : List Str} {sp : Sp} {dvs : List V} {ds : List Value} {E : L2.St → XK} {x m : Str} {p pos apos : Pos} {e o : Expr} {es : List Expr} {ta : TE} {t : TA}
theorem run_makeSD {pins : List (Addr × Obj)} {σ : L2.St} {H : Hp} {s : Shared} {Q : VK} {us : List Value} {vs : List V} (M : Mk X.K C f) (F : FnOk X.prog X.w X.K X.mg X.base CX k f fd ps sp) (hr : Room (k + 1) X.A) (hb : Binds X.K fd ps ds) (hd : Vals dvs ds)
    (hx : PassesAt CX X σ (E σ)) (I : Inv X pins σ H s) (r : Vals vs us)
    (h : ∀ x dx, H x = none → H dx = none → dx ≠ x → sp (.ref x :: (vs ++ dvs)) (L2.upd (L2.upd H dx (.own x)) x (.ins C dx [])) (fun v H2 => v = .non ∧ Q (.ref x) H2) (E σ)) :
    wpAny (model X.prog X.w) X.A (call (.ref C) us) (EP X pins σ Q) X.xe s := by
  have hq := h (s.heap.objs.size + 1) s.heap.objs.size (I.hok.fresh (Nat.le_succ _)) (I.hok.fresh (Nat.le_refl _)) (Nat.ne_of_lt (Nat.lt_succ_self _))
  have I2 := Inv.made (C := C) I
  have r2 : Vals (V.ref (s.heap.objs.size + 1) :: (vs ++ dvs)) (Value.ref (s.heap.objs.size + 1) :: (us ++ ds)) := .cons rfl (r.append hd)
  have hl : (Value.ref (s.heap.objs.size + 1) :: us ++ ds).length = ps.length := by
    have e := r2.length
    rw [F.len _ _ _ _ hq] at e
    exact e.symm
  refine wpAny_call (make_map (f := f) I.kIn M.makes M.init (beq_iff_eq.mp M.fn) (codeAny_mono (F.run _ X.stack _ _ ⟨Value.ref (s.heap.objs.size + 1) :: us, []⟩ (Value.ref (s.heap.objs.size + 1) :: (us ++ ds)) _ _ (E σ) (hr.make C us [])
    (I2.env0.make C us []) (hb _ (Value.ref (s.heap.objs.size + 1) :: us) I2.kIn hl) r2 hq) fun r s' hq' => ?_))
  cases r with
  | error e => exact hx pins _ _ e s' I2 hq'
  | ok fl =>
    cases fl with
    | ret u =>
      obtain ⟨v, H', I3, rv, ev, q3⟩ := I2.after hq'
      subst ev
      exact ⟨rv, ⟨V.ref (s.heap.objs.size + 1), H', I3, rfl, q3⟩⟩
    | next => exact False.elim hq'
    | brk => exact False.elim hq'
    | cont => exact False.elim hq'
theorem pe_makeSD (M : Mk X.K C f) (F : FnOk X.prog X.w X.K X.mg X.base CX k f fd ps sp) (hr : Room (k + 1) X.A) (hg : Gl X x) (hm : X.mg x = some (.ref C)) (hb : Binds X.K fd ps ds) (hd : Vals dvs ds) (hx : ∀ σ, PassesAt CX X σ (E σ))
    (ha : PA X (e :: es) t) (hdb : (x == ("__debug__" : Str)) = false := by decide) (he : starEach (e :: es) X.env = (false, eval e X.env) :: starEach es X.env := by rfl) (hpl : (backTo pos (starEach es X.env)).any (·.1) = false := by rfl) :
    PE X (.Call (.Name x p) (e :: es) [] pos) (tMakeSD C sp dvs E t) := by
  refine ⟨fun pins s σ H Q I h => ?_⟩
  refine wpAny_Call_Name_kw (ld_glob I hg hm ?_ hdb)
  refine PySem.W.callWith_K (h₀ := X.base) I.ok.mod.kin M.kp (thn (ha.run pos pins s σ H _ I h) fun us s1 ⟨vs, H1, I1, r, q⟩ => ⟨I1.kIn, ?_⟩) he hpl
  exact run_makeSD M F hr hb hd (hx σ) I1 r q
theorem pe_makeSD0 (M : Mk X.K C f) (F : FnOk X.prog X.w X.K X.mg X.base CX k f fd ps sp) (hr : Room (k + 1) X.A) (hg : Gl X x) (hm : X.mg x = some (.ref C)) (hb : Binds X.K fd ps ds) (hd : Vals dvs ds) (hx : ∀ σ, PassesAt CX X σ (E σ))
    (hdb : (x == ("__debug__" : Str)) = false := by decide) : PE X (.Call (.Name x p) [] [] pos) (tMakeSD C sp dvs E tNil) := by
  refine ⟨fun pins s σ H Q I h => ?_⟩
  refine wpAny_Call_Name_kw (ld_glob I hg hm ?_ hdb)
  exact PySem.W.callWith_K0 I.kIn M.kp (run_makeSD (us := []) M F hr hb hd (hx σ) I .nil h)
end
def mkBack : Option (Ot D × List D) → Ot D
  | some (.ok .non, [d]) => if noB d then .ok d else .no
  | some (.ex x, _) => .ex x
  | _ => .no
def eMake (c : Str) (m : MM) (dd : List D) (fs : List (En → Ot D)) : En → Ot D := fun ρ => (eL fs ρ).bind fun ds => mkBack (m (.nd (.obj .own c []) [] :: (ds.map toArg ++ dd)))
theorem make_fin {K : PySem.W.Frag} {cm : Cm} {W : WX} {c : Str} {m : MM} {n : Nat} {dd : List D} {dvs : List V} (hdd : dd.all isAt = true) (hdv : dvs = dd.map toV) {σ : L2.St} {H H1 : Hp} {Z Z1 : Zn} {ds : List D} {vs : List V} {Gs : List (List Addr)} {Q : VK} (hlen : ds.length + 1 + dd.length = n)
    (dm : Dom H Z) (r1 : ResL K cm H Z H1 Z1 [] ds vs Gs) (q0 : FinD K cm W σ H Z Q (mkBack (m (.nd (.obj .own c []) [] :: (ds.map toArg ++ dd))))) {x dx : Addr} (hx : H1 x = none) (hdx : H1 dx = none) (ne : dx ≠ x) :
    spM K cm n [0] m (.ref x :: (vs ++ dvs)) (L2.upd (L2.upd H1 dx (.own x)) x (.ins (cm c) dx [])) (fun v H2 => v = .non ∧ Q (.ref x) H2) (fun cls d H' => W cls d σ H') := by
  have dm1 := dm.ext r1.ext
  obtain ⟨Ms, e1, e2⟩ := r1.rep.arg (f := fun a => Z1.f a ∨ a ∈ Gs.flatten) (fun a h => .inr h) (fun a h => .inl h)
  have hm := RepL.mut ds r1.rep
  generalize eH2 : L2.upd (L2.upd H1 dx (.own x)) x (.ins (cm c) dx []) = H2
  have g0 : Grow H1 (L2.upd H1 dx (.own x)) := .new hdx
  have g : Grow H1 H2 := by
    rw [← eH2]
    exact g0.trans (.new (by rw [upd_ne ne.symm]; exact hx))
  have hHx : H2 x = some (.ins (cm c) dx []) := by rw [← eH2]; exact upd_same
  have fd1 : ∀ a, (Z1.f a ∨ a ∈ Gs.flatten) → H1 a ≠ none := fun a h => h.elim (dm1.f a) fun z => mut_ne (hm a z)
  have flO : ([x] :: (Ms ++ (dd.map fun _ => []))).flatten = [x] := by
    rw [List.flatten_cons, List.flatten_append, e1, flat_map_nil]; rfl
  refine ⟨fun a => Z1.f a ∨ a ∈ Gs.flatten, .nd (.obj .own c []) [] :: (ds.map toArg ++ dd), [x] :: (Ms ++ (dd.map fun _ => [])), fun a h q => fd1 a h (g.back q), by simp; omega, ?_, by rw [flO]; simp, fun a ha => ?_, ?_⟩
  · rw [flO, hdv]
    refine repL_cons ⟨x, [], [], rfl, ⟨⟨dx, hHx⟩, rfl, trivial⟩, repL_nil, by simp [ownA, Kd.isOwn, Kd.fl]⟩ (RepL.app (e2.grow g (fun _ h => h) (fun a h => ⟨fun q => h (g.back q), fun q => ?_⟩) fun _ h => h) (rdd_at dd hdd _))
    have : a = x := by simpa using q
    subst this
    exact h hx
  · rw [flO] at ha
    have : a = x := by simpa using ha
    subst this
    exact fun h => fd1 a h hx
  · have ews : ([0] : List Nat).filterMap ((V.ref x :: (vs ++ dvs))[·]?) = [V.ref x] := rfl
    rw [ews, flO]
    have extB : ∀ {H' : Hp} {f' : Addr → Prop} {es : List D} {Es : List (List Addr)} {Fv : List Addr}, MEnd K cm H2 (fun a => Z1.f a ∨ a ∈ Gs.flatten) [x] [V.ref x] H' f' es Es Fv → Ext H Z H' ⟨f', Z.b, Z.t⟩ := fun {H' f' es Es Fv} me =>
      ⟨fun a o h => me.keep a o (g a o (r1.ext.gr a o h)) (fun q => by
        have : a = x := by simpa using q
        subst this
        rw [r1.ext.gr a o h] at hx; cases hx), fun a h => me.fm a (.inl (r1.ext.f a h)), fun a h => by
        rcases me.fn a h with q | q | q
        · rcases q with q | q
          · exact r1.ext.fn a q
          · exact .inr (r1.new a q)
        · have : a = x := by simpa using q
          subst this
          exact .inr (r1.ext.gr.back hx)
        · exact .inr (r1.ext.gr.back (g.back q)), me.fd, rfl, rfl⟩
    cases em : m (.nd (.obj .own c []) [] :: (ds.map toArg ++ dd)) with
    | none => rw [em] at q0; exact q0.elim
    | some p =>
      obtain ⟨r, es⟩ := p
      rw [em] at q0
      cases r with
      | no => exact q0.elim
      | ex xd =>
        have q0 : FinD K cm W σ H Z Q (.ex xd) := q0
        intro cls d H' f' Es me xr
        exact q0 cls d H' ⟨f', Z.b, Z.t⟩ (extB me) (xr.back fun _ h => h)
      | ok d =>
        cases d with
        | non =>
          match es, q0 with
          | [], q0 => exact q0.elim
          | [d1], q0 =>
            have q0 : FinD K cm W σ H Z Q (if noB d1 then .ok d1 else .no) := q0
            split at q0
            rotate_left
            · exact q0.elim
            rename_i nb
            intro v H' f' Es F me rp
            refine ⟨rp.1, ?_⟩
            obtain ⟨v1, F1, hv1, rfl, r⟩ := repL1 me.rep
            cases hv1
            have fl1 : ([F1] : List (List Addr)).flatten = F1 := by simp
            refine q0 _ H' ⟨f', Z.b, Z.t⟩ F1 ⟨extB me, noB_only r nb fun _ h => h, ?_, fun a ha => .inl ?_, fun a ha => me.nf a (by simp [ha])⟩
            · have := me.nd
              rw [fl1] at this
              exact (List.nodup_append.mp this).1
            · rcases me.org a (by simp [ha]) with q | q
              · have : a = x := by simpa using q
                subst this
                exact r1.ext.gr.back hx
              · exact r1.ext.gr.back (g.back q)
          | _ :: _ :: _, q0 => exact q0.elim
        | bl b => exact q0.elim
        | int b => exact q0.elim
        | str b => exact q0.elim
        | nd k b => exact q0.elim
section
variable {X : Cx} {cm : Cm} {W : WX} {c : Str} {p pos : Pos} {e : Expr} {es : List Expr} {k j n : Nat} {m : MM} {dd : List D} {fs : List (En → Ot D)}
theorem s_make (tk : Takes X W) (G : GoodMk X.prog X.w X.K X.mg X.base cm c k (spM X.K cm n [0] m) dd) (hr : Room j X.A) (hk : k + 1 ≤ j) (hg : Gl X c) (hdd : dd.all isAt = true) (hn : fs.length + 1 + dd.length = n) (ha : SA X cm W (e :: es) (eL fs))
    (hdb : (c == ("__debug__" : Str)) = false := by decide) (he : starEach (e :: es) X.env = (false, eval e X.env) :: starEach es X.env := by rfl) (hpl : (backTo pos (starEach es X.env)).any (·.1) = false := by rfl) :
    SE X cm W (.Call (.Name c p) (e :: es) [] pos) (eMake c m dd fs) := by
  obtain ⟨f, fd, ps, ds, hm, M, b, hd, F⟩ := G
  refine PE.imp (pe_makeSD (E := fun σ cls d H => W cls d σ H) M F (hr.mono hk) hg hm b hd (fun σ => passAt tk σ) ha hdb he hpl) fun σ H Q q0 => ?_
  obtain ⟨Z, ρ, Fs, ok, q0⟩ := q0
  refine ⟨Z, ρ, Fs, ok, ?_⟩
  unfold eMake at q0
  cases q : eL fs ρ with
  | no => rw [q] at q0; exact q0
  | ex x => rw [q] at q0; exact q0
  | ok ds =>
    rw [q, Ot.bind_ok] at q0
    exact fun vs H1 Z1 Gs r1 x dx hx hdx ne => make_fin hdd rfl (by rw [eL_len q]; exact hn) ok.dom r1 q0 hx hdx ne
theorem s_make0 (tk : Takes X W) (G : GoodMk X.prog X.w X.K X.mg X.base cm c k (spM X.K cm n [0] m) dd) (hr : Room j X.A) (hk : k + 1 ≤ j) (hg : Gl X c) (hdd : dd.all isAt = true) (hn : 1 + dd.length = n) (hdb : (c == ("__debug__" : Str)) = false := by decide) :
    SE X cm W (.Call (.Name c p) [] [] pos) (eMake c m dd []) := by
  obtain ⟨f, fd, ps, ds, hm, M, b, hd, F⟩ := G
  refine PE.imp (pe_makeSD0 (E := fun σ cls d H => W cls d σ H) M F (hr.mono hk) hg hm b hd (fun σ => passAt tk σ) hdb) fun σ H Q q0 => ?_
  obtain ⟨Z, ρ, Fs, ok, q0⟩ := q0
  exact fun x dx hx hdx ne => make_fin (ds := []) hdd rfl (by simpa using hn) ok.dom (.nil ok.dom) q0 hx hdx ne
end

/-! ### o.f -/
def pFld (cs : List Str) (n : Str) : List D → Option D
  | [.nd (.obj _ c fs) es] => if c ∈ cs then (fs.findIdx? (fun q => decide (q = n))).bind fun j => es[j]? else none
  | _ => none
def rFld (K : PySem.W.Frag) (n : Str) : V → Hp → VK → Prop := fun x H1 Q => ∃ a C dx fs v, x = .ref a ∧ H1 a = some (.ins C dx fs) ∧ Cls K C ∧ NoAttr K C n ∧ fs.lookup n = some v ∧ Q v H1
theorem ok_fld {K : PySem.W.Frag} {cm : Cm} {cs : List Str} {n : Str} (hc : ∀ c ∈ cs, Cls K (cm c) ∧ NoAttr K (cm c) n) : OkPr K cm (r1L (rFld K n)) (pFld cs n) := fun H Z ds vs Fs d dm rl nd nf h Q q => by
  unfold pFld at h
  split at h
  · split at h
    rotate_left
    · cases h
    rename_i fl c fs es hcs
    obtain ⟨v, F, rfl, rfl, a, us, Es, rfl, ⟨⟨dx, hi⟩, hl, hz⟩, l, rfl⟩ := repL1 rl
    cases e : fs.findIdx? (fun q => decide (q = n)) with
    | none => rw [e] at h; cases h
    | some j =>
      rw [e] at h
      have h : es[j]? = some d := h
      obtain ⟨w, w1, w2⟩ := lookup_idx e hl
      obtain ⟨v1, F1, b1, b2, b3⟩ := l.get h
      rw [w1] at b1
      cases b1
      have hs : F1.Sublist Es.flatten := flatten_get b2
      have nd : (ownA (.obj fl c fs) a ++ Es.flatten).Nodup := by simpa using nd
      refine ⟨_, rfl, a, _, dx, _, w, rfl, hi, (hc c hcs).1, (hc c hcs).2, w2, q w H Z F1 (.same dm b3 ((List.nodup_append.mp nd).2.1.sublist hs) (fun x hx => ?_) fun x hx => nf x ?_)⟩
      · have := hs.subset hx
        simp only [List.flatten_cons, List.flatten_nil, List.append_nil]
        exact List.mem_append_right _ this
      · have := hs.subset hx
        simp only [List.flatten_cons, List.flatten_nil, List.append_nil]
        exact List.mem_append_right _ this
  · cases h
theorem s_fld {X : Cx} {cm : Cm} {W : WX} {o : Expr} {f : En → Ot D} {n : Str} {pos : Pos} {cs : List Str} (hc : ∀ c ∈ cs, Cls X.K (cm c) ∧ NoAttr X.K (cm c) n) (ho : SE X cm W o f) (hb : attributeBase o n X.env (eval o X.env) = eval o X.env := by rfl) :
    SE X cm W (.Attribute o n pos) (ePr (pFld cs n) [f]) := PE.imp (pe_fld ho hb) fun σ H Q h => one_of (pr_end (ok_fld hc) h)

/-! ### a place is written -/
theorem Ok.putF {K : PySem.W.Frag} {cm : Cm} {H H1 : Hp} {σ : L2.St} {ρ : En} {Fs : List (List Addr)} {Z Z1 : Zn} {i : Nat} {d : D} {js : List Nat} {k : Kd} {es : List D} {v : V} {F : List Addr} {a : Addr} {F0 A B : List Addr} {ds : List D} {vs : List V} {Gs : List (List Addr)}
    (ok : Ok K cm H σ ρ Fs Z) (hi : ρ[i]? = some (some d)) (hs : σ[i]? = some (some v)) (hF : Fs[i]? = some F) (fo : Foc K cm H1 ⟨Z1.f, Z.b, fun _ => False⟩ v F d js (.nd k es) (.ref a) F0 A B) (hk : k.isOwn = true) (ex : Ext H (lendZ Z Fs) H1 Z1)
    (o : OkT K cm H1 σ ρ Fs ⟨Z1.f, Z.b, fun _ => False⟩ ds vs Gs) :
    ∃ us Es, Cell K cm H1 ⟨Z1.f, Z.b, fun _ => False⟩ a k us ∧ RepL K cm H1 ⟨Z1.f, Z.b, fun _ => False⟩ es us Es ∧ a ∈ Fs.flatten ∧ a ∉ Gs.flatten ∧ a ∉ Es.flatten ∧ (Es.flatten ++ Gs.flatten).Nodup ∧
      ∀ k' es' us' Es' o' Fv, k'.isOwn = true → Cell K cm (L2.upd H1 a o') ⟨Z1.f, Z.b, fun _ => False⟩ a k' us' → Mut (some o') → RepL K cm H1 ⟨Z1.f, Z.b, fun _ => False⟩ es' us' Es' → (∀ x ∈ Es'.flatten ++ Fv, x ∈ Es.flatten ∨ x ∈ Gs.flatten) → (Es'.flatten ++ Fv).Nodup →
        ∃ Fs', Ok K cm (L2.upd H1 a o') σ (ρ.set i (some (putP d js (.nd k' es')))) Fs' ⟨Z1.f, Z.b, fun _ => False⟩ ∧ (∀ x ∈ Fs'.flatten, x ∈ Fs.flatten ∨ x ∈ Gs.flatten) ∧ (Fs'.flatten ++ Fv).Nodup ∧ (∀ x ∈ Fv, ¬ Z1.f x ∧ ¬ Z.b x ∧ (x ∈ Fs.flatten ∨ x ∈ Gs.flatten)) := by
  obtain ⟨a', us, Es, ea, c, l, eF0⟩ := fo.rep
  cases ea
  have hO : ownA k a = [a] := by unfold ownA; rw [if_pos hk]
  rw [hO] at eF0
  have eF := fo.eF
  rw [eF0] at eF
  have sub : ∀ x ∈ F, x ∈ Fs.flatten := fun x hx => flat_mem hF hx
  have ndF : F.Nodup := ok.nd.sublist (flatten_get hF)
  have ha : a ∈ Fs.flatten := sub a (by rw [eF]; simp)
  have hEs : ∀ x ∈ Es.flatten, x ∈ Fs.flatten := fun x hx => sub x (by rw [eF]; exact List.mem_append_left _ (List.mem_append_right _ (List.mem_append_right _ hx)))
  have ndF2 := ndF
  rw [eF] at ndF2
  have n1 := List.nodup_append.mp ndF2
  have n2 := List.nodup_append.mp n1.1
  have n3 := List.nodup_append.mp n2.2.1
  have aE : a ∉ Es.flatten := fun q => n3.2.2 a (List.mem_singleton.mpr rfl) a q rfl
  have ndG := List.nodup_append.mp o.nd
  have mu := o.ok.mu a ha
  have nz := o.ok.nz a ha
  have nt := o.ok.t a
  have aG : a ∉ Gs.flatten := fun q => ndG.2.2 a ha a q rfl
  refine ⟨us, Es, c, l, ha, aG, aE, List.nodup_append.mpr ⟨n3.2.1, ndG.2.1, fun x hx y hy e => ndG.2.2 x (hEs x hx) y hy e⟩, fun k' es' us' Es' o' Fv hk' c' mu' l' sub' nd' => ?_⟩
  have l2 := l'.upd (p := a) (o := o') mu (fun q => (sub' a (List.mem_append_left _ q)).elim aE aG) nz.1 nz.2 nt
  have mv : CellMove K cm H1 (L2.upd H1 a o') ⟨Z1.f, Z.b, fun _ => False⟩ ⟨Z1.f, Z.b, fun _ => False⟩ id (fun x => x ≠ a) := cell_upd mu nz.1 nz.2 nt
  have aA : ∀ x ∈ A, ¬ x = a := fun x hx e => n2.2.2 x hx a (by simp) e
  have aB : ∀ x ∈ B, ¬ x = a := fun x hx e => n1.2.2 a (by simp) x hx e.symm
  have rr := fo.put (fun x => x = a) (L2.upd H1 a o') ⟨Z1.f, Z.b, fun _ => False⟩ (.nd k' es') ([a] ++ Es'.flatten) aA aB mv ⟨a, us', Es', rfl, c', l2, by unfold ownA; rw [if_pos hk']⟩
  have gF : ∀ x ∈ Gs.flatten, x ∉ Fs.flatten := fun x hx q => ndG.2.2 x q x hx rfl
  obtain ⟨nd2, sub2⟩ := setsF_ok2 (cs := [⟨i, A, [a] ++ Es.flatten, B, [a] ++ Es'.flatten, .non⟩]) (F := Fv) (X := [a] ++ Es'.flatten) ok.nd (by simp) (fun c hc => by
    have : c = ⟨i, A, [a] ++ Es.flatten, B, [a] ++ Es'.flatten, .non⟩ := by simpa using hc
    subst this
    exact hF.trans (by rw [eF])) (by simp) (by
      rw [List.append_assoc]
      exact List.nodup_cons.mpr ⟨fun q => (sub' a q).elim aE aG, nd'⟩) (fun x hx => by
      rw [List.append_assoc] at hx
      rcases List.mem_append.mp hx with hx | hx
      · exact .inl (by simp at hx; simp [hx])
      · rcases sub' x hx with q | q
        · exact .inl (by simp only [List.map_cons, List.map_nil, List.flatten_cons, List.flatten_nil, List.append_nil]; exact List.mem_append_right _ q)
        · exact .inr (gF x q))
  have gm : ∀ x ∈ Gs.flatten, Mut (H1 x) := RepL.mut ds o.rep
  have smem : ∀ x ∈ (Fs.set i (A ++ ([a] ++ Es'.flatten) ++ B)).flatten, x ∈ Fs.flatten ∨ x ∈ Gs.flatten := fun x hx => by
    rcases sub2 x hx with q | q
    · exact .inl q
    · rcases List.mem_append.mp q with q | q
      · exact .inl (by have : x = a := by simpa using q
                       rw [this]; exact ha)
      · exact (sub' x (List.mem_append_left _ q)).imp (hEs x) id
  refine ⟨Fs.set i (A ++ ([a] ++ Es'.flatten) ++ B), ⟨o.ok.rep.upd1 ok.nd hs hF (by rw [eF]; simp) mv rr, ⟨fun x hx => ?_, fun x hx => ?_, fun x hx => hx.elim⟩, fun x hx => ?_, (List.nodup_append.mp nd2).1, fun x hx => (smem x hx).elim (o.ok.nz x) (o.nz x), o.ok.t⟩, smem, nd2, fun x hx => ?_⟩
  · by_cases e : x = a
    · rw [e, upd_same]; simp
    · rw [upd_ne e]; exact o.ok.dom.f x hx
  · by_cases e : x = a
    · rw [e, upd_same]; simp
    · rw [upd_ne e]; exact o.ok.dom.b x hx
  · by_cases e : x = a
    · rw [e, upd_same]; exact mu'
    · rw [upd_ne e]
      exact (smem x hx).elim (o.ok.mu x) (gm x)
  · have s := sub' x (List.mem_append_right _ hx)
    have z : ¬ Z1.f x ∧ ¬ Z.b x := s.elim (fun q => o.ok.nz x (hEs x q)) (o.nz x)
    exact ⟨z.1, z.2, s.imp (hEs x) id⟩
end OB

namespace OB
open PySem PySem.Spec PyProof.Rows L2
section
variable {K : PySem.W.Frag} {cm : Cm} {W : WX} {P : List Nat} {D0 : Ends} {H H1 : Hp} {Z Z1 : Zn} {σ : L2.St} {ρ ρ1 : En} {Fs Fs1 : List (List Addr)}
theorem SStep.back (s : SStep [] σ H Z Fs σ H1 Z1 Fs1) {a : Addr} (h : a ∈ Fs1.flatten ∨ H1 a = none) : a ∈ Fs.flatten ∨ H a = none := h.elim (s.own a) fun q => (s.keep.back q).elim .inr .inl
theorem FinX.step {Q : VK} {r : Option (Ot D × En)} (h : FinX K cm W σ H Z Fs Q r) (s : SStep [] σ H Z Fs σ H1 Z1 Fs1) : FinX K cm W σ H1 Z1 Fs1 Q r := by
  match r, h with
  | none, h => exact h
  | some (.no, _), h => exact h
  | some (.ok d, ρ'), h => exact fun v H' Z' Fs' F s2 o og => h v H' Z' Fs' F (s.trans s2) o fun a ha => s.back (og a ha)
  | some (.ex x, ρ'), h => exact fun cls dd H' Z' Fs' s2 o xr => h cls dd H' Z' Fs' (s.trans s2) o xr
/-! ### bind -/
def xBind {α β : Type} (r : Option (Ot α × En)) (k : α → En → Option (Ot β × En)) : Option (Ot β × En) := match r with
  | none => none
  | some (.no, _) => none
  | some (.ok d, ρ1) => k d ρ1
  | some (.ex x, ρ1) => some (.ex x, ρ1)
@[simp] theorem xBind_ok {α β : Type} (d : α) (ρ : En) (k : α → En → Option (Ot β × En)) : xBind (some (.ok d, ρ)) k = k d ρ := rfl
@[simp] theorem xBind_ex {α β : Type} (x : XD) (ρ : En) (k : α → En → Option (Ot β × En)) : xBind (some ((.ex x : Ot α), ρ)) k = some (.ex x, ρ) := rfl
@[simp] theorem xBind_none {α β : Type} (k : α → En → Option (Ot β × En)) : xBind none k = none := rfl
theorem tX_bind {f : Xf} {k : D → En → Option (Ot D × En)} {Q R : VK} (ok : Ok K cm H σ ρ Fs Z) (q : FinX K cm W σ H Z Fs Q (xBind (f ρ) k))
    (hk : ∀ d ρ1 v H1 Z1 Fs1 F, f ρ = some (.ok d, ρ1) → SStep [] σ H Z Fs σ H1 Z1 Fs1 → OkT K cm H1 σ ρ1 Fs1 Z1 [d] [v] [F] → (∀ a ∈ F, a ∈ Fs.flatten ∨ H a = none) → FinX K cm W σ H Z Fs Q (k d ρ1) → R v H1) : tX K cm W f σ H R := by
  refine ⟨Z, ρ, Fs, ok, ?_⟩
  match e : f ρ, q with
  | none, q => exact q.elim
  | some (.no, _), q => exact q.elim
  | some (.ok d, ρ'), q =>
    exact fun v H' Z' Fs' F s o og => hk d ρ' v H' Z' Fs' F e s o og q
  | some (.ex x, ρ'), q => exact q
/-- from a statement -/
def xOn (f : Xf) (k : D → Mst) : Mst := fun ρ => match f ρ with
  | none => none
  | some (.no, _) => none
  | some (.ok d, ρ1) => k d ρ1
  | some (.ex x, ρ1) => some (.ex x, ρ1)
theorem x_go {f : Xf} {k : D → Mst} {Q : VK} (ok : Ok K cm H σ ρ Fs Z) (q : FinS K cm W P D0 σ H Z Fs (xOn f k ρ))
    (hk : ∀ d ρ1 v H1 Z1 Fs1 F, SStep [] σ H Z Fs σ H1 Z1 Fs1 → OkT K cm H1 σ ρ1 Fs1 Z1 [d] [v] [F] → (∀ a ∈ F, a ∈ Fs.flatten ∨ H a = none) → FinS K cm W P D0 σ H Z Fs (k d ρ1) → Q v H1) : tX K cm W f σ H Q := by
  refine ⟨Z, ρ, Fs, ok, ?_⟩
  unfold xOn at q
  match e : f ρ, q with
  | none, q => exact q.elim
  | some (.no, _), q => exact q.elim
  | some (.ok d, ρ'), q =>
    exact fun v H' Z' Fs' F s o og => hk d ρ' v H' Z' Fs' F s o og q
  | some (.ex x, ρ'), q =>
    exact fun cls dd H' Z' Fs' s o xr => q σ H' Z' Fs' s.anyP o cls dd xr
/-! ### tests -/
abbrev Xt := En → Option (Ot Bool × En)
def FinXT (K : PySem.W.Frag) (cm : Cm) (W : WX) (σ : L2.St) (H : Hp) (Z : Zn) (Fs : List (List Addr)) (Q : Bool → Hp → Prop) : Option (Ot Bool × En) → Prop
  | none => False
  | some (.no, _) => False
  | some (.ok b, ρ') => ∀ H' Z' Fs', SStep [] σ H Z Fs σ H' Z' Fs' → Ok K cm H' σ ρ' Fs' Z' → Q b H'
  | some (.ex x, ρ') => ∀ cls dd H' Z' Fs', SStep [] σ H Z Fs σ H' Z' Fs' → Ok K cm H' σ ρ' Fs' Z' → XRep K cm H' Z' x cls dd → W cls dd σ H'
def tXT (K : PySem.W.Frag) (cm : Cm) (W : WX) (f : Xt) : TT := fun σ H Q => ∃ Z ρ Fs, Ok K cm H σ ρ Fs Z ∧ FinXT K cm W σ H Z Fs Q (f ρ)
theorem FinXT.step {Q : Bool → Hp → Prop} {r : Option (Ot Bool × En)} (h : FinXT K cm W σ H Z Fs Q r) (s : SStep [] σ H Z Fs σ H1 Z1 Fs1) : FinXT K cm W σ H1 Z1 Fs1 Q r := by
  match r, h with
  | none, h => exact h
  | some (.no, _), h => exact h
  | some (.ok d, ρ'), h => exact fun H' Z' Fs' s2 o => h H' Z' Fs' (s.trans s2) o
  | some (.ex x, ρ'), h => exact fun cls dd H' Z' Fs' s2 o xr => h cls dd H' Z' Fs' (s.trans s2) o xr
theorem tXT_bind {t : Xt} {k : Bool → Xt} {Q R : Bool → Hp → Prop} (ok : Ok K cm H σ ρ Fs Z) (q : FinXT K cm W σ H Z Fs Q (xBind (t ρ) k))
    (hk : ∀ b ρ1 H1 Z1 Fs1, SStep [] σ H Z Fs σ H1 Z1 Fs1 → Ok K cm H1 σ ρ1 Fs1 Z1 → FinXT K cm W σ H Z Fs Q (k b ρ1) → R b H1) : tXT K cm W t σ H R := by
  refine ⟨Z, ρ, Fs, ok, ?_⟩
  match e : t ρ, q with
  | none, q => exact q.elim
  | some (.no, _), q => exact q.elim
  | some (.ok d, ρ'), q =>
    exact fun H' Z' Fs' s o => hk d ρ' H' Z' Fs' s o q
  | some (.ex x, ρ'), q => exact q
end
abbrev STX (X : Cx) (cm : Cm) (W : WX) (e : Expr) (f : Xt) : Prop := PT X e (tXT X.K cm W f)
abbrev SWX (X : Cx) (cm : Cm) (W : WX) (e : Expr) (f : Xt) : Prop := PW X e (tXT X.K cm W f)
/-! ### what changes nothing -/
def xP (f : En → Ot D) : Xf := fun ρ => match f ρ with
  | .no => none
  | .ok d => if noT d then some (.ok d, ρ) else none
  | .ex x => some (.ex x, ρ)
def xPT (t : En → Ot Bool) : Xt := fun ρ => match t ρ with
  | .no => none
  | .ok b => some (.ok b, ρ)
  | .ex x => some (.ex x, ρ)
def xTr (f : Xf) : Xt := fun ρ => xBind (f ρ) fun d ρ1 => match d with
  | .bl b => some (.ok b, ρ1)
  | _ => none
def xNotT (t : Xt) : Xt := fun ρ => xBind (t ρ) fun b ρ1 => some (.ok (!b), ρ1)
def xAndT (t u : Xt) : Xt := fun ρ => xBind (t ρ) fun b ρ1 => if b then u ρ1 else some (.ok false, ρ1)
def xOrT (t u : Xt) : Xt := fun ρ => xBind (t ρ) fun b ρ1 => if b then some (.ok true, ρ1) else u ρ1
def xAnd (f g : Xf) : Xf := fun ρ => xBind (f ρ) fun d ρ1 => match d with
  | .bl b => if b then g ρ1 else some (.ok (.bl false), ρ1)
  | _ => none
def xOr (f g : Xf) : Xf := fun ρ => xBind (f ρ) fun d ρ1 => match d with
  | .bl b => if b then some (.ok (.bl true), ρ1) else g ρ1
  | _ => none
def xNot (f : Xf) : Xf := fun ρ => xBind (f ρ) fun d ρ1 => match d with
  | .bl b => some (.ok (.bl (!b)), ρ1)
  | _ => none
/-- an operation, its left side changes slots -/
def xL (p : List D → Option D) (f : Xf) (g : En → Ot D) : Xf := fun ρ => xBind (f ρ) fun d ρ1 => match g ρ1 with
  | .no => none
  | .ex x => some (.ex x, ρ1)
  | .ok e => match p [d, e] with
    | some z => if isAt z then some (.ok z, ρ1) else none
    | none => none
section
variable {K : PySem.W.Frag} {cm : Cm} {W : WX} {P : List Nat} {D0 : Ends} {H H1 : Hp} {Z Z1 : Zn} {σ : L2.St} {ρ ρ1 : En} {Fs Fs1 : List (List Addr)}
theorem okT_at {d : D} (ok : Ok K cm H σ ρ Fs Z) (h : isAt d = true) : OkT K cm H σ ρ Fs Z [d] [toV d] [[]] := by
  refine ⟨ok, repL_cons ?_ repL_nil, by simpa using ok.nd, fun a h => by simp at h⟩
  have := rdd_at (K := K) (cm := cm) (H1 := H) [d] (by simpa using h) Z
  obtain ⟨v, F, e1, e2, r⟩ := repL1 this
  simp only [List.map_cons, List.map_nil, List.cons.injEq, and_true] at e1 e2
  rw [e1, e2]
  exact r
theorem FinX.at_ {d : D} {Q : VK} (h : FinX K cm W σ H Z Fs Q (some (.ok d, ρ1))) (s : SStep [] σ H Z Fs σ H1 Z1 Fs1) (ok : Ok K cm H1 σ ρ1 Fs1 Z1) (a : isAt d = true) : Q (toV d) H1 :=
  h _ H1 Z1 Fs1 [] s (okT_at ok a) (fun _ h => nomatch h)
theorem FinXT.at_ {b : Bool} {Q : Bool → Hp → Prop} (h : FinXT K cm W σ H Z Fs Q (some (.ok b, ρ1))) (s : SStep [] σ H Z Fs σ H1 Z1 Fs1) (ok : Ok K cm H1 σ ρ1 Fs1 Z1) : Q b H1 := h H1 Z1 Fs1 s ok
theorem ext_step (ok : Ok K cm H σ ρ Fs Z) (e : Ext H (lendZ Z Fs) H1 Z1) : SStep [] σ H Z Fs σ H1 ⟨Z1.f, Z.b, fun _ => False⟩ Fs := SStep.ext ok e
theorem bl_of {d : D} {v : V} {F : List Addr} (r : RepL K cm H Z [d] [v] [F]) {b : Bool} (e : d = .bl b) : v = .bl b := by
  subst e
  obtain ⟨v', F', e1, _, r⟩ := repL1 r
  cases e1
  exact r.1
end
section
variable {X : Cx} {cm : Cm} {W : WX} {P : List Nat} {a b e : Expr} {f g : Xf} {t u : Xt} {pos : Pos} {rest : List Expr}
theorem x_se {f : En → Ot D} (h : SE X cm W e f) : SX X cm W e (xP f) := PE.imp h fun σ H Q q => by
  obtain ⟨Z, ρ, Fs, ok, q⟩ := q
  unfold xP at q
  refine tP_bind ok.pure (fun e => by rw [e] at q; exact q) (fun d e v H1 Z1 F r => ?_) (fun x e => ?_)
  · rw [e] at q
    dsimp only at q
    split at q
    · rename_i nt
      exact q v H1 _ Fs F (ext_step ok r.ext) (ok.one r nt) fun a h => .inr (r.new a h)
    · exact q.elim
  · rw [e] at q
    exact fun cls dd H1 Z1 ex xr => q cls dd H1 _ Fs (ext_step ok ex) (ok.ext ex) (xr.back fun _ h => h)
theorem xt_st {t : En → Ot Bool} (h : ST X cm W e t) : STX X cm W e (xPT t) := PT.imp h fun σ H Q q => by
  obtain ⟨Z, ρ, Fs, ok, q⟩ := q
  unfold xPT at q
  refine ⟨lendZ Z Fs, ρ, Fs, ok.pure, ?_⟩
  match e : t ρ, q with
  | .no, q => exact q.elim
  | .ok b, q =>
    exact fun H1 Z1 ex => q H1 _ Fs (ext_step ok ex) (ok.ext ex)
  | .ex x, q =>
    exact fun cls dd H1 Z1 ex xr => q cls dd H1 _ Fs (ext_step ok ex) (ok.ext ex) (xr.back fun _ h => h)
theorem tX_T {K : PySem.W.Frag} {f : Xf} {σ : L2.St} {H : Hp} {Q : Bool → Hp → Prop} (h : tXT K cm W (xTr f) σ H Q) : tX K cm W f σ H (fun x H1 => ∃ k, x = .bl k ∧ Q k H1) := by
  obtain ⟨Z, ρ, Fs, ok, q⟩ := h
  refine ⟨Z, ρ, Fs, ok, ?_⟩
  unfold xTr at q
  match e : f ρ, q with
  | none, q => exact q.elim
  | some (.no, _), q => exact q.elim
  | some (.ex x, ρ'), q => exact q
  | some (.ok d, ρ'), q =>
    rw [xBind_ok] at q
    cases d with
    | bl b =>
      intro v H' Z' Fs' F s o og
      exact ⟨b, bl_of o.rep rfl, q H' Z' Fs' s o.ok⟩
    | non => exact q.elim
    | int b => exact q.elim
    | str b => exact q.elim
    | nd k b => exact q.elim
theorem xt_val (ha : SX X cm W e f) (he : ∀ whole, isTrue e X.env whole = (do let v ← whole; standAt e.pos; holding [v] (truthy v)) := by intro _; rfl) : STX X cm W e (xTr f) := PT.imp (pt_val ha he) fun σ H Q h => tX_T h
theorem xt_not (ha : STX X cm W a t) : STX X cm W (.UnaryOp .Not a pos) (xNotT t) := PT.imp (pt_not ha) fun σ H Q h => by
  obtain ⟨Z, ρ, Fs, ok, q⟩ := h
  exact tXT_bind (k := fun b ρ1 => some (.ok (!b), ρ1)) ok q fun b ρ1 H1 Z1 Fs1 s o q1 => q1.at_ s o
theorem xw_and1 (ha : STX X cm W a t) : SWX X cm W (.BoolOp .And [a] pos) t := pw_and1 ha
theorem xw_or1 (ha : STX X cm W a t) : SWX X cm W (.BoolOp .Or [a] pos) t := pw_or1 ha
theorem xw_and (ha : STX X cm W a t) (hb : SWX X cm W (.BoolOp .And (b :: rest) pos) u) : SWX X cm W (.BoolOp .And (a :: b :: rest) pos) (xAndT t u) := PW.imp (pw_and ha hb) fun σ H Q h => by
  obtain ⟨Z, ρ, Fs, ok, q⟩ := h
  refine tXT_bind (k := fun b ρ1 => if b then u ρ1 else some (.ok false, ρ1)) ok q fun b ρ1 H1 Z1 Fs1 s o q1 => ?_
  cases b with
  | true => exact ⟨Z1, ρ1, Fs1, o, q1.step s⟩
  | false => exact q1.at_ s o
theorem xw_or (ha : STX X cm W a t) (hb : SWX X cm W (.BoolOp .Or (b :: rest) pos) u) : SWX X cm W (.BoolOp .Or (a :: b :: rest) pos) (xOrT t u) := PW.imp (pw_or ha hb) fun σ H Q h => by
  obtain ⟨Z, ρ, Fs, ok, q⟩ := h
  refine tXT_bind (k := fun b ρ1 => if b then some (.ok true, ρ1) else u ρ1) ok q fun b ρ1 H1 Z1 Fs1 s o q1 => ?_
  cases b with
  | false => exact ⟨Z1, ρ1, Fs1, o, q1.step s⟩
  | true => exact q1.at_ s o
theorem xt_w (h : SWX X cm W e t) : STX X cm W e t := h.pt
theorem x_one {op : BoolOp} (ha : SX X cm W a f) : SX X cm W (.BoolOp op [a] pos) f := pe_one ha
theorem x_and (ha : SX X cm W a f) (hb : SX X cm W (.BoolOp .And (b :: rest) pos) g) : SX X cm W (.BoolOp .And (a :: b :: rest) pos) (xAnd f g) := PE.imp (pe_and ha hb) fun σ H Q h => by
  obtain ⟨Z, ρ, Fs, ok, q⟩ := h
  refine tX_bind ok q fun d ρ1 v H1 Z1 Fs1 F _ s o og q1 => ?_
  cases d with
  | bl c =>
    refine ⟨c, bl_of o.rep rfl, ?_⟩
    cases c with
    | true => exact ⟨Z1, ρ1, Fs1, o.ok, FinX.step q1 s⟩
    | false => exact FinX.at_ q1 s o.ok rfl
  | non => exact q1.elim
  | int b => exact q1.elim
  | str b => exact q1.elim
  | nd k b => exact q1.elim
theorem x_or (ha : SX X cm W a f) (hb : SX X cm W (.BoolOp .Or (b :: rest) pos) g) : SX X cm W (.BoolOp .Or (a :: b :: rest) pos) (xOr f g) := PE.imp (pe_or ha hb) fun σ H Q h => by
  obtain ⟨Z, ρ, Fs, ok, q⟩ := h
  refine tX_bind ok q fun d ρ1 v H1 Z1 Fs1 F _ s o og q1 => ?_
  cases d with
  | bl c =>
    refine ⟨c, bl_of o.rep rfl, ?_⟩
    cases c with
    | false => exact ⟨Z1, ρ1, Fs1, o.ok, FinX.step q1 s⟩
    | true => exact FinX.at_ q1 s o.ok rfl
  | non => exact q1.elim
  | int b => exact q1.elim
  | str b => exact q1.elim
  | nd k b => exact q1.elim
theorem x_not (ha : SX X cm W a f) : SX X cm W (.UnaryOp .Not a pos) (xNot f) := PE.imp (pe_not ha) fun σ H Q h => by
  obtain ⟨Z, ρ, Fs, ok, q⟩ := h
  refine tX_bind ok q fun d ρ1 v H1 Z1 Fs1 F _ s o og q1 => ?_
  cases d with
  | bl c => exact ⟨c, bl_of o.rep rfl, FinX.at_ q1 s o.ok rfl⟩
  | non => exact q1.elim
  | int b => exact q1.elim
  | str b => exact q1.elim
  | nd k b => exact q1.elim
theorem xL_end {r : R2} {p : List D → Option D} {g : En → Ot D} (hp : OkPr X.K cm (r2L r) p) {σ : L2.St} {H : Hp} {Q : VK} (h : tX X.K cm W (xL p f g) σ H Q) : tX X.K cm W f σ H fun x H1 => tP X.K cm W g σ H1 fun y H2 => r x y H2 Q := by
  obtain ⟨Z, ρ, Fs, ok, q⟩ := h
  refine tX_bind ok q fun d ρ1 v H1 Z1 Fs1 F _ s o og q1 => ?_
  refine tP_bind o.ok.pure (fun e => by rw [e] at q1; exact q1) (fun y e u H2 Z2 G r2 => ?_) (fun x e => ?_)
  · rw [e] at q1
    dsimp only at q1
    split at q1
    rotate_left
    · exact q1.elim
    rename_i z hz
    split at q1
    rotate_left
    · exact q1.elim
    rename_i ha
    obtain ⟨v', F', ev, eF, rd⟩ := repL1 o.rep
    cases ev; cases eF
    have mF : ∀ a ∈ F, Mut (H1 a) := Rep.mut d rd
    have rd2 : Rep X.K cm H2 Z2 d v F := (rd.grow (.refl H1) (fun _ h => h) (fun _ h => h) (Z' := lendZ Z1 Fs1) (fun a h => (o.ok.t a h).elim)).ext r2.ext
    have ndF : F.Nodup := by
      have := (List.nodup_append.mp o.nd).2.1
      simpa using this
    have nzF : ∀ a ∈ F, ¬ Z1.f a := fun a ha => (o.nz a (by simpa using ha)).1
    obtain ⟨x0, y0, exy, k⟩ := hp H2 Z2 [d, y] [v, u] [F, G] z (o.ok.pure.dom.ext r2.ext) (repL_cons rd2 (repL_cons r2.rep repL_nil)) (by
      simp only [List.flatten_cons, List.flatten_nil, List.append_nil]
      exact List.nodup_append.mpr ⟨ndF, r2.nd, fun a ha b hb e => by subst e; exact mut_ne (mF a ha) (r2.new a hb)⟩) (fun a ha => by
      simp only [List.flatten_cons, List.flatten_nil, List.append_nil] at ha
      rcases List.mem_append.mp ha with ha | ha
      · exact keep_nf (Z1 := lendZ Z1 Fs1) r2.ext (mF a ha) (nzF a ha)
      · exact r2.nf a ha) hz Q (fun w H3 Z3 M r3 => by
      have ex3 := r2.ext.trans r3.ext
      obtain ⟨e1, _, _⟩ := rep_at r3.rep ha
      rw [e1]
      exact FinX.at_ q1 (s.trans (ext_step o.ok ex3)) (o.ok.ext ex3) ha)
    cases exy
    exact k
  · rw [e] at q1
    exact fun cls dd H2 Z2 ex xr => q1 cls dd H2 _ Fs1 (s.trans (ext_step o.ok ex)) (o.ok.ext ex) (xr.back fun _ h => h)
theorem x_cmp {op : CmpOp} {r : R2} {p : List D → Option D} {g : En → Ot D} (ho : OpR X (compareOp op) r) (hp : OkPr X.K cm (r2L r) p) (ha : SX X cm W a f) (hb : SE X cm W b g) (hm : behindInMarks op b = false) : SX X cm W (.Compare a [op] [b] pos) (xL p f g) :=
  PE.imp (pe_cmpR ho ha hb hm) fun σ H Q h => xL_end hp h
theorem x_op {op : Operator} {r : R2} {p : List D → Option D} {g : En → Ot D} (ho : OpR X (binaryOp op) r) (hp : OkPr X.K cm (r2L r) p) (ha : SX X cm W a f) (hb : SE X cm W b g) : SX X cm W (.BinOp a op b pos) (xL p f g) :=
  PE.imp (pe_op ho ha hb) fun σ H Q h => xL_end hp h
theorem xt_cmp {op : CmpOp} {r : R2} {p : List D → Option D} {g : En → Ot D} (ho : OpR X (compareOp op) r) (hp : OkPr X.K cm (r2L r) p) (ha : SX X cm W a f) (hb : SE X cm W b g) (hm : behindInMarks op b = false) : STX X cm W (.Compare a [op] [b] pos) (xTr (xL p f g)) :=
  PT.imp (pt_cmpR ho ha hb hm) fun σ H Q h => xL_end (Q := fun z H2 => ∃ k, z = .bl k ∧ Q k H2) hp (tX_T h)
/-! ### statements -/
theorem ss_exprX (he : SX X cm W e f) (hs : swapsWith e none pos.line X.env = pure false := by rfl) : SS X cm W P (.Expr e pos) (xOn f fun _ ρ => some (.nx, ρ)) := PS.imp (ps_expr he hs) fun D0 σ H q => by
  obtain ⟨Z, ρ, Fs, ok, q⟩ := q
  exact x_go ok q fun d ρ1 v H1 Z1 Fs1 F s o og q1 => q1 σ H1 Z1 Fs1 s.anyP o.ok
theorem ss_retX (he : SX X cm W e f) : SS X cm W P (.Return (some e) pos) (xOn f fun d ρ => some (.ret d, ρ)) := PS.imp (ps_ret he) fun D0 σ H q => by
  obtain ⟨Z, ρ, Fs, ok, q⟩ := q
  refine x_go ok q fun d ρ1 v H1 Z1 Fs1 F s o og q1 => ?_
  obtain ⟨v', F', ev, eF, rd⟩ := repL1 o.rep
  cases ev; cases eF
  exact q1 σ H1 Z1 Fs1 s.anyP o.ok v F rd (by simpa using o.nd) (fun a ha => o.nz a (by simpa using ha)) og
theorem ss_setX {st : Stmt} {i : Nat} (hi : (!P.contains i) = true) (hs : PS X st (tAsg (tX X.K cm W f) (gName i))) : SS X cm W P st (xOn f fun d ρ => some (.nx, ρ.set i (some d))) := PS.imp hs fun D0 σ H q => by
  obtain ⟨Z, ρ, Fs, ok, q⟩ := q
  refine x_go ok q fun d ρ1 v H1 Z1 Fs1 F s o og q1 => ?_
  have o2 := o.set i
  exact q1 (σ.set i (some v)) H1 Z1 (Fs1.set i F) ⟨s.keep, fun a h => (set_mem h).elim (s.own a) (og a), s.f, s.fn, s.b, prot_set hi⟩ o2.ok
def sIfX (t : Xt) (g h : Mst) : Mst := fun ρ => match t ρ with
  | none => none
  | some (.no, _) => none
  | some (.ok b, ρ1) => if b then g ρ1 else h ρ1
  | some (.ex x, ρ1) => some (.ex x, ρ1)
theorem ss_ifX {c : Expr} {a b : List Stmt} {g h : Mst} (hc : STX X cm W c t) (ha : SB X cm W P a g) (hb : SB X cm W P b h) : SS X cm W P (.If c a b pos) (sIfX t g h) := PS.imp (ps_if hc ha hb) fun D0 σ H q => by
  obtain ⟨Z, ρ, Fs, ok, q⟩ := q
  refine ⟨Z, ρ, Fs, ok, ?_⟩
  unfold sIfX at q
  match e : t ρ, q with
  | none, q => exact q.elim
  | some (.no, _), q => exact q.elim
  | some (.ex x, ρ'), q =>
    exact fun cls dd H' Z' Fs' s o xr => q σ H' Z' Fs' s.anyP o cls dd xr
  | some (.ok k, ρ'), q =>
    intro H' Z' Fs' s o
    cases k with
    | true => exact ⟨Z', ρ', Fs', o, FinS.step q s.anyP⟩
    | false => exact ⟨Z', ρ', Fs', o, FinS.step q s.anyP⟩
end
end OB

namespace OB
open PySem PySem.Spec PyProof.Rows L2
/-! ### o.m(..) of a list at a place -/
def MutX (K : PySem.W.Frag) (cm : Cm) (r : V → List V → Hp → VK → Prop) (op : List D → List D → Option (D × List D)) : Prop := ∀ (H : Hp) (Z : Zn) (l : Addr) (us : List V) (es : List D) (Es : List (List Addr)) (ds : List D) (vs : List V) (Gs : List (List Addr)) (dv : D) (es' : List D),
  H l = some (.lst us) → RepL K cm H Z es us Es → RepL K cm H Z ds vs Gs → l ∉ Gs.flatten → (Es.flatten ++ Gs.flatten).Nodup → op es ds = some (dv, es') →
    ∃ v us' Es' Fv, RepL K cm H Z es' us' Es' ∧ Rep K cm H Z dv v Fv ∧ (∀ x ∈ Es'.flatten ++ Fv, x ∈ Es.flatten ∨ x ∈ Gs.flatten) ∧ (Es'.flatten ++ Fv).Nodup ∧ ∀ Q : VK, Q v (L2.upd H l (.lst us')) → r (.ref l) vs H Q
def xBm (i : Nat) (π : Pi') (op : List D → List D → Option (D × List D)) (f : En → Ot (List D)) : Xf := fun ρ => match subD ρ i π with
  | some (d, js, .nd (.lst .own) es) => (match f ρ with
    | .no => none
    | .ex x => some (.ex x, ρ)
    | .ok ds => if ds.all noT then (match op es ds with
      | some (dv, es') => some (.ok dv, ρ.set i (some (putP d js (.nd (.lst .own) es'))))
      | none => none) else none)
  | _ => none
theorem lend_eq {K : PySem.W.Frag} {cm : Cm} {H H1 H2 : Hp} {Z Z1 Z2 : Zn} {Fs : List (List Addr)} (e1 : Ext H (lendZ Z Fs) H1 Z1) (e : Ext H1 (lendZ ⟨Z1.f, Z.b, fun _ => False⟩ Fs) H2 Z2) : Ext H (lendZ Z Fs) H2 Z2 := by
  have eZ : Z1 = lendZ ⟨Z1.f, Z.b, fun _ => False⟩ Fs := by
    have h1 : Z1.b = Z.b := e1.b
    have h2 : Z1.t = fun a => a ∈ Fs.flatten := e1.t
    cases Z1
    simp only at h1 h2
    subst h1; subst h2
    rfl
  rw [← eZ] at e
  exact e1.trans e
theorem bm_end {K : PySem.W.Frag} {cm : Cm} {W : WX} {r : V → List V → Hp → VK → Prop} {i : Nat} {π : Pi'} {op : List D → List D → Option (D × List D)} {t : TA} {f : En → Ot (List D)} (ht : ∀ σ H Q, tPL K cm W f σ H Q → t σ H Q) (hm : MutX K cm r op) {σ : L2.St} {H : Hp} {Q : VK} (q : tX K cm W (xBm i π op f) σ H Q) :
    tPth2 K cm W i π σ H fun x H1 => tyV K "list" x H1 ∧ t σ H1 fun xs H2 => r x xs H2 Q := by
  obtain ⟨Z, ρ, Fs, ok, q⟩ := q
  unfold xBm at q
  split at q
  rotate_left
  · exact q.elim
  rename_i d js es hp
  obtain ⟨h1, h2, h3⟩ := subD_eq hp
  refine ⟨Z, ρ, Fs, d, js, _, ok, h1, h2, h3, fun H1 Z1 v F v0 F0 A B ex hs hF fo => ?_⟩
  obtain ⟨a, us, Es, rfl, c, l, _⟩ := fo.rep
  refine ⟨.inl ⟨rfl, us, .inl c.2.1⟩, ht _ _ _ ⟨Z1, ρ, Fs, ok.pure.ext ex, ?_⟩⟩
  match e : f ρ, q with
  | .no, q => exact q.elim
  | .ex x, q => exact fun cls dd H2 Z2 ex2 xr => q cls dd H2 _ Fs (ext_step ok (ex.trans ex2)) (ok.ext (ex.trans ex2)) (xr.back fun _ h => h)
  | .ok ds, q =>
    dsimp only at q
    split at q
    rotate_left
    · exact q.elim
    rename_i nt
    split at q
    rotate_left
    · exact q.elim
    rename_i dv es' ho
    intro vs H2 Z2 Gs r2
    have ex2 := ex.trans r2.ext
    have r3 : ResL K cm H (lendZ Z Fs) H2 Z2 [] ds vs Gs := ⟨ex2, r2.rep, r2.nd, fun a ha => .inl (ex.gr.back (r2.new a ha)), r2.nf⟩
    have o := ok.many r3 nt
    have fo2 := fo.move (cell_grow (Z' := ⟨Z2.f, Z.b, fun _ => False⟩) r2.ext.gr r2.ext.f (fun _ h => h) fun _ h => h)
    obtain ⟨us, Es, c, l, ha, aG, aE, nd, kk⟩ := ok.putF h1 hs hF fo2 rfl ex2 o
    obtain ⟨vv, us', Es', Fv, l', rv, sub, nd', fin⟩ := hm H2 _ a us es Es ds vs Gs dv es' (c.1 rfl) l o.rep aG nd ho
    refine fin Q ?_
    obtain ⟨Fs', ok', sub', nd2, nz⟩ := kk (.lst .own) es' us' Es' (.lst us') Fv rfl ⟨fun _ => upd_same, .inl upd_same, trivial⟩ trivial l' sub nd'
    have mu := o.ok.mu a ha
    have aFv : a ∉ Fv := fun h => (sub a (List.mem_append_right _ h)).elim aE aG
    have fr : ∀ x ∈ Gs.flatten, H x = none := fun x h => r3.new x h
    refine q vv _ _ Fs' Fv (.put ex2 ha sub' fr) ⟨ok', repL_cons (rv.upd mu aFv (o.ok.nz a ha).1 (o.ok.nz a ha).2 (fun h => h)) repL_nil, by simpa using nd2, fun x hx => ?_⟩ fun x hx => (nz x hx).2.2.imp id (fr x)
    have hx : x ∈ Fv := by simpa using hx
    exact ⟨(nz x hx).1, (nz x hx).2.1⟩
section
variable {X : Cx} {cm : Cm} {W : WX} {P : List Nat} {o e : Expr} {es : List Expr} {fs : List (En → Ot D)} {name : Str} {apos cpos pos : Pos} {id : String} {r : V → List V → Hp → VK → Prop} {op : List D → List D → Option (D × List D)} {i : Nat} {π : Pi'}
theorem x_bm (slot : Slot "list" name id) (hty : typeOf (.builtin id) = pure (.type "method_descriptor")) (hr : MtR X id r) (hm : MutX X.K cm r op) (ho : SP2 X cm W o i π) (ha : SA X cm W (e :: es) (eL fs))
    (hbase : attributeBase o name X.env (eval o X.env) = eval o X.env := by rfl)
    (hfew : ((backTo cpos (starEach (e :: es) X.env)).all (fun x => !x.1) && (backToKw cpos (keywordEach [] X.env)).all (fun x => x.1.isSome)
      && decide ((e :: es).length + ([] : List Keyword).length + (if ([] : List Keyword).isEmpty then 0 else 1) < 30)) = true := by rfl)
    (hline : (apos.endLine == cpos.line) = true := by rfl) (hs : starEach (e :: es) X.env = (false, eval e X.env) :: starEach es X.env := by rfl) (hplain : (backTo cpos (starEach es X.env)).any (·.1) = false := by rfl) :
    SX X cm W (.Call (.Attribute o name apos) (e :: es) [] cpos) (xBm i π op (eL fs)) :=
  PE.imp (pe_bm PySem.F.plainAttrs_list slot hty hr ho ha hbase hfew hline hs hplain) fun σ H Q q => bm_end (fun _ _ _ h => h) hm q
theorem x_bm0 (slot : Slot "list" name id) (hty : typeOf (.builtin id) = pure (.type "method_descriptor")) (hr : MtR X id r) (hm : MutX X.K cm r op) (ho : SP2 X cm W o i π)
    (hbase : attributeBase o name X.env (eval o X.env) = eval o X.env := by rfl) (hline : (apos.endLine == cpos.line) = true := by rfl) :
    SX X cm W (.Call (.Attribute o name apos) [] [] cpos) (xBm i π op (eL [])) :=
  PE.imp (pe_bm0 PySem.F.plainAttrs_list slot hty hr ho hbase hline) fun σ H Q q => bm_end (t := tNil) (fun σ H Q h => by
    obtain ⟨Z, ρ, Fs, ok, q⟩ := h
    exact q [] H Z [] (.nil ok.dom)) hm q
end
def oApp (es ds : List D) : Option (D × List D) := match ds with
  | [d] => if es.length < sizeLine then some (.non, es ++ [d]) else none
  | _ => none
def oExt (es ds : List D) : Option (D × List D) := match ds with
  | [.nd (.lst .own) xs] => if es.length + xs.length ≤ sizeLine then some (.non, es ++ xs) else none
  | _ => none
def oPop (es ds : List D) : Option (D × List D) := match ds with
  | [] => (es[es.length - 1]?).map fun y => (y, es.dropLast)
  | _ => none
theorem mx_append {K : PySem.W.Frag} {cm : Cm} : MutX K cm rAppend oApp := fun H Z l us es Es ds vs Gs dv es' hl re rd nl nd h => by
  unfold oApp at h
  split at h
  · split at h
    · rename_i d hs
      cases h
      obtain ⟨v, F, rfl, rfl, hd⟩ := repL1 rd
      refine ⟨.non, us ++ [v], Es ++ [F], [], re.app (repL_cons hd repL_nil), rep_non, fun x hx => ?_, by simpa using nd, fun Q q => ⟨l, us, v, rfl, rfl, hl, by rw [re.len.1]; exact hs, q⟩⟩
      rw [List.flatten_append, List.append_nil] at hx
      exact List.mem_append.mp hx
    · cases h
  · cases h
theorem mx_extend {K : PySem.W.Frag} {cm : Cm} : MutX K cm rExtend oExt := fun H Z l us es Es ds vs Gs dv es' hl re rd nl nd h => by
  unfold oExt at h
  split at h
  · split at h
    · rename_i xs hs
      cases h
      obtain ⟨v, F, rfl, rfl, a, ws, Ws, rfl, c, rw_, rfl⟩ := repL1 rd
      have e1 : ownA (.lst .own) a = [a] := by simp [ownA, Kd.isOwn, Kd.fl]
      have nd : (Es.flatten ++ (ownA (.lst .own) a ++ Ws.flatten)).Nodup := by simpa using nd
      have n := List.nodup_append.mp nd
      refine ⟨.non, us ++ ws, Es ++ Ws, [], re.app rw_, rep_non, fun x hx => ?_, ?_, fun Q q => ⟨l, a, us, ws, rfl, rfl, hl, c.1 rfl, by rw [re.len.1, rw_.len.1]; exact hs, q⟩⟩
      · rw [List.flatten_append, List.append_nil] at hx
        rcases List.mem_append.mp hx with hx | hx
        · exact .inl hx
        · exact .inr (by simp [hx])
      · rw [List.flatten_append, List.append_nil]
        exact List.nodup_append.mpr ⟨n.1, (List.nodup_append.mp n.2.1).2.1, fun x hx y hy e => n.2.2 x hx y (List.mem_append_right _ hy) e⟩
    · cases h
  · cases h

/-! ### o[i] = v of a list or a dict at a place -/
def putD2 (k : Kd) (es : List D) (key x : D) : Option (Kd × List D) := match k with
  | .lst .own => match key with
    | .int z => (ixN es.length z).map fun j => (.lst .own, es.set j x)
    | _ => none
  | .dct .own ks => (keyD key).bind fun q => match ks.findIdx? (fun p => decide (p = q)) with
    | some j => if ks.length < sizeLine ∧ ks.Nodup then some (.dct .own ks, es.set j x) else none
    | none => if ks.length < sizeLine then some (.dct .own (ks ++ [q]), es ++ [x]) else none
  | _ => none
theorem putK_at {α : Type} : ∀ {ks : List Key} {us : List V} {q : Key} {j : Nat} {v : V}, ks.findIdx? (fun p => decide (p = q)) = some j → ks.Nodup → ks.length = us.length → putK (ks.zip us) q v = ks.zip (us.set j v) := by
  have key : ∀ {ks : List Key} {us : List V} {q : Key} {j : Nat} {v : V}, ks.findIdx? (fun p => decide (p = q)) = some j → ks.Nodup → ks.length = us.length → ((ks.zip us).any fun kv => decide (kv.1 = q)) = true ∧ (ks.zip us).map (fun kv => if kv.1 = q then (kv.1, v) else kv) = ks.zip (us.set j v) := by
    intro ks
    induction ks with
    | nil => intro us q j v h; simp at h
    | cons k ks ih =>
      intro us q j v h nd l
      cases us with
      | nil => simp at l
      | cons u us =>
        obtain ⟨n1, n2⟩ := List.nodup_cons.mp nd
        rw [List.findIdx?_cons] at h
        by_cases e : k = q
        · rw [if_pos (by simpa using e)] at h
          cases h
          subst e
          refine ⟨by simp, ?_⟩
          have rest : (ks.zip us).map (fun kv => if kv.1 = k then (kv.1, v) else kv) = ks.zip us := by
            conv => rhs; rw [← List.map_id (ks.zip us)]
            refine List.map_congr_left fun kv hkv => ?_
            have : kv.1 ∈ ks := (List.of_mem_zip (show (kv.1, kv.2) ∈ ks.zip us from hkv)).1
            rw [if_neg (show ¬ kv.1 = k from fun z => n1 (by rw [← z]; exact this))]
            rfl
          rw [List.zip_cons_cons, List.map_cons, if_pos rfl, rest]
          rfl
        · rw [if_neg (by simpa using e)] at h
          cases f : ks.findIdx? (fun p => decide (p = q)) with
          | none => rw [f] at h; cases h
          | some j' =>
            rw [f] at h
            cases h
            obtain ⟨a, b⟩ := ih (us := us) (v := v) f n2 (by simpa using l)
            refine ⟨by rw [List.zip_cons_cons, List.any_cons, a, Bool.or_true], ?_⟩
            rw [List.zip_cons_cons, List.map_cons, if_neg e, b]
            rfl
  intro ks us q j v h nd l
  obtain ⟨a, b⟩ := key (v := v) h nd l
  unfold putK
  rw [if_pos a, b]
theorem putK_new {ks : List Key} {us : List V} {q : Key} {v : V} (h : ks.findIdx? (fun p => decide (p = q)) = none) (l : ks.length = us.length) : putK (ks.zip us) q v = (ks ++ [q]).zip (us ++ [v]) := by
  have a : ((ks.zip us).any fun kv => decide (kv.1 = q)) = false := by
    rw [List.any_eq_false]
    intro kv hkv
    have m : kv.1 ∈ ks := (List.of_mem_zip (show (kv.1, kv.2) ∈ ks.zip us from hkv)).1
    have := List.findIdx?_eq_none_iff.mp h kv.1 m
    simpa using this
  unfold putK
  rw [if_neg (by rw [a]; decide), List.zip_append l]
  rfl
def rSet2 : TSet := fun o i v H Q => rSetL o i v H Q ∨ rSetD o i v H Q
theorem set_2 {X : Cx} (hu : X.A.units + 1 < cLine) : PSet X rSet2 := by
  intro pins s σ H o i v ov iv u Q I ro ri rv h
  rcases h with h | h
  · exact set_list pins s σ H o i v ov iv u Q I ro ri rv h
  · exact set_dict hu pins s σ H o i v ov iv u Q I ro ri rv h
theorem put_ok2 {K : PySem.W.Frag} {cm : Cm} {H : Hp} {Z : Zn} {a : Addr} {k k' : Kd} {us : List V} {es es' : List D} {Es : List (List Addr)} {key x : D} {ky v : V} {F G : List Addr} (c : Cell K cm H Z a k us) (l : RepL K cm H Z es us Es) (rk : Rep K cm H Z key ky G) (rx : Rep K cm H Z x v F) (h : putD2 k es key x = some (k', es')) (nd : (Es.flatten ++ F).Nodup) :
    ∃ us' Es' o', k'.isOwn = true ∧ Cell K cm (L2.upd H a o') Z a k' us' ∧ Mut (some o') ∧ RepL K cm H Z es' us' Es' ∧ (∀ y ∈ Es'.flatten, y ∈ Es.flatten ∨ y ∈ F) ∧ Es'.flatten.Nodup ∧ ∀ Q : Hp → Prop, Q (L2.upd H a o') → rSet2 (.ref a) ky v H Q := by
  have setnd : ∀ {j : Nat}, (Es.set j F).flatten.Nodup ∧ ∀ y ∈ (Es.set j F).flatten, y ∈ Es.flatten ∨ y ∈ F := fun {j} => by
    have n := List.nodup_append.mp nd
    exact ⟨set_nodup n.1 n.2.1 fun x hx q => n.2.2 x hx x q rfl, fun y hy => set_mem hy⟩
  unfold putD2 at h
  split at h
  · split at h
    · rename_i z
      cases e : ixN es.length z with
      | none => rw [e] at h; cases h
      | some j =>
        rw [e] at h
        cases h
        obtain ⟨rfl, _⟩ := rk
        exact ⟨us.set j v, Es.set j F, .lst (us.set j v), rfl, ⟨fun _ => upd_same, .inl upd_same, trivial⟩, trivial, l.set j rx, setnd.2, setnd.1, fun Q q => .inl ⟨a, us, _, j, rfl, rfl, c.1 rfl, by rw [l.len.1]; exact e, q⟩⟩
    · cases h
  · rename_i ks
    cases ek : keyD key with
    | none => rw [ek] at h; cases h
    | some q0 =>
      rw [ek, Option.bind_some] at h
      have eky := key_ok rk ek
      subst eky
      have hl := c.2.2.1
      split at h
      · rename_i j ej
        split at h
        · rename_i hc
          cases h
          refine ⟨us.set j v, Es.set j F, .dK (ks.zip (us.set j v)), rfl, ⟨fun _ => upd_same, .inl upd_same, by rw [List.length_set]; exact hl, trivial⟩, trivial, l.set j rx, setnd.2, setnd.1, fun Q q => .inr ⟨a, _, rfl, DPut.k (c.1 rfl) (by rw [List.length_zip]; omega), ?_⟩⟩
          rw [putK_at (α := Nat) ej hc.2 hl]
          exact q
        · cases h
      · rename_i ej
        split at h
        · rename_i hc
          cases h
          refine ⟨us ++ [v], Es ++ [F], .dK ((ks ++ [q0]).zip (us ++ [v])), rfl, ⟨fun _ => upd_same, .inl upd_same, by simp [hl], trivial⟩, trivial, l.app (repL_cons rx repL_nil), fun y hy => ?_, by simpa using nd, fun Q q => .inr ⟨a, _, rfl, DPut.k (c.1 rfl) (by rw [List.length_zip]; omega), ?_⟩⟩
          · rw [List.flatten_append] at hy
            exact (List.mem_append.mp hy).imp id fun h => by simpa using h
          · rw [putK_new ej hl]
            exact q
        · cases h
  · cases h
def sPut2 (i : Nat) (π : Pi') (fv fi : En → Ot D) : Mst := fun ρ => match subD ρ i π with
  | some (d, js, .nd k es) => if k.isOwn then sOnL (eL [fv, fi]) (fun ds ρ => match ds with
    | [x, y] => if noT x && isAt y then (match putD2 k es y x with
      | some (k', es') => some (.nx, ρ.set i (some (putP d js (.nd k' es'))))
      | none => none) else none
    | _ => none) ρ else none
  | _ => none
theorem put_end2 {K : PySem.W.Frag} {cm : Cm} {W : WX} {P : List Nat} {i : Nat} {π : Pi'} {fv fi : En → Ot D} {D0 : Ends} {σ : L2.St} {H : Hp} (q : tS K cm W P (sPut2 i π fv fi) D0 σ H) :
    tP K cm W fv σ H fun x H1 => tPth2 K cm W i π σ H1 fun o H2 => tP K cm W fi σ H2 fun y H3 => rSet2 o y x H3 fun H4 => D0.nx σ H4 := by
  obtain ⟨Z, ρ, Fs, ok, q⟩ := q
  unfold sPut2 at q
  split at q
  rotate_left
  · exact q.elim
  rename_i d js k es hp
  split at q
  rotate_left
  · exact q.elim
  rename_i hk
  obtain ⟨h1, h2, h3⟩ := subD_eq hp
  unfold sOnL at q
  simp only [eL] at q
  refine tP_bind ok.pure (fun e => by rw [e] at q; exact q) (fun x e v H1 Z1 F r1 => ?_) (fun x e => ?_)
  rotate_left
  · rw [e] at q
    exact fun cls dd H1 Z1 ex xr => q σ H1 _ Fs (.ext ok ex) (ok.ext ex) cls dd (xr.back fun _ h => h)
  rw [e, Ot.bind_ok] at q
  refine ⟨_, ρ, Fs, d, js, _, ok.ext r1.ext, h1, h2, h3, fun H2 Z2 v' F' v0 F0 A B ex2 hs hF fo => ?_⟩
  have ex02 := lend_eq (K := K) (cm := cm) r1.ext ex2
  refine tP_bind (ok.pure.ext ex02) (fun e => by rw [e] at q; exact q) (fun y e2 u H3 Z3 G r3 => ?_) (fun x e => ?_)
  rotate_left
  · rw [e] at q
    exact fun cls dd H1 Z1 ex xr => q σ H1 _ Fs (.ext ok (ex02.trans ex)) (ok.ext (ex02.trans ex)) cls dd (xr.back fun _ h => h)
  simp only [e2, Ot.bind_ok] at q
  split at q
  rotate_left
  · exact q.elim
  rename_i hc
  rw [Bool.and_eq_true] at hc
  split at q
  rotate_left
  · exact q.elim
  rename_i k' es' ho
  have ex03 := ex02.trans r3.ext
  have mF : ∀ a ∈ F, Mut (H1 a) := Rep.mut x r1.rep
  -- the value, carried along
  have eb1 : Z1.b = Z.b := r1.ext.b
  have rx : Rep K cm H3 ⟨Z3.f, Z.b, fun _ => False⟩ x v F := by
    have r0 := noT_rep (t' := fun _ => False) r1.rep hc.1
    rw [eb1] at r0
    exact r0.grow (ex2.gr.trans r3.ext.gr) (fun a h => r3.ext.f a (ex2.f a h)) (fun _ h => h) fun _ h => h
  have ho1 := ok.one r1 hc.1
  have nfF : ∀ a ∈ F, ¬ Z3.f a := fun a ha h => by
    have n1 : ¬ Z2.f a := keep_nf (Z1 := lendZ ⟨Z1.f, Z.b, fun _ => False⟩ Fs) ex2 (mF a ha) (r1.nf a ha)
    exact keep_nf r3.ext (ex2.gr.mut (mF a ha)) n1 h
  have o : OkT K cm H3 σ ρ Fs ⟨Z3.f, Z.b, fun _ => False⟩ [x] [v] [F] := ⟨ok.ext ex03, repL_cons rx repL_nil, ho1.nd, fun a ha => ⟨nfF a (by simpa using ha), (ho1.nz a ha).2⟩⟩
  have fo2 := fo.move (cell_grow (Z' := ⟨Z3.f, Z.b, fun _ => False⟩) r3.ext.gr r3.ext.f (fun _ h => h) fun _ h => h)
  obtain ⟨a, _, _, eav, _⟩ := fo2.rep
  subst eav
  obtain ⟨us, Es, c, l, ha, aG, aE, nd, kk⟩ := ok.putF h1 hs hF fo2 hk ex03 o
  have ry : Rep K cm H3 ⟨Z3.f, Z.b, fun _ => False⟩ y u [] := by
    obtain ⟨e1, e2, _⟩ := rep_at r3.rep hc.2
    have := rdd_at (K := K) (cm := cm) (H1 := H3) [y] (by simpa using hc.2) ⟨Z3.f, Z.b, fun _ => False⟩
    obtain ⟨v, F, e3, e4, r⟩ := repL1 this
    simp only [List.map_cons, List.map_nil, List.cons.injEq, and_true] at e3 e4
    rw [e1, e3, e4]
    exact r
  obtain ⟨us', Es', o', hk', c', mu', l', sub, nd', fin⟩ := put_ok2 c l ry rx ho (by simpa using nd)
  refine fin _ ?_
  obtain ⟨Fs', ok', sub', nd2, nz⟩ := kk k' es' us' Es' o' [] hk' c' mu' l' (fun x hx => by
    rw [List.append_nil] at hx
    exact (sub x hx).imp id fun h => by simpa using h) (by rw [List.append_nil]; exact nd')
  exact q σ _ _ Fs' (.put ex03 ha sub' fun x hx => r1.new x (by simpa using hx)) ok'
section
variable {X : Cx} {cm : Cm} {W : WX} {P : List Nat} {o ix value : Expr} {pos' pos : Pos} {i : Nat} {π : Pi'} {fv fi : En → Ot D}
theorem ss_put2 (hu : X.A.units + 1 < cLine) (ho : SP2 X cm W o i π) (hv : SE X cm W value fv) (hi : SE X cm W ix fi)
    (ha : ∀ v, assign (.Subscript o ix pos') X.env v = (do
      let ov ← holding [v] (eval o X.env)
      let iv ← holding [v, ov] (eval ix X.env)
      standAt pos'
      holding [v, ov, iv] (setItem ov iv v)
      release [v, ov, iv] []) := by intro _; rfl)
    (hs : swapsWithSole [.Subscript o ix pos'] value pos.line X.env = pure false := by rfl) (hw : swappedStores [.Subscript o ix pos'] value X.env = pure none := by rfl)
    (h1 : (assignEach [.Subscript o ix pos'] X.env).map (·.2) = [assign (.Subscript o ix pos') X.env] := by rfl) : SS X cm W P (.Assign [.Subscript o ix pos'] value pos) (sPut2 i π fv fi) :=
  PS.imp (ps_asg hv (pg_sub ho hi (set_2 hu) ha) hs hw h1) fun D0 σ H q => put_end2 q
end

/-! ### o.f = v -/
def putFD (fs : List Str) (es : List D) (n : Str) (x : D) : List Str × List D := match fs.findIdx? (fun q => decide (q = n)) with
  | some j => (fs, es.set j x)
  | none => (fs ++ [n], es ++ [x])
theorem putF_zip {n : Str} {v : V} : ∀ {fs : List Str} {us : List V}, fs.length = us.length → (∀ j, fs.findIdx? (fun q => decide (q = n)) = some j → putF n v (fs.zip us) = fs.zip (us.set j v)) ∧ (fs.findIdx? (fun q => decide (q = n)) = none → putF n v (fs.zip us) = (fs ++ [n]).zip (us ++ [v]))
  | [], [], _ => ⟨fun j h => by simp at h, fun _ => rfl⟩
  | [], _ :: _, h => by simp at h
  | _ :: _, [], h => by simp at h
  | f :: fs, u :: us, h => by
    obtain ⟨a, b⟩ := putF_zip (n := n) (v := v) (fs := fs) (us := us) (by simpa using h)
    rw [List.findIdx?_cons]
    have un : putF n v ((f, u) :: fs.zip us) = (if f = n then (f, v) :: fs.zip us else (f, u) :: putF n v (fs.zip us)) := rfl
    by_cases e : f = n
    · rw [if_pos (by simpa using e)]
      refine ⟨fun j hj => ?_, fun h => nomatch h⟩
      cases hj
      rw [List.zip_cons_cons, un, if_pos e]
      rfl
    · rw [if_neg (by simpa using e)]
      cases f1 : fs.findIdx? (fun q => decide (q = n)) with
      | none =>
        refine ⟨(fun j hj => nomatch hj), fun _ => ?_⟩
        rw [List.zip_cons_cons, un, if_neg e, b f1]
        rfl
      | some j' =>
        refine ⟨fun j hj => ?_, fun h => nomatch h⟩
        cases hj
        rw [List.zip_cons_cons, un, if_neg e, a j' f1]
        rfl
def fldK (i : Nat) (π : Pi') (cs : List Str) (n : Str) (x : D) : Mst := fun ρ => match subD ρ i π with
  | some (d, js, .nd (.obj .own c fs) es) => if noT x && decide (c ∈ cs) && decide (fs.length < 1000) then some (.nx, ρ.set i (some (putP d js (.nd (.obj .own c (putFD fs es n x).1) (putFD fs es n x).2)))) else none
  | _ => none
def sFldS (i : Nat) (π : Pi') (cs : List Str) (n : Str) (fv : En → Ot D) : Mst := sOn fv (fldK i π cs n)
section
variable {X : Cx} {cm : Cm} {W : WX} {P : List Nat} {o value : Expr} {n : Str} {pos' pos : Pos} {i : Nat} {π : Pi'} {fv : En → Ot D} {cs : List Str}
theorem ss_fld (hc : ∀ c ∈ cs, Cls X.K (cm c) ∧ NoAttr X.K (cm c) n) (ho : SP2 X cm W o i π) (hv : SE X cm W value fv) (hs : swapsWith value (some (.Attribute o n pos')) pos.line X.env = pure false := by rfl) :
    SS X cm W P (.Assign [.Attribute o n pos'] value pos) (sFldS i π cs n fv) := PS.imp (ps_fld ho hv hs) fun D0 σ H q => by
  obtain ⟨Z, ρ, Fs, ok, q⟩ := q
  refine on_go ok q fun x v H1 Z1 F e r1 _ => ?_
  have q1 : FinS X.K cm W P D0 σ H Z Fs (fldK i π cs n x ρ) := by
    have q3 := q
    unfold sFldS sOn at q3
    rw [e] at q3
    exact q3
  unfold fldK at q1
  split at q1
  rotate_left
  · exact q1.elim
  rename_i d js c fs es hp
  split at q1
  rotate_left
  · exact q1.elim
  rename_i hcc
  rw [Bool.and_eq_true, Bool.and_eq_true] at hcc
  obtain ⟨⟨nt, hcs⟩, hlen⟩ := hcc
  have hcs := of_decide_eq_true hcs
  have hlen := of_decide_eq_true hlen
  obtain ⟨h1, h2, h3⟩ := subD_eq hp
  refine ⟨_, ρ, Fs, d, js, _, ok.ext r1.ext, h1, h2, h3, fun H2 Z2 v' F' v0 F0 A B ex2 hs hF fo => ?_⟩
  have ex02 := lend_eq (K := X.K) (cm := cm) r1.ext ex2
  have mF : ∀ a ∈ F, Mut (H1 a) := Rep.mut x r1.rep
  have eb1 : Z1.b = Z.b := r1.ext.b
  have rx : Rep X.K cm H2 ⟨Z2.f, Z.b, fun _ => False⟩ x v F := by
    have r0 := noT_rep (t' := fun _ => False) r1.rep nt
    rw [eb1] at r0
    exact r0.grow ex2.gr ex2.f (fun _ h => h) fun _ h => h
  have ho1 := ok.one r1 nt
  have o : OkT X.K cm H2 σ ρ Fs ⟨Z2.f, Z.b, fun _ => False⟩ [x] [v] [F] := ⟨ok.ext ex02, repL_cons rx repL_nil, ho1.nd, fun a ha => ⟨keep_nf (Z1 := lendZ ⟨Z1.f, Z.b, fun _ => False⟩ Fs) ex2 (mF a (by simpa using ha)) (r1.nf a (by simpa using ha)), (ho1.nz a ha).2⟩⟩
  obtain ⟨a, _, _, eav, _⟩ := fo.rep
  subst eav
  obtain ⟨us, Es, cell, l, ha, aG, aE, nd, kk⟩ := ok.putF h1 hs hF fo rfl ex02 o
  obtain ⟨⟨dx, hi⟩, hl, _⟩ := cell
  refine ⟨a, _, dx, _, rfl, hi, (hc c hcs).1, (hc c hcs).2, by rw [List.length_zip]; omega, ?_⟩
  have nd : (Es.flatten ++ F).Nodup := by simpa using nd
  have n0 := List.nodup_append.mp nd
  obtain ⟨pa, pb⟩ := putF_zip (n := n) (v := v) hl
  have fin : ∀ fs' es' us' Es', fs'.length = us'.length → putF n v (fs.zip us) = fs'.zip us' → RepL X.K cm H2 ⟨Z2.f, Z.b, fun _ => False⟩ es' us' Es' → (∀ x ∈ Es'.flatten, x ∈ Es.flatten ∨ x ∈ F) → Es'.flatten.Nodup → putFD fs es n x = (fs', es') → D0.nx σ (L2.upd H2 a (.ins (cm c) dx (putF n v (fs.zip us)))) := fun fs' es' us' Es' e1 e2 e3 e4 e5 e6 => by
    rw [e2]
    obtain ⟨Fs', ok', sub', nd2, nz⟩ := kk (.obj .own c fs') es' us' Es' (.ins (cm c) dx (fs'.zip us')) [] rfl ⟨⟨dx, upd_same⟩, e1, trivial⟩ trivial e3 (fun x hx => by
      rw [List.append_nil] at hx
      exact (e4 x hx).imp id fun h => by simpa using h) (by rw [List.append_nil]; exact e5)
    rw [e6] at q1
    exact q1 σ _ _ Fs' (.put ex02 ha sub' fun x hx => r1.new x (by simpa using hx)) ok'
  cases ej : fs.findIdx? (fun q => decide (q = n)) with
  | some j => exact fin fs (es.set j x) (us.set j v) (Es.set j F) (by rw [List.length_set]; exact hl) (pa j ej) (l.set j rx) (fun y hy => set_mem hy) (set_nodup n0.1 n0.2.1 fun x hx q => n0.2.2 x hx x q rfl) (by unfold putFD; rw [ej])
  | none => exact fin (fs ++ [n]) (es ++ [x]) (us ++ [v]) (Es ++ [F]) (by simp [hl]) (pb ej) (l.app (repL_cons rx repL_nil)) (fun y hy => by
      rw [List.flatten_append] at hy
      exact (List.mem_append.mp hy).imp id fun h => by simpa using h) (by simpa using nd) (by unfold putFD; rw [ej])
end
end OB

namespace OB
open PySem PySem.Spec PyProof.Rows L2
theorem PE.or {X : Cx} {e : Expr} {t t' : TE} (h : PE X e t) (h' : PE X e t') : PE X e (fun σ H Q => t σ H Q ∨ t' σ H Q) := ⟨fun pins s σ H Q I q => q.elim (h.run pins s σ H Q I) (h'.run pins s σ H Q I)⟩
section
variable {K : PySem.W.Frag} {cm : Cm} {H H' : Hp} {Z Z' : Zn}
theorem Reach.split : ∀ {js : List Nat} {d : D} {v v1 : V} {j : Nat} {k : Kd} {es : List D}, Reach K cm H Z d v (js ++ [j]) v1 → getP d js = some (.nd k es) → ∃ a vs, Reach K cm H Z d v js (.ref a) ∧ Cell K cm H Z a k vs ∧ vs.length = es.length ∧ vs[j]? = some v1
  | [], d, v, v1, j, k, es, h, e => by
    have e : d = .nd k es := by simpa [getP] using e
    subst e
    obtain ⟨a, vs, vj, dj, rfl, c, el, e1, e2, r⟩ := h
    have : vj = v1 := by cases dj <;> exact r
    subst this
    exact ⟨a, vs, rfl, c, el, e2⟩
  | j' :: js, .nd k' ds, v, v1, j, k, es, h, e => by
    obtain ⟨a, vs, vj, dj, rfl, c, el, e1, e2, r⟩ := (show Reach K cm H Z (.nd k' ds) v (j' :: (js ++ [j])) v1 from h)
    rw [getP_cons e1] at e
    obtain ⟨a2, vs2, r2, c2, e3⟩ := Reach.split r e
    exact ⟨a2, vs2, ⟨a, vs, vj, dj, rfl, c, el, e1, e2, r2⟩, c2, e3⟩
  | _ :: _, .non, _, _, _, _, _, h, e => by simp [getP] at e
  | _ :: _, .bl _, _, _, _, _, _, h, e => by simp [getP] at e
  | _ :: _, .int _, _, _, _, _, _, h, e => by simp [getP] at e
  | _ :: _, .str _, _, _, _, _, _, h, e => by simp [getP] at e
end
/-! ### a path, only read -/
def tPthP (K : PySem.W.Frag) (cm : Cm) (i : Nat) (π : Pi') : TE := fun σ H Q => ∃ Z ρ Fs d js d0 v v0, OkP K cm H σ ρ Fs Z ∧ ρ[i]? = some (some d) ∧ π ρ = some js ∧ getP d js = some d0 ∧ σ[i]? = some (some v) ∧ Reach K cm H Z d v js v0 ∧
  ∀ H' Z', Ext H Z H' Z' → Q v0 H'
abbrev SPP (X : Cx) (cm : Cm) (e : Expr) (i : Nat) (π : Pi') : Prop := PE X e (tPthP X.K cm i π)
section
variable {X : Cx} {cm : Cm} {W : WX} {o e : Expr} {i : Nat} {π : Pi'} {f : En → Ot D} {pos p : Pos} {x : Str}
theorem spp_name (he : PE X (.Name x p) (tVar i)) : SPP X cm (.Name x p) i pHere := PE.imp he fun σ H Q q => by
  obtain ⟨Z, ρ, Fs, d, js, d0, v, v0, ok, h1, h2, h3, hs, r, q⟩ := q
  cases h2
  have : v = v0 := by cases d <;> exact r
  subst this
  exact ⟨v, hs, q H Z (.refl ok.dom)⟩
theorem spp_fld (ho : SPP X cm o i π) {n : Str} {cs : List Str} (hc : ∀ c ∈ cs, Cls X.K (cm c) ∧ NoAttr X.K (cm c) n) (hb : attributeBase o n X.env (eval o X.env) = eval o X.env := by rfl) : SPP X cm (.Attribute o n pos) i (πFld i π cs n) := PE.imp (pe_fld ho hb) fun σ H Q q => by
  obtain ⟨Z, ρ, Fs, d, js, d0, v, v0, ok, h1, h2, h3, hs, r, q⟩ := q
  unfold πFld at h2
  rw [h1] at h2
  cases e1 : π ρ with
  | none => rw [e1] at h2; cases h2
  | some js0 =>
    rw [e1] at h2
    dsimp only [Option.bind_some] at h2
    cases e2 : getP d js0 with
    | none => rw [e2] at h2; cases h2
    | some dd =>
      rw [e2] at h2
      dsimp only [Option.bind_some] at h2
      unfold fldP at h2
      split at h2
      · rename_i fl c fs es
        split at h2
        rotate_left
        · cases h2
        rename_i hcs
        cases e3 : fs.findIdx? (fun q => decide (q = n)) with
        | none => rw [e3] at h2; cases h2
        | some j =>
          rw [e3] at h2
          cases h2
          obtain ⟨a, vs, r1, ⟨⟨dx, hi⟩, hl, _⟩, _, e4⟩ := Reach.split r e2
          obtain ⟨w, w1, w2⟩ := lookup_idx e3 hl
          rw [e4] at w1
          cases w1
          exact ⟨Z, ρ, Fs, d, js0, _, v, .ref a, ok, h1, e1, e2, hs, r1, fun H' Z' ex => ⟨a, _, dx, _, v0, rfl, ex.gr _ _ hi, (hc c hcs).1, (hc c hcs).2, w2, q H' Z' ex⟩⟩
      · cases h2
theorem spp_ix (hu : X.A.units + 1 < cLine) (ho : SPP X cm o i π) (he : SE X cm W e f) (hs : PlainIx e := by exact fun _ _ => rfl) : SPP X cm (.Subscript o e pos) i (πIx i π f) := PE.imp (pe_ix (ix_4 hu) ho he hs) fun σ H Q q => by
  obtain ⟨Z, ρ, Fs, d, js, d0, v, v0, ok, h1, h2, h3, hs, r, q⟩ := q
  unfold πIx at h2
  rw [h1] at h2
  cases e1 : π ρ with
  | none => rw [e1] at h2; cases h2
  | some js0 =>
    rw [e1] at h2
    dsimp only [Option.bind_some] at h2
    cases e2 : getP d js0 with
    | none => rw [e2] at h2; cases h2
    | some dd =>
      rw [e2] at h2
      dsimp only [Option.bind_some] at h2
      cases ef : f ρ with
      | no => rw [ef] at h2; cases h2
      | ex x => rw [ef] at h2; cases h2
      | ok key =>
        rw [ef] at h2
        dsimp only at h2
        cases e3 : stepP dd key with
        | none => rw [e3] at h2; cases h2
        | some j =>
          rw [e3] at h2
          cases h2
          cases dd with
          | nd kk es =>
            obtain ⟨a, us, r1, cell, lu, hu'⟩ := Reach.split r e2
            refine ⟨Z, ρ, Fs, d, js0, _, v, .ref a, ok, h1, e1, e2, hs, r1, fun H' Z' ex => ?_⟩
            refine tP_bind (ok.ext ex) (fun q' => by rw [ef] at q'; cases q') (fun kd ek vk H2 Z2 Fk rk => ?_) (fun x q' => by rw [ef] at q'; cases q')
            rw [ef] at ek
            cases ek
            have ex2 := ex.trans rk.ext
            have fin := q H2 Z2 ex2
            cases kk with
            | tup =>
              unfold stepP at e3
              dsimp only at e3
              split at e3
              · rename_i z
                obtain ⟨rfl, _⟩ := rk.rep
                exact .inl (.inr (.inl ⟨a, us, _, v0, rfl, rfl, ex2.gr.sqT cell, by unfold atI; rw [lu, e3]; exact hu', fin⟩))
              · cases e3
            | lst fl =>
              unfold stepP at e3
              dsimp only at e3
              split at e3
              · rename_i z
                obtain ⟨rfl, _⟩ := rk.rep
                exact .inl (.inl ⟨a, us, _, v0, rfl, rfl, rdL (ex2.gr.rd cell.2.1), by unfold atI; rw [lu, e3]; exact hu', fin⟩)
              · cases e3
            | dct fl ks =>
              unfold stepP at e3
              dsimp only at e3
              cases ek : keyD key with
              | none => rw [ek] at e3; cases e3
              | some k =>
                rw [ek] at e3
                dsimp only [Option.bind_some] at e3
                have ekk := key_ok rk.rep ek
                subst ekk
                obtain ⟨w, w1, w2⟩ := look_idx e3 cell.2.2.1
                rw [hu'] at w1
                cases w1
                have g := DGet.rk (k := k) (ex2.gr.rd cell.2.1)
                rw [look_valV cell.2.2.1, w2] at g
                exact .inr ⟨a, v0, rfl, g, fin⟩
            | obj fl c fs => cases e3
            | exc fl c fs => cases e3
            | adr fl b => cases e3
          | non => cases e3
          | bl b => cases e3
          | int b => cases e3
          | str b => cases e3
end

/-! ### a dict is locked while it is read -/
def keyDat : Key → D
  | .inl i => .int i
  | .inr s => .str s
theorem rep_key {K : PySem.W.Frag} {cm : Cm} {H : Hp} {Z : Zn} (k : Key) : Rep K cm H Z (keyDat k) (kV k) [] := by
  cases k <;> exact ⟨rfl, rfl⟩
section
variable {K : PySem.W.Frag} {cm : Cm} {H : Hp} {Z : Zn} {a : Addr} {kvs : List (Key × V)} {od : Obj}
theorem rd_lock (e : H a = some (.dK kvs)) {b : Addr} {u : HO} (h : Rd H b u) : Rd (L2.upd H a (.frz od (.dK kvs))) b u := by
  by_cases q : b = a
  · subst q
    rcases h with h | ⟨o, h⟩
    · rw [e] at h; cases h
      exact .inr ⟨od, upd_same⟩
    · rw [e] at h; cases h
  · rcases h with h | ⟨o, h⟩
    · exact .inl (by rw [upd_ne q]; exact h)
    · exact .inr ⟨o, by rw [upd_ne q]; exact h⟩
theorem rd_unlock (e : H a = some (.frz od (.dK kvs))) {b : Addr} {u : HO} (h : Rd H b u) (n : ∀ o v, u ≠ .frz o v) : Rd (L2.upd H a (.dK kvs)) b u := by
  by_cases q : b = a
  · subst q
    rcases h with h | ⟨o, h⟩
    · rw [e] at h; cases h
      exact absurd rfl (n _ _)
    · rw [e] at h; cases h
      exact .inl upd_same
  · rcases h with h | ⟨o, h⟩
    · exact .inl (by rw [upd_ne q]; exact h)
    · exact .inr ⟨o, by rw [upd_ne q]; exact h⟩
theorem cell_lock (e : H a = some (.dK kvs)) : CellMove K cm H (L2.upd H a (.frz od (.dK kvs))) Z Z id (fun _ => False) := fun b k vs h ho => by
  have ne : ∀ u, H b = some u → (∀ kvs, u ≠ .dK kvs) → b ≠ a := fun u hu n q => by subst q; rw [e] at hu; cases hu; exact n _ rfl
  cases k with
  | tup => exact h.imp (rd_lock e) id
  | lst fl => exact ⟨fun q => (ho (by subst q; rfl)).elim, rd_lock e h.2.1, h.2.2⟩
  | dct fl ks => exact ⟨fun q => (ho (by subst q; rfl)).elim, rd_lock e h.2.1, h.2.2⟩
  | obj fl c fs =>
    obtain ⟨⟨dx, e2⟩, l, o⟩ := h
    exact ⟨⟨dx, by rw [upd_ne (ne _ e2 fun _ q => nomatch q)]; exact e2⟩, l, o⟩
  | adr fl b' =>
    obtain ⟨h1, h2, h3, ⟨us, h4⟩, h5⟩ := h
    exact ⟨h1, h2, h3, ⟨us, rd_lock e h4⟩, h5⟩
  | exc fl c fs =>
    obtain ⟨⟨dx, e2, q⟩, l, o⟩ := h
    refine ⟨⟨dx, by rw [upd_ne (ne _ e2 fun _ q => nomatch q)]; exact e2, ?_⟩, l, o⟩
    cases dx with
    | none => exact q
    | some d =>
      have q : H d = some (.xd (fs.zip vs)) := q
      have nd : d ≠ a := fun z => by subst z; rw [e] at q; cases q
      exact (upd_ne nd).trans q
theorem cell_unlock (e : H a = some (.frz od (.dK kvs))) : CellMove K cm H (L2.upd H a (.dK kvs)) Z Z id (fun _ => True) := fun b k vs h _ => by
  have ne : ∀ u, H b = some u → (∀ o v, u ≠ .frz o v) → b ≠ a := fun u hu n q => by subst q; rw [e] at hu; cases hu; exact n _ _ rfl
  have ex : ∀ u, H b = some u → (∀ o v, u ≠ .frz o v) → L2.upd H a (.dK kvs) b = some u := fun u hu n => by rw [upd_ne (ne u hu n)]; exact hu
  cases k with
  | tup => exact h.imp (fun q => rd_unlock e q fun _ _ z => nomatch z) id
  | lst fl => exact ⟨fun q => ex _ (h.1 q) (fun _ _ z => nomatch z), rd_unlock e h.2.1 fun _ _ z => (nomatch z), h.2.2⟩
  | dct fl ks => exact ⟨fun q => ex _ (h.1 q) (fun _ _ z => nomatch z), rd_unlock e h.2.1 fun _ _ z => (nomatch z), h.2.2⟩
  | obj fl c fs =>
    obtain ⟨⟨dx, e2⟩, l, o⟩ := h
    exact ⟨⟨dx, ex _ e2 (fun _ _ z => nomatch z)⟩, l, o⟩
  | adr fl b' =>
    obtain ⟨h1, h2, h3, ⟨us, h4⟩, h5⟩ := h
    exact ⟨h1, h2, h3, ⟨us, rd_unlock e h4 fun _ _ z => (nomatch z)⟩, h5⟩
  | exc fl c fs =>
    obtain ⟨⟨dx, e2, q⟩, l, o⟩ := h
    refine ⟨⟨dx, ex _ e2 fun _ _ z => (nomatch z), ?_⟩, l, o⟩
    cases dx with
    | none => exact q
    | some d =>
      have q : H d = some (.xd (fs.zip vs)) := q
      have nd : d ≠ a := fun z => by subst z; rw [e] at q; cases q
      exact (upd_ne nd).trans q
mutual
theorem allF_true : ∀ d : D, allF (fun _ => true) d = true
  | .non => rfl
  | .bl _ => rfl
  | .int _ => rfl
  | .str _ => rfl
  | .nd k ds => by
    unfold allF
    rw [allFL_true ds]
    cases k <;> rfl
theorem allFL_true : ∀ ds : List D, allFL (fun _ => true) ds = true
  | [] => rfl
  | d :: ds => by unfold allFL; rw [allF_true d, allFL_true ds]; rfl
end
theorem Reach.moveN {H' : Hp} {Z' : Zn} (m : CellMove K cm H H' Z Z' id (fun _ => False)) : ∀ (js : List Nat) {d : D} {v v0 : V}, allF (fun f => f != .own) d = true → Reach K cm H Z d v js v0 → Reach K cm H' Z' d v js v0
  | [], d, v, v0, _, h => by cases d <;> exact h
  | j :: js, d, v, v0, ha, h => by
    cases d with
    | nd k ds =>
      obtain ⟨a, vs, vj, dj, rfl, c, el, e1, e2, r⟩ := h
      unfold allF at ha
      rw [Bool.and_eq_true, allFL_eq] at ha
      have no : k.isOwn = true → False := fun q => by
        have h1 := ha.1
        cases k with
        | tup => cases q
        | lst f => cases f <;> first | exact absurd (show false = true from h1) Bool.false_ne_true | exact absurd (show false = true from q) Bool.false_ne_true
        | dct f ks => cases f <;> first | exact absurd (show false = true from h1) Bool.false_ne_true | exact absurd (show false = true from q) Bool.false_ne_true
        | obj f c fs => cases f <;> first | exact absurd (show false = true from h1) Bool.false_ne_true | exact absurd (show false = true from q) Bool.false_ne_true
        | exc f c fs => cases f <;> first | exact absurd (show false = true from h1) Bool.false_ne_true | exact absurd (show false = true from q) Bool.false_ne_true
        | adr f b => cases f <;> first | exact absurd (show false = true from h1) Bool.false_ne_true | exact absurd (show false = true from q) Bool.false_ne_true
      have cc := m a k vs c no
      rw [Kd.mapF_id] at cc
      exact ⟨a, vs, vj, dj, rfl, cc, el, e1, e2, Reach.moveN m js (List.all_eq_true.mp ha.2 dj (List.mem_of_getElem? e1)) r⟩
    | _ => exact h.elim
def tmpE (ρ : En) : En := ρ.map (Option.map (mapF Fl.toTmp))
theorem OkP.tmp {σ : L2.St} {ρ : En} {Fs : List (List Addr)} (ok : OkP K cm H σ ρ Fs Z) : OkP K cm H σ (tmpE ρ) (Fs.map fun _ => []) Z := by
  refine ⟨⟨by unfold tmpE; rw [List.length_map]; exact ok.rep.lσ, by unfold tmpE; rw [List.length_map, List.length_map]; exact ok.rep.lF, fun i d h => ?_⟩, ok.dom, fun a h => by rw [flat_map_nil] at h; cases h⟩
  unfold tmpE at h
  rw [List.getElem?_map] at h
  cases e : ρ[i]? with
  | none => rw [e] at h; cases h
  | some o =>
    rw [e] at h
    cases o with
    | none => cases h
    | some d0 =>
      cases h
      obtain ⟨v, hv, r⟩ := ok.lent (i := i) (d := d0) (by unfold getV; rw [e]; rfl)
      obtain ⟨v', F, _, hF, _⟩ := ok.rep.get i d0 e
      exact ⟨v, [], hv, by rw [List.getElem?_map, hF]; rfl, r⟩
theorem OkP.locked {σ : L2.St} {ρ : En} {Fs : List (List Addr)} (ok : OkP K cm H σ ρ Fs Z) (e : H a = some (.dK kvs)) (nil : Fs.flatten = []) : OkP K cm (L2.upd H a (.frz od (.dK kvs))) σ ρ Fs Z := by
  refine ⟨⟨ok.rep.lσ, ok.rep.lF, fun i d h => ?_⟩, ⟨fun x h => ?_, fun x h => ?_, fun x h => ?_⟩, ok.tm⟩
  · obtain ⟨v, F, e1, e2, r⟩ := ok.rep.get i d h
    have : F = [] := by
      cases F with
      | nil => rfl
      | cons x F => exact absurd (flat_mem e2 (List.mem_cons_self (a := x) (l := F))) (by rw [nil]; simp)
    subst this
    exact ⟨v, [], e1, e2, r.stay (cell_lock e) fun _ h => nomatch h⟩
  all_goals
    by_cases q : x = a
    · subst q; rw [upd_same]; simp
    · rw [upd_ne q]
      first
        | exact ok.dom.f x h
        | exact ok.dom.b x h
        | exact ok.dom.t x h
theorem walk_keys {ks : List Key} {vs : List V} {O : List Addr} (e : H a = some (.frz od (.dK (ks.zip vs)))) (l : ks.length = vs.length) (n : a ∉ O) : Walks K cm (Itk a od (ks.zip vs)) H O Z (ks.map keyDat) where
  go := fun i H2 k h => ⟨k _ _ e n, by rw [List.length_zip]; rw [List.length_map] at h; omega⟩
  stop := fun i H2 k h => ⟨k _ _ e n, by rw [List.length_zip]; rw [List.length_map] at h; omega⟩
  yld := fun i H2 x H3 k h d hd => by
    obtain ⟨rfl, kk, v, hk, rfl⟩ := h
    rw [List.getElem?_map] at hd
    have : ks[i]? = some kk := by
      rw [List.getElem?_zip_eq_some] at hk
      exact hk.1
    rw [this] at hd
    cases hd
    exact ⟨.refl _, rep_key kk⟩
end
def eCompK (i : Nat) (π : Pi') (tg : D → En → Option En) (c : En → Ot Bool) (f : En → Ot D) (vs : List Nat) : En → Ot D := fun ρ => match subD (tmpE ρ) i π with
  | some (_, _, .nd (.dct _ ks) _) => (match compL tg c f (wipeE (tmpE ρ) vs) (ks.map keyDat) with
    | some ys => if ys.length ≤ sizeLine then .ok (.nd (.lst .own) ys) else .no
    | none => .no)
  | _ => .no
theorem compK_end {K : PySem.W.Frag} {cm : Cm} {W : WX} {i : Nat} {π : Pi'} {tg : D → En → Option En} {g : TG} {S : List Nat} {c : En → Ot Bool} {tt : TT} {f : En → Ot D} {vs : List Nat} (hg : OkTg K cm S g tg) (hS : ∀ i ∈ S, i ∈ vs) (hT : ∀ σ H Q, tPT K cm W0 c σ H Q → tt σ H Q)
    {σ : L2.St} {H : Hp} {Q : VK} (q0 : tP K cm W (eCompK i π tg c f vs) σ H Q) : tLockE (tLc (iKeys (tPthP K cm i π)) g tt (tP K cm W0 f) vs) σ H Q ∨ tLc (iKeys (tPthP K cm i π)) g tt (tP K cm W0 f) vs σ H Q := by
  obtain ⟨Z, ρ, Fs, ok, q0⟩ := q0
  unfold eCompK at q0
  split at q0
  rotate_left
  · exact q0.elim
  rename_i d js fl ks es hp
  split at q0
  rotate_left
  · exact q0.elim
  rename_i all hc
  split at q0
  rotate_left
  · exact q0.elim
  rename_i hz
  obtain ⟨h1, h2, h3⟩ := subD_eq hp
  have okt := ok.tmp
  obtain ⟨v, F, hv, hF, rv⟩ := okt.rep.get i d h1
  obtain ⟨v0, F0, A, B, eF, r0, rc, _⟩ := Rep.focus js rv h3
  obtain ⟨a, us, Es, rfl, cell, _, _⟩ := r0
  have hl := cell.2.2.1
  have nil := flat_map_nil (Fs)
  -- the run, the dict locked
  have run : ∀ (Hl : Hp) (od : Obj) (Q' : VK), Hl a = some (.frz od (.dK (ks.zip us))) → OkP K cm Hl σ (tmpE ρ) (Fs.map fun _ => []) Z → Reach K cm Hl Z d v js (.ref a) → (∀ H2 Z2 (F : V × List Addr), Res K cm Hl Z H2 Z2 [] (.nd (.lst .own) all) F.1 F.2 → Q' F.1 H2) → tLc (iKeys (tPthP K cm i π)) g tt (tP K cm W0 f) vs σ Hl Q' := fun Hl od Q' el okl rl fin => by
    refine ⟨Z, tmpE ρ, _, d, js, _, v, .ref a, okl, h1, h2, h3, hv, rl, fun H' Z' ex => ⟨a, od, rfl, .inl ⟨ks.zip us, ex.gr _ _ el, fun D0 hD => ?_⟩⟩⟩
    exact comp_core hg hS hT (okl.ext ex) (walk_keys (ex.gr _ _ el) hl (fun h => nomatch h)) hc hz hD fun H2 Z2 F r => fin H2 Z2 (.ref D0, F) (r.trans0 ex)
  rcases cell.2.1 with e | ⟨od, e⟩
  · refine .inl ⟨a, _, e, trivial, fun od => ?_⟩
    have e' : L2.upd H a (.frz od (.dK (ks.zip us))) a = some (.frz od (.dK (ks.zip us))) := upd_same
    have hd : allF (fun f => f != .own) d = true := by
      unfold tmpE at h1
      rw [List.getElem?_map] at h1
      cases e1 : ρ[i]? with
      | none => rw [e1] at h1; cases h1
      | some o =>
        rw [e1] at h1
        cases o with
        | none => cases h1
        | some d0 =>
          cases h1
          exact allF_mapF (p := fun _ => true) (fun f _ => by cases f <;> rfl) d0 (allF_true d0)
    exact run _ od _ e' (okt.locked e nil) (Reach.moveN (cell_lock e) js hd rc) fun H2 Z2 F r => by
      have e2 : H2 a = some (.frz od (.dK (ks.zip us))) := r.ext.gr _ _ e'
      refine ⟨e2, q0 F.1 _ Z2 F.2 ⟨⟨fun x o h => ?_, r.ext.f, fun x h => ?_, fun x h => ?_, r.ext.b, r.ext.t⟩, r.rep.stay (cell_unlock e2) (fun _ _ => trivial), r.nd, fun x h => ?_, r.nf⟩⟩
      · by_cases q : x = a
        · subst q
          rw [e] at h; cases h
          exact upd_same
        · rw [upd_ne q]
          exact r.ext.gr _ _ (by rw [upd_ne q]; exact h)
      · rcases r.ext.fn x h with z | z
        · exact .inl z
        · by_cases q : x = a
          · subst q; rw [upd_same] at z; cases z
          · rw [upd_ne q] at z; exact .inr z
      · by_cases q : x = a
        · subst q; rw [upd_same]; simp
        · rw [upd_ne q]; exact r.ext.fd x h
      · have z := r.new x h
        by_cases q : x = a
        · subst q; rw [upd_same] at z; cases z
        · rw [upd_ne q] at z; exact .inl z
  · exact .inr (run H od Q e okt rc fun H2 Z2 F r => q0 F.1 H2 Z2 F.2 r)
section
variable {X : Cx} {cm : Cm} {W : WX} {i : Nat} {π : Pi'}
variable {elt tgx iter : Expr} {ifs : List Expr} {scope : Scope} {own : List (Str × Nat)} {pos : Pos} {tg : D → En → Option En} {g : TG} {S : List Nat} {c : En → Ot Bool} {tt : TT} {f : En → Ot D} {t : Expr}
/-- [elt for target in a dict if ..] -/
theorem s_compK (hc : X.calm = true) (hN : X.N.Nodup) (hi : SPP X cm iter i π) (ok : BlkOk X.N X.env.scope scope own) (hS : (S.all fun i => (own.map (·.2)).contains i) = true) (hgo : OkTg X.K cm S g tg)
    (hg : ∀ (s : Shared) (H : Hp) (C : Addr) (cl : List (Str × Addr)) (fp : List Addr), PG (X.blk s H scope (compEnvC scope cl C X.env) fp) tgx g) (ht : ∀ (s : Shared) (H : Hp) (C : Addr) (cl : List (Str × Addr)) (fp : List Addr), PTs (X.blk s H scope (compEnvC scope cl C X.env) fp) ifs tt)
    (hT : ∀ σ H Q, tPT X.K cm W0 c σ H Q → tt σ H Q)
    (he : ∀ (s : Shared) (H : Hp) (C : Addr) (cl : List (Str × Addr)) (fp : List Addr), SE (X.blk s H scope (compEnvC scope cl C X.env) fp) cm W0 elt f) (hs : ∀ x, foldedSetIterable iter X.env x = pure x := by intro _; rfl) :
    SE X cm W (.ListComp elt [⟨tgx, iter, ifs, 0⟩] scope pos) (eCompK i π tg c f (own.map (·.2))) :=
  PE.imp (PE.or (pe_lock (pe_lc hc hN (pi_keys hi) ok hg ht he hs)) (pe_lc hc hN (pi_keys hi) ok hg ht he hs)) fun σ H Q q0 => compK_end hgo (fun i hi => by
    have := List.all_eq_true.mp hS i hi
    simpa using this) hT q0
end

/-! ### list(d), dict(d), dict(pairs) -/
def pListD : List D → Option D
  | [.nd (.dct _ ks) _] => some (.nd (.lst .own) (ks.map keyDat))
  | _ => none
def pDictD : List D → Option D
  | [.nd (.dct _ ks) ds] => some (.nd (.dct .own ks) ds)
  | _ => none
def pairsD : List D → Option (List Key × List D)
  | [] => some ([], [])
  | .nd .tup [k, d] :: ds => (keyD k).bind fun q => (pairsD ds).map fun p => (q :: p.1, d :: p.2)
  | _ => none
def pDictP : List D → Option D
  | [.nd (.lst _) es] => (pairsD es).bind fun p => if p.1.Nodup then some (.nd (.dct .own p.1) p.2) else none
  | _ => none
theorem mergeK_app {α : Type} : ∀ {kvs acc : List (Key × V)}, (acc.map (·.1) ++ kvs.map (·.1)).Nodup → mergeK acc kvs = acc ++ kvs
  | [], acc, _ => by simp [mergeK]
  | kv :: kvs, acc, nd => by
    have nin : (acc.any fun p => decide (p.1 = kv.1)) = false := by
      rw [List.any_eq_false]
      intro p hp q
      have q := of_decide_eq_true q
      rw [List.map_cons] at nd
      have := (List.nodup_append.mp nd).2.2 p.1 (List.mem_map.mpr ⟨p, hp, rfl⟩) kv.1 (by simp)
      exact this q
    have e : putK acc kv.1 kv.2 = acc ++ [kv] := by
      unfold putK
      rw [if_neg (by rw [nin]; decide)]
    have : mergeK acc (kv :: kvs) = mergeK (putK acc kv.1 kv.2) kvs := rfl
    rw [this, e, mergeK_app (α := α) (by simpa using nd)]
    simp
theorem mergeK_nil {ks : List Key} {us : List V} (nd : ks.Nodup) (l : ks.length = us.length) : mergeK [] (ks.zip us) = ks.zip us := by
  have := mergeK_app (α := Nat) (kvs := ks.zip us) (acc := []) (by
    rw [List.map_nil, List.nil_append, List.map_fst_zip (by omega)]
    exact nd)
  simpa using this
section
variable {K : PySem.W.Frag} {cm : Cm}
theorem ok_listD : OkPr K cm (fun xs H Q => ∃ (a : Addr) (kvs : List (Key × V)), xs = [.ref a] ∧ Rd H a (.dK kvs) ∧ ∀ p, H p = none → Q (.ref p) (L2.upd H p (.lst (kvs.map fun kv => kV kv.1)))) pListD := fun H Z ds vs Fs d dm rl nd nf h Q q => by
  unfold pListD at h
  split at h
  · rename_i fl ks es
    cases h
    obtain ⟨v, F, rfl, rfl, a, us, Es, rfl, c, l, rfl⟩ := repL1 rl
    refine ⟨a, _, rfl, c.2.1, fun p hp => ?_⟩
    have e : (ks.zip us).map (fun kv => kV kv.1) = ks.map kV := by
      have : (ks.zip us).map (·.1) = ks := List.map_fst_zip (by have := c.2.2.1; omega)
      conv => rhs; rw [← this]
      rw [List.map_map]; rfl
    rw [e]
    have rk : RepL K cm H Z (ks.map keyDat) (ks.map kV) (List.replicate ks.length []) := repL_mk (g := keyDat) (g' := kV) (fun k => rep_key k) ks
    have fl0 : (List.replicate ks.length ([] : List Addr)).flatten = [] := flatten_nils _
    exact q _ _ Z _ (.newL dm rk (by rw [fl0]; exact List.nodup_nil) (fun a h => by rw [fl0] at h; cases h) (fun a h => by rw [fl0] at h; cases h) hp)
  · cases h
theorem Res.newD {H : Hp} {Z : Zn} {A : List Addr} {ks : List Key} {ds : List D} {vs : List V} {Fs : List (List Addr)} {p : Addr} (dm : Dom H Z) (rl : RepL K cm H Z ds vs Fs) (hl : ks.length = vs.length) (nd : Fs.flatten.Nodup) (sub : ∀ a ∈ Fs.flatten, H a = none ∨ a ∈ A) (nf : ∀ a ∈ Fs.flatten, ¬ Z.f a)
    (hp : H p = none) : Res K cm H Z (L2.upd H p (.dK (ks.zip vs))) Z A (.nd (.dct .own ks) ds) (.ref p) (ownA (.dct .own ks) p ++ Fs.flatten) :=
  .newNd dm rl nd sub nf hp ⟨fun _ => upd_same, .inl upd_same, hl, trivial⟩
theorem ok_dictD : OkPr K cm (fun xs H Q => ∃ (a : Addr) (kvs : List (Key × V)), xs = [.ref a] ∧ Rd H a (.dK kvs) ∧ ∀ p, H p = none → Q (.ref p) (L2.upd H p (.dK kvs))) pDictD := fun H Z ds vs Fs d dm rl nd nf h Q q => by
  unfold pDictD at h
  split at h
  · rename_i fl ks es
    cases h
    obtain ⟨v, F, rfl, rfl, a, us, Es, rfl, c, l, rfl⟩ := repL1 rl
    have nd : (ownA (.dct fl ks) a ++ Es.flatten).Nodup := by simpa using nd
    refine ⟨a, _, rfl, c.2.1, fun p hp => q _ _ Z _ (.newD dm l c.2.2.1 (List.nodup_append.mp nd).2.1 (fun x hx => .inr (by simp [hx])) (fun x hx => nf x (by simp [hx])) hp)⟩
  · cases h
theorem pairs_rep {H : Hp} {Z : Zn} : ∀ {es : List D} {us : List V} {Es : List (List Addr)} {ks : List Key} {ds : List D}, RepL K cm H Z es us Es → pairsD es = some (ks, ds) → ∃ (ps : List Addr) (vs : List V) (Fs : List (List Addr)), us = ps.map V.ref ∧ RepL K cm H Z ds vs Fs ∧ ks.length = vs.length ∧
    Paired (fun p kv => SqT K H p [kV kv.1, kv.2]) ps (ks.zip vs) ∧ Fs.flatten.Sublist Es.flatten
  | [], _, _, _, _, h, e => by
    obtain ⟨rfl, rfl⟩ := h
    cases e
    exact ⟨[], [], [], rfl, repL_nil, rfl, .nil, List.Sublist.refl _⟩
  | d :: es, _, _, ks, ds, h, e => by
    obtain ⟨v, us, F, Es, rfl, rfl, h1, h2⟩ := h
    unfold pairsD at e
    split at e
    · rename_i heq; cases heq
    · rename_i k d' es' heq
      cases heq
      cases ek : keyD k with
      | none => rw [ek] at e; cases e
      | some q =>
        rw [ek, Option.bind_some] at e
        cases ep : pairsD es with
        | none => rw [ep] at e; cases e
        | some p =>
          rw [ep] at e
          cases e
          obtain ⟨ps, vs, Fs, rfl, r, l, pr, sb⟩ := pairs_rep h2 ep
          obtain ⟨a, ws, Ws, rfl, c, lw, rfl⟩ := h1
          obtain ⟨x, y, G, M, rfl, rfl, rx, ry⟩ := repL2 lw
          have ex := key_ok rx ek
          subst ex
          refine ⟨a :: ps, y :: vs, M :: Fs, rfl, repL_cons ry r, by simp [l], .cons c pr, ?_⟩
          simp only [List.flatten_cons, List.flatten_nil, List.append_nil, ownA, Kd.isOwn, Kd.fl]
          exact List.Sublist.append ((List.sublist_append_right G M).trans (List.sublist_append_right _ _)) sb
    · cases e
theorem ok_dictP : OkPr K cm (fun xs H Q => ∃ (a : Addr) (ps : List Addr) (kvs : List (Key × V)), xs = [.ref a] ∧ SqL K H a (ps.map V.ref) ∧ Paired (fun p kv => SqT K H p [kV kv.1, kv.2]) ps kvs ∧ ∀ p, H p = none → Q (.ref p) (L2.upd H p (.dK (mergeK [] kvs)))) pDictP := fun H Z ds vs Fs d dm rl nd nf h Q q => by
  unfold pDictP at h
  split at h
  · rename_i fl es
    cases ep : pairsD es with
    | none => rw [ep] at h; cases h
    | some p =>
      obtain ⟨ks, ds⟩ := p
      rw [ep, Option.bind_some] at h
      split at h
      · rename_i hn
        cases h
        obtain ⟨v, F, rfl, rfl, a, us, Es, rfl, c, l, rfl⟩ := repL1 rl
        obtain ⟨ps, vs, Gs, rfl, r, hl, pr, sb⟩ := pairs_rep l ep
        have nd : (ownA (.lst fl) a ++ Es.flatten).Nodup := by simpa using nd
        refine ⟨a, ps, _, rfl, rdL c.2.1, pr, fun p hp => ?_⟩
        rw [mergeK_nil hn hl]
        exact q _ _ Z _ (.newD dm r hl ((List.nodup_append.mp nd).2.1.sublist sb) (fun x hx => .inr (by simp [sb.subset hx])) (fun x hx => nf x (by simp [sb.subset hx])) hp)
      · cases h
  · cases h
end
end OB

namespace OB
open PySem PySem.Spec PyProof.Rows L2
def stepS (σ : List Str) (v : Str) : List Str := if σ.any (· == v) then σ else σ ++ [v]
def metS (val : Nat → Str) (i : Nat) : List Str := ((List.range i).map val).foldl stepS []
theorem metS_succ (val : Nat → Str) (i : Nat) : metS val (i + 1) = stepS (metS val i) (val i) := by
  unfold metS
  rw [List.range_succ, List.map_append, List.foldl_append]
  rfl
theorem metS_le (val : Nat → Str) : ∀ i, (metS val i).length ≤ i
  | 0 => Nat.le_refl _
  | i + 1 => by
    rw [metS_succ]
    unfold stepS
    have ih := metS_le val i
    split
    · omega
    · rw [List.length_append, List.length_singleton]; omega
theorem stepS_any (σ : List Str) (v k : Str) : (stepS σ v).any (· == k) = (σ.any (· == k) || decide (k = v)) := by
  unfold stepS
  by_cases h : σ.any (· == v) = true
  · rw [if_pos h]
    by_cases e : k = v
    · subst e; rw [h]; rfl
    · simp [e]
  · rw [if_neg h, List.any_append]
    by_cases e : k = v
    · subst e; simp
    · have hb : (v == k) = false := by simpa using fun z : v = k => e z.symm
      simp [hb, e]
theorem stepS_len (σ : List Str) (v : Str) : (stepS σ v).length = if σ.any (· == v) then σ.length else σ.length + 1 := by
  unfold stepS
  split <;> simp
section
variable {prog : Program} {w : World} {A : Around} {R : Result → Shared → Prop} {I : Addr} {fp wr : List Addr} {G : Array GenState → Array GenState → Prop} {n : Nat} {P : Nat → Value → Prop} {St : Nat → Shared → Prop}
theorem setUp_str (W : WalksS prog w A.in1 I fp wr G n P St) (S : Addr) (hSf : S ∉ fp) (val : Nat → Str) (hval : ∀ i v, P i v → ∃ t, v = .str (val i) t) (hb : n + 1 < scanBound) :
    ∀ (k i : Nat) (s : Shared), n - i = k → i ≤ n → St i s → s.heap.SetOf (strKind prog w) S (fun q => (metS val i).any (· == q)) (metS val i).length →
      (∀ s', Moved (S :: wr) G s s' → s'.heap.SetOf (strKind prog w) S (fun q => (metS val n).any (· == q)) (metS val n).length → R (.ok (.ret .none)) s') →
      codeAny (model prog w) A (.builtin "set.update.loop" ⟨[.ref S, .ref I], []⟩) R s
  | 0, i, s, hk, hi, hst, hS, hR => by
    have hin : i = n := by omega
    subst hin
    refine codeAny_builtin F.entry_set_update_loop ?_
    rw [Around.under_plainId F.plain_set_update_loop _]
    show wpAny _ A.in1 (pyNext (.ref I) >>= _) _ _ s
    refine wpAny_bind (W.done s _ _ hst fun s' hm => ?_)
    show wpAny _ A.in1 (ret Value.none) _ _ s'
    obtain ⟨o, es, ep, t, ho, rest⟩ := hS
    exact wpAny_pure (hR s' (hm.mono fun b hb => List.mem_cons_of_mem _ hb) ⟨o, es, ep, t, hm.heap S _ (fun h => hSf (W.sub _ h)) ho, rest⟩)
  | k + 1, i, s, hk, hi, hst, hS, hR => by
    have hlt : i < n := by omega
    have hsub : ∀ b ∈ wr, b ∈ S :: wr := fun b hb => List.mem_cons_of_mem _ hb
    refine codeAny_builtin F.entry_set_update_loop ?_
    rw [Around.under_plainId F.plain_set_update_loop _]
    show wpAny _ A.in1 (pyNext (.ref I) >>= _) _ _ s
    refine wpAny_bind (W.item i s _ _ hlt hst fun v s' hP hst' hm => ?_)
    obtain ⟨t, rfl⟩ := hval i v hP
    obtain ⟨o, es, ep, tb, ho, rest⟩ := hS
    have hS' : s'.heap.SetOf (strKind prog w) S (fun q => (metS val i).any (· == q)) (metS val i).length := ⟨o, es, ep, tb, hm.heap S _ (fun h => hSf (W.sub _ h)) ho, rest⟩
    show wpAny _ A.in1 (holding [Value.str (val i) t] (setAdd S (.str (val i) t)) >>= _) _ _ s'
    refine wpAny_bind (wpAny_holding ?_)
    unfold setAdd
    refine wpAny_holding (wpAny_bind ((strKind prog w).pyHash (k := val i) (strKind_is _ _ _ _) ?_))
    have hroom : (metS val i).length + 1 < scanBound := by have := metS_le val i; omega
    refine wpAny_setAddHashed_of (knd := strKind prog w) (s := { s' with toks := s'.toks + 1 }) (strKind_is _ _ _ _) rfl hS' hroom fun h' hsb hS2 => ?_
    have hSi : h'.SetOf (strKind prog w) S (fun q => (metS val (i + 1)).any (· == q)) (metS val (i + 1)).length :=
      PyProof.Rows.SetOf_congr hS2 (fun q => by rw [metS_succ, stepS_any]) (by rw [metS_succ, stepS_len])
    refine wpAny_pure ⟨plainId_quiet F.plain_set_update_loop _, setUp_str W S hSf val hval hb k (i + 1) _ (by omega) hlt (W.frame _ s' _ _ hst' (Nat.le_succ _) fun b hb o e => ?_) hSi fun s'' hm'' hS'' => ?_⟩
    · rw [hsb.2 b (fun h : b = S => hSf (by rw [← h]; exact hb))]; exact e
    · refine hR s'' (Moved.trans W.gtrans ((hm.mono hsub).then_heap (Nat.le_succ _) fun b o hb e => ?_) hm'') hS''
      rw [hsb.2 b (fun h : b = S => hb (by rw [h]; exact List.mem_cons_self))]; exact e
end
section
variable {prog : Program} {w : World} {A : Around} {E : Value → Shared → Prop} {s : Shared}
set_option maxHeartbeats 8000000 in
theorem call_setS {l : Addr} {items : Array Value} {val : Nat → Str} {Q : Value → Shared → Prop} (hh : A.handled = none) (hl : s.heap.IsList l items) (hi : ∀ (i : Nat) (v : Value), items[i]? = some v → ∃ t, v = .str (val i) t) (hb : items.size + 1 < scanBound)
    (h : ∀ (h' : Heap) (tk : Nat), h'.SetOf (strKind prog w) s.heap.objs.size (fun q => (metS val items.size).any (· == q)) (metS val items.size).length →
      (∀ b o, s.heap.get? b = some o → h'.get? b = some o) → Q (.ref s.heap.objs.size) { s with heap := h', toks := tk }) :
    wpAny (model prog w) A (call (.type "set") [.ref l]) Q E s := by
  obtain ⟨c, tl, hmro⟩ := F.called_set.mro
  have hmade := F.called_set.made
  have hsub := F.called_set.sub
  refine wpAny_call (codeAny_of_tree ?_)
  show wpAny _ _ (callAny (.type "set") _) _ _ _
  refine wpAny_pure ⟨Code.quiet_builtin _ (by decide +kernel), codeAny_builtin F.entry_type_call ?_⟩
  rw [Around.under_plain (weight_type_call_type "set" [.ref l] []) rfl]
  have h1 := F.called_set.notType
  have h2 := F.called_set.canCreate
  have hct := F.typeCall_set_1 (.ref l)
  repeat (any_goals (first | assumption | wp_step))
  refine codeAny_mono (code_set_new_1 (.ref l) (E := E) (Q₁ := fun obj s₁ => ∃ led : Bool, obj = .ref s.heap.objs.size ∧ s₁ = { s with heap := s.heap.push { cls := .type "set", dict := none, data := .set #[] 0 (.fresh 0 0 led) } }) fun led => ⟨led, rfl, rfl⟩) fun r s₁ hr => ?_
  match r, hr with
  | .error e, hr => exact hr
  | .ok .next, hr => exact hr.elim
  | .ok .brk, hr => exact hr.elim
  | .ok .cont, hr => exact hr.elim
  | .ok (.ret obj), hr =>
    obtain ⟨led, rfl, rfl⟩ := hr
    have hS : (s.heap.push { cls := .type "set", dict := none, data := .set #[] 0 (.fresh 0 0 led) }).get? s.heap.objs.size = some { cls := .type "set", dict := none, data := .set #[] 0 (.fresh 0 0 led) } := Heap.get?_push_size _ rfl
    have hT : Shared.TypeIs { s with heap := s.heap.push { cls := .type "set", dict := none, data := .set #[] 0 (.fresh 0 0 led) } } (.ref s.heap.objs.size) "set" := ⟨_, hS, rfl⟩
    have hli := F.called_set.init.lookup
    have hbi := F.called_set.init.bind (.ref s.heap.objs.size)
    repeat (any_goals (first | assumption | wp_step))
    refine codeAny_mono (codeAny_call_builtin (R := wants (fun r s₂ => r = .none ∧ ∃ h' tk, s₂ = { s with heap := h', toks := tk } ∧
        h'.SetOf (strKind prog w) s.heap.objs.size (fun q => (metS val items.size).any (· == q)) (metS val items.size).length ∧ (∀ b o, s.heap.get? b = some o → h'.get? b = some o)) E) F.called_set.init.plain F.entry_set_init (check_set_init_1 hT ?_)) fun r₂ s₂ hr₂ => ?_
    · obtain ⟨ol, hol, hcl, nl, hdl⟩ := hl
      obtain ⟨ocls, odict, odata, oslots⟩ := ol
      simp only at hcl hdl
      subst hcl; subst hdl
      have hol' : (s.heap.push { cls := .type "set", dict := none, data := .set #[] 0 (.fresh 0 0 led) }).get? l = some { cls := .type "list", dict := odict, data := .seq items nl, slots := oslots } := Heap.get?_push_of_some _ hol
      have hsls := F.sub_list_set
      have hslf := F.sub_list_frozenset
      have hne : (Value.type "list" == Value.type "dict") = false := by decide
      have hl1 : (s.heap.push { cls := .type "set", dict := none, data := .set #[] 0 (.fresh 0 0 led) }).IsList l items := ⟨_, hol', rfl, nl, rfl⟩
      unfold Builtin.«set.__init__» noKeywords Builtin.Frozenset.updateFrom
      generalize hPI : pyIter = PI
      wp_walk
      subst hPI
      refine wpAny_pyIter_list hl1 (wpAny_bind (wpAny_runValue ?_))
      have hlS : l < s.heap.objs.size := Heap.lt_size hol
      have hh3 : A.in1.in1.in1.handled = none := by simp [hh]
      have hneI : l ≠ (s.heap.push { cls := .type "set", dict := none, data := .set #[] 0 (.fresh 0 0 led) }).objs.size := by
        rw [Heap.size_push]; exact Nat.ne_of_lt (Nat.lt_succ_of_lt hlS)
      have hSf : s.heap.objs.size ∉ [(s.heap.push { cls := .type "set", dict := none, data := .set #[] 0 (.fresh 0 0 led) }).objs.size, l] := by
        rw [Heap.size_push]; simp only [List.mem_cons, List.mem_singleton, List.not_mem_nil, or_false, not_or]
        exact ⟨Nat.ne_of_lt (Nat.lt_succ_self _), Nat.ne_of_gt hlS⟩
      refine setUp_str ((Walks.list hh3 _ l hneI items).toS) s.heap.objs.size hSf val (fun i v hv => hi i v hv) hb (items.size - 0) 0 _ (by omega) (Nat.zero_le _)
        ⟨⟨_, Heap.get?_push_size _ rfl, rfl, rfl⟩, (hl1.push _)⟩ ?hS0 ?hR
      case hS0 =>
        have hget : ((s.heap.push { cls := .type "set", dict := none, data := .set #[] 0 (.fresh 0 0 led) }).push { cls := .type "list_iterator", data := .fields #[.ref l, .int 0 0] }).get? s.heap.objs.size
            = some { cls := .type "set", dict := none, data := .set #[] 0 (.fresh 0 0 led) } := Heap.get?_push_of_some _ hS
        exact PyProof.Rows.SetOf_congr ((PyProof.Rows.setObjOf_fresh (knd := strKind prog w) led).setOf hget (by unfold scanBound; omega)) (fun _ => rfl) rfl
      case hR =>
        intro s' hm hS'
        obtain ⟨h', g', d', tk', os'⟩ := s'
        have eg : g' = s.gens := hm.gens
        have ed : d' = s.drawn := hm.drawn
        have eo : os' = s.os := hm.os
        subst eg; subst ed; subst eo
        show wpAny _ _ _ _ _ _
        refine wpAny_pure ?_
        show wpAny _ _ (ret Value.none) _ _ _
        refine wpAny_pure ⟨rfl, h', tk', rfl, hS', fun b o e => ?_⟩
        have hb : b < s.heap.objs.size := Heap.lt_size e
        have hb2 : b ≠ (s.heap.push { cls := .type "set", dict := none, data := .set #[] 0 (.fresh 0 0 led) }).objs.size := by
          rw [Heap.size_push]; exact Nat.ne_of_lt (Nat.lt_succ_of_lt hb)
        exact hm.heap b o (by simp only [List.mem_cons, List.mem_singleton, List.not_mem_nil, or_false, not_or]; exact ⟨Nat.ne_of_lt hb, hb2⟩) (Heap.get?_push_of_some _ (Heap.get?_push_of_some _ e))
    · match r₂, hr₂ with
      | .error e, hr₂ => exact hr₂
      | .ok .next, hr₂ => exact hr₂.elim
      | .ok .brk, hr₂ => exact hr₂.elim
      | .ok .cont, hr₂ => exact hr₂.elim
      | .ok (.ret r), hr₂ =>
        obtain ⟨rfl, h', tk, rfl, hS', hk'⟩ := hr₂
        repeat (any_goals (first | assumption | wp_step))
        exact h _ _ hS' hk'
end
/-! ### len(set(e)) -/
def rLenSet (K : PySem.W.Frag) : V → Hp → VK → Prop := fun x H Q => ∃ p, ∃ ys : List Str, x = .ref p ∧ SqL K H p (ys.map V.str) ∧ ys.length + 1 < scanBound ∧ Q (.int ((ys.foldl stepS []).length : Nat)) H
theorem strs_at {ys : List Str} {us : List Value} (r : Vals (ys.map V.str) us) : ∀ (i : Nat) (v : Value), us[i]? = some v → ∃ t, v = .str (ys.getD i ⟨#[]⟩) t := by
  induction ys generalizing us with
  | nil => cases r; intro i v h; simp at h
  | cons y ys ih =>
    rw [List.map_cons] at r
    cases r with
    | cons h t =>
      intro i v e
      cases i with
      | zero =>
        simp only [List.getElem?_cons_zero, Option.some.injEq] at e
        subst e
        exact h
      | succ i =>
        simp only [List.getElem?_cons_succ] at e
        exact ih t i v e
theorem metS_all (ys : List Str) : metS (fun i => ys.getD i ⟨#[]⟩) ys.length = ys.foldl stepS [] := by
  unfold metS
  congr 1
  apply List.ext_getElem?
  intro i
  by_cases h : i < ys.length
  · simp [h]
  · simp [Nat.not_lt.mp h]
def pLenSet : List D → Option D
  | [.nd (.lst _) ds] => (strsD ds).bind fun ys => if ys.length + 1 < 4096 then some (.int ((ys.foldl stepS []).length : Nat)) else none
  | _ => none
theorem ok_lenSet {K : PySem.W.Frag} {cm : Cm} : OkPr K cm (r1L (rLenSet K)) pLenSet := fun H Z ds vs Fs d dm rl nd nf h Q q => by
  unfold pLenSet at h
  split at h
  · rename_i fl es
    cases e : strsD es with
    | none => rw [e] at h; cases h
    | some ys =>
      rw [e, Option.bind_some] at h
      split at h
      · rename_i hz
        cases h
        obtain ⟨v, F, rfl, rfl, a, us, Es, rfl, c, l, rfl⟩ := repL1 rl
        have := strsD_eq e
        subst this
        have := repL_strS l
        subst this
        exact ⟨_, rfl, a, ys, rfl, rdL c.2.1, (by unfold scanBound; exact hz), q _ H Z [] (.atom (.refl dm) rep_int)⟩
      · cases h
  · cases h
section
variable {X : Cx} {cm : Cm} {W : WX} {p p2 pos pos2 : Pos} {e : Expr} {f : En → Ot D} {te : TE}
theorem pe_lenSet (hc : X.calm = true) (hg : Gl X "len") (hm : X.mg "len" = none) (hg2 : Gl X "set") (hm2 : X.mg "set" = none) (he : PE X e te)
    (h1 : starEach [.Call (.Name "set" p2) [e] [] pos2] X.env = (false, eval (.Call (.Name "set" p2) [e] [] pos2) X.env) :: starEach [] X.env := by rfl) (h2 : starEach [e] X.env = (false, eval e X.env) :: starEach [] X.env := by rfl) :
    PE X (.Call (.Name "len" p) [.Call (.Name "set" p2) [e] [] pos2] [] pos) (fun σ H Q => te σ H fun x H1 => rLenSet X.K x H1 Q) := by
  refine ⟨fun pins s σ H Q I h => ?_⟩
  refine wpAny_Call_Name_kw (ld_blt I hg hm rfl ?_ (by decide) (by decide))
  refine PyProof.Rows.callWith_builtin1 ?_ h1 rfl
  rw [h1]
  refine Calls.spliced_cons (wpAny_Call_Name_kw (ld_blt I hg2 hm2 rfl ?_ (by decide) (by decide)))
  refine PyProof.Rows.callWith_type1 ?_ h2 rfl
  rw [h2]
  refine Calls.spliced_cons (thn (he.run pins s σ H _ I h) fun u s1 ⟨x, H1, I1, r1, a, ys, ex, hq, hz, q⟩ => Calls.spliced_nil ?_)
  subst ex
  obtain rfl : u = Value.ref a := r1
  obtain ⟨its, rv, pl, hsz⟩ := I1.list hq
  have hlen := rv.length
  have hn : its.length = ys.length := by rw [← hlen, List.length_map]
  refine call_setS (items := its.toArray) (val := fun i => ys.getD i ⟨#[]⟩) (I1.ok.hd hc) pl.isList (fun i v hv => strs_at rv i v (by simpa using hv)) (by simp only [List.size_toArray]; omega) fun h' tk hS hk => ?_
  refine Calls.spliced_nil ?_
  obtain ⟨o, es, ep, t, ho, hex, hd, hel, hmem, hb, hf, hn2⟩ := hS
  have I2 := I1.kept (h' := h') (t' := tk) hk
  have hfit : (es.size : Int) < 2 ^ 63 := by
    have h4 : es.size < scanBound := by omega
    unfold scanBound at h4
    omega
  refine call_len_set (o := o) (s := { s1 with heap := h', toks := tk }) ho hex hd hf hfit ?_
  have ev : ((es.size : Nat) : Int) = (((ys.foldl stepS []).length : Nat) : Int) := by
    rw [hn2, List.size_toArray, hn, metS_all]
  rw [ev]
  exact ⟨.int _, H1, (I2.tok _), ⟨_, rfl⟩, q⟩
theorem s_lenSet (hc : X.calm = true) (hg : Gl X "len") (hm : X.mg "len" = none) (hg2 : Gl X "set") (hm2 : X.mg "set" = none) (he : SE X cm W e f)
    (h1 : starEach [.Call (.Name "set" p2) [e] [] pos2] X.env = (false, eval (.Call (.Name "set" p2) [e] [] pos2) X.env) :: starEach [] X.env := by rfl) (h2 : starEach [e] X.env = (false, eval e X.env) :: starEach [] X.env := by rfl) :
    SE X cm W (.Call (.Name "len" p) [.Call (.Name "set" p2) [e] [] pos2] [] pos) (ePr pLenSet [f]) := PE.imp (pe_lenSet hc hg hm hg2 hm2 he h1 h2) fun σ H Q h => one_of (pr_end ok_lenSet h)
end
end OB

namespace OB
open PySem PySem.Spec PyProof.Rows L2
/-! ### {k: e, ..} -/
def eDisp (ks : List Key) (fs : List (En → Ot D)) : En → Ot D := fun ρ => (eL fs ρ).bind fun ds => if ks.length ≤ 15 ∧ ks.Nodup ∧ ks.length = fs.length then .ok (.nd (.dct .own ks) ds) else .no
def trsD (K : PySem.W.Frag) (cm : Cm) (W : WX) : List Key → List (En → Ot D) → List (TE × TE)
  | k :: ks, f :: fs => (tC (kV k), tP K cm W f) :: trsD K cm W ks fs
  | _, _ => []
theorem pairs_go {K : PySem.W.Frag} {cm : Cm} {W : WX} {σ : L2.St} {ρ : En} {Fs : List (List Addr)} : ∀ {ks : List Key} {fs : List (En → Ot D)} {H : Hp} {Z : Zn} {R : List (V × V) → Hp → Prop}, ks.length = fs.length → OkP K cm H σ ρ Fs Z → eL fs ρ ≠ .no →
    (∀ x, eL fs ρ = .ex x → ∀ cls dd H' Z', Ext H Z H' Z' → XRep K cm H' Z' x cls dd → W cls dd σ H') →
    (∀ ds, eL fs ρ = .ok ds → ∀ vs H' Z' Gs, ResL K cm H Z H' Z' [] ds vs Gs → R ((ks.zip vs).map fun kv => (kV kv.1, kv.2)) H') → tPairs (trsD K cm W ks fs) σ H R
  | [], [], H, Z, R, _, ok, _, _, hk => hk [] rfl [] H Z [] (.nil ok.dom)
  | [], _ :: _, _, _, _, l, _, _, _, _ => by simp at l
  | _ :: _, [], _, _, _, l, _, _, _, _ => by simp at l
  | k :: ks, f :: fs, H, Z, R, l, ok, hn, hx, hk => by
    show tP K cm W f σ H _
    unfold eL at hn hx hk
    refine tP_bind ok (fun e => hn (by rw [e]; rfl)) (fun d e v H1 Z1 F r => ?_) (fun x e cls dd H' Z' ex xr => hx x (by rw [e]; rfl) cls dd H' Z' ex xr)
    rw [e] at hn hx hk
    simp only [Ot.bind_ok] at hn hx hk
    refine pairs_go (by simpa using l) (ok.ext r.ext) (fun q => hn (by rw [q]; rfl)) (fun x q cls dd H' Z' ex xr => hx x (by rw [q]; rfl) cls dd H' Z' (r.ext.trans ex) xr) fun ds q vs H' Z' Gs rs => ?_
    exact hk (d :: ds) (by rw [q]; rfl) (v :: vs) H' Z' (F :: Gs) (.cons r rs)
theorem disp_end {K : PySem.W.Frag} {cm : Cm} {W : WX} {ks : List Key} {fs : List (En → Ot D)} {σ : L2.St} {H : Hp} {Q : VK} (q0 : tP K cm W (eDisp ks fs) σ H Q) : ks.length = fs.length → tDisp (trsD K cm W ks fs) σ H Q := by
  intro hl p hp
  obtain ⟨Z, ρ, Fs, ok, q0⟩ := q0
  unfold eDisp at q0
  have g0 : Grow H (L2.upd H p (.dK [])) := .new hp
  have ex0 : Ext H Z (L2.upd H p (.dK [])) Z := .grow ok.dom g0
  refine pairs_go hl (ok.ext ex0) (fun e => by rw [e] at q0; exact q0) (fun x e cls dd H' Z' ex xr => by rw [e] at q0; exact q0 cls dd H' Z' (ex0.trans ex) xr) fun ds e vs H' Z' Gs r => ?_
  rw [e, Ot.bind_ok] at q0
  split at q0
  rotate_left
  · exact q0.elim
  rename_i hc
  obtain ⟨h15, hnd, _⟩ := hc
  have hlv : ks.length = vs.length := by rw [r.rep.len.1, eL_len e]; exact hl
  have e2 : H' p = some (.dK []) := r.ext.gr _ _ upd_same
  refine ⟨e2, ks.zip vs, rfl, by rw [List.length_zip]; omega, ?_⟩
  rw [mergeK_nil hnd hlv]
  have mu : Mut (H' p) := by rw [e2]; trivial
  have nf : ¬ Z'.f p := fun h => (r.ext.fn p h).elim (fun q => ok.dom.f p q hp) fun q => by rw [upd_same] at q; cases q
  have nb : ¬ Z'.b p := fun h => by rw [r.ext.b] at h; exact ok.dom.b p h hp
  have nt : ¬ Z'.t p := fun h => by rw [r.ext.t] at h; exact ok.dom.t p h hp
  have nG : p ∉ Gs.flatten := fun h => by have := r.new p h; rw [upd_same] at this; cases this
  have back : ∀ a, (L2.upd H p (.dK [])) a = none → H a = none := fun a h => g0.back h
  have eo : ownA (.dct .own ks) p = [p] := by simp [ownA, Kd.isOwn, Kd.fl]
  refine q0 (.ref p) _ Z' (ownA (.dct .own ks) p ++ Gs.flatten) ⟨⟨fun a o h => ?_, r.ext.f, fun a h => (r.ext.fn a h).imp id (back a), fun a h => ?_, r.ext.b, r.ext.t⟩, ⟨p, vs, Gs, rfl, ⟨fun _ => upd_same, .inl upd_same, hlv, trivial⟩, r.rep.upd mu nG nf nb nt, rfl⟩, ?_, fun a h => ?_, fun a h => ?_⟩
  · have ne : a ≠ p := fun q => by subst q; rw [hp] at h; cases h
    rw [upd_ne ne]
    exact r.ext.gr a o (g0 a o h)
  · have ne : a ≠ p := fun q => by subst q; exact nf h
    rw [upd_ne ne]
    exact r.ext.fd a h
  · rw [eo]
    exact List.nodup_append.mpr ⟨by simp, r.nd, fun a ha b hb e => by
      have : a = p := by simpa using ha
      subst this; subst e
      exact nG hb⟩
  · rw [eo] at h
    rcases List.mem_append.mp h with h | h
    · have : a = p := by simpa using h
      subst this
      exact .inl hp
    · exact .inl (back a (r.new a h))
  · rw [eo] at h
    rcases List.mem_append.mp h with h | h
    · have : a = p := by simpa using h
      subst this
      exact nf
    · exact r.nf a h
section
variable {X : Cx} {cm : Cm} {W : WX} {pos : Pos} {keys : List (Option Expr)} {values : List Expr} {ks : List Key} {fs : List (En → Ot D)}
theorem pps_ok (hk : ks = []) (hf : fs = []) : PPs X pos [] [] (trsD X.K cm W ks fs) := by subst hk; subst hf; exact pps_nil
theorem pps_str {s : Str} {j : Nat} {p : Pos} {e : Expr} {f : En → Ot D} (he : SE X cm W e f) (hr : PPs X pos keys values (trsD X.K cm W ks fs)) : PPs X pos (some (.Constant (.str s) j p) :: keys) (e :: values) (trsD X.K cm W (.inr s :: ks) (f :: fs)) := pps_cons pe_str he hr
theorem pps_int {i : Int} {j : Nat} {p : Pos} {e : Expr} {f : En → Ot D} (he : SE X cm W e f) (hr : PPs X pos keys values (trsD X.K cm W ks fs)) : PPs X pos (some (.Constant (.int i) j p) :: keys) (e :: values) (trsD X.K cm W (.inl i :: ks) (f :: fs)) := pps_cons pe_int he hr
theorem s_disp (h : PPs X pos keys values (trsD X.K cm W ks fs)) (hl2 : ks.length = fs.length) (hall : keys.all (·.isSome) = true) (hl : keys.length = values.length) (h0 : keys ≠ []) (h15 : keys.length ≤ 15) : SE X cm W (.Dict keys values pos) (eDisp ks fs) :=
  PE.imp (pe_disp h hall hl h0 h15) fun σ H Q q => disp_end q hl2
end

/-! ### a place is frozen -/
def fzP (i : Nat) (π : Pi') (ρ : En) : En := match subD ρ i π with
  | some (d, js, d0) => ρ.set i (some (putP d js (toFrz d0)))
  | none => ρ
def sFzP (i : Nat) (π : Pi') (g : Mst) : Mst := fun ρ => g (fzP i π ρ)
theorem Ok.fzP {K : PySem.W.Frag} {cm : Cm} {H : Hp} {σ : L2.St} {ρ : En} {Fs : List (List Addr)} {Z : Zn} {P : List Nat} (ok : Ok K cm H σ ρ Fs Z) (i : Nat) (π : Pi') : ∃ Fs' Z', Ok K cm H σ (fzP i π ρ) Fs' Z' ∧ SStep P σ H Z Fs σ H Z' Fs' := by
  unfold OB.fzP
  split
  · rename_i d js d0 hp
    obtain ⟨h1, h2, h3⟩ := subD_eq hp
    obtain ⟨v, F, e1, e2, r⟩ := ok.rep.get i d h1
    obtain ⟨v0, F0, A, B, fo⟩ := r.foc h3
    have eF := fo.eF
    have hF : ∀ a ∈ F, a ∈ Fs.flatten := fun a h => flat_mem e2 h
    have hF0 : ∀ a ∈ F0, a ∈ Fs.flatten := fun a h => hF a (by rw [eF]; simp [h])
    have ndF := ok.nd.sublist (flatten_get e2)
    rw [eF] at ndF
    have n1 := List.nodup_append.mp ndF
    have n2 := List.nodup_append.mp n1.1
    let Z' : Zn := ⟨fun a => Z.f a ∨ a ∈ F0, Z.b, fun _ => False⟩
    have mv : CellMove K cm H H Z Z' id (fun a => ¬ a ∈ F0) := fun a k vs c _ => by
      have := cell_grow (K := K) (cm := cm) (Grow.refl H) (Z' := Z') (fun _ h => .inl h) (fun _ h => h) (fun a h => (ok.t a h).elim) a k vs c (fun _ => trivial)
      exact this
    have rz : Rep K cm H Z' (toFrz d0) v0 [] := Rep.give (g := Fl.toFrz) (O := fun a => a ∈ F0) (cell_flag (fun a ha f ef _ => by subst ef; exact .inr ha) (fun a f hf hz => by cases f with
              | own => exact absurd rfl hf
              | frz => exact .inl hz
              | bor => exact hz
              | tmp => exact (ok.t a hz).elim) (fun f e => by cases f <;> first | rfl | cases e)) (fun f e => by cases f <;> cases e) d0 fo.rep fun a h => h
    have rr := fo.put (fun a => a ∈ F0) H Z' (toFrz d0) [] (fun x hx q => n2.2.2 x hx x q rfl) (fun x hx q => n1.2.2 x (List.mem_append_right _ q) x hx rfl) mv rz
    obtain ⟨nd2, sub2⟩ := setsF_ok2 (cs := [⟨i, A, F0, B, [], .non⟩]) (F := F0) (X := []) ok.nd (by simp) (fun c hc => by
      have : c = ⟨i, A, F0, B, [], .non⟩ := by simpa using hc
      subst this
      exact e2.trans (by rw [eF])) (by simp) (by simpa using n2.2.1) (fun x hx => .inl (by simpa using hx))
    have nd2 : ((Fs.set i (A ++ [] ++ B)).flatten ++ F0).Nodup := nd2
    have sub : ∀ x ∈ (Fs.set i (A ++ [] ++ B)).flatten, x ∈ Fs.flatten := fun x hx => (sub2 x hx).elim id fun q => nomatch q
    refine ⟨Fs.set i (A ++ [] ++ B), Z', ⟨⟨by simpa using ok.rep.lσ, by simpa using ok.rep.lF, fun j dj q => ?_⟩, ⟨fun a h => h.elim (ok.dom.f a) fun h => mut_ne (ok.mu a (hF0 a h)), ok.dom.b, fun _ h => h.elim⟩, fun a h => ok.mu a (sub a h), (List.nodup_append.mp nd2).1, fun a h => ⟨fun z => z.elim (ok.nz a (sub a h)).1 fun z => (List.nodup_append.mp nd2).2.2 a h a z rfl, (ok.nz a (sub a h)).2⟩, fun _ h => h⟩,
      ⟨.refl, fun a h => .inl (sub a h), fun a h => .inl h, fun a h => h.elim .inl fun h => .inr (.inl (hF0 a h)), rfl, fun _ _ => rfl⟩⟩
    by_cases hj : i = j
    · subst hj
      rw [List.getElem?_set] at q
      split at q
      · split at q
        · cases q
          exact ⟨v, _, e1, by rw [List.getElem?_set_self (List.getElem?_eq_some_iff.mp e2).1], rr⟩
        · cases q
      · rename_i n; exact absurd rfl n
    · rw [List.getElem?_set_ne hj] at q
      obtain ⟨v2, F2, a, b, c⟩ := ok.rep.get j dj q
      exact ⟨v2, F2, a, by rw [List.getElem?_set_ne hj]; exact b, c.grow (.refl _) (fun _ h => .inl h) (fun _ h => h) fun a h => (ok.t a h).elim⟩
  · exact ⟨Fs, Z, ok, .refl⟩
theorem ss_fzP {X : Cx} {cm : Cm} {W : WX} {P : List Nat} {st : Stmt} {g : Mst} (i : Nat) (π : Pi') (h : SS X cm W P st g) : SS X cm W P st (sFzP i π g) := PS.imp h fun D0 σ H q => by
  obtain ⟨Z, ρ, Fs, ok, q⟩ := q
  obtain ⟨Fs', Z', ok', s⟩ := ok.fzP (P := P) i π
  exact ⟨Z', _, Fs', ok', q.step s⟩
end OB

namespace OB
open PySem PySem.Spec PyProof.Rows L2
def pList3 : List D → Option D
  | [.nd (.dct f ks) es] => pListD [.nd (.dct f ks) es]
  | ds => pList ds
theorem OkPr.alt {K : PySem.W.Frag} {cm : Cm} {r r' : List V → Hp → VK → Prop} {p p' q : List D → Option D} (h : OkPr K cm r p) (h' : OkPr K cm r' p') (hq : ∀ ds, q ds = p ds ∨ q ds = p' ds) : OkPr K cm (fun vs H Q => r vs H Q ∨ r' vs H Q) q := fun H Z ds vs Fs d dm rl nd nf e Q k => by
  rcases hq ds with z | z
  · exact .inl (h H Z ds vs Fs d dm rl nd nf (z.symm.trans e) Q k)
  · exact .inr (h' H Z ds vs Fs d dm rl nd nf (z.symm.trans e) Q k)
theorem pList3_alt (ds : List D) : pList3 ds = pListD ds ∨ pList3 ds = pList ds := by
  unfold pList3
  split
  · exact .inl rfl
  · exact .inr rfl
/-! ### facts -/
def insB (c : Str) (K : PySem.W.Frag) : Bool := decide (PySem.W.findIn K (.ref (He.ga K c)) "__class__" = some (some (.builtin "object.__class__"))) && (decide (PySem.W.specialIn K (.builtin "object.__class__") "__get__" = some (some (.builtin "getset_descriptor.__get__"))) &&
  (decide (PySem.W.takesIn K (.builtin "object.__class__") = some true) && decide (PySem.W.mroIn K (He.ga K c) (.type "object") = some true)))
theorem insB_ok {c : Str} {K : PySem.W.Frag} (h : insB c K = true) (cl : Cls K (He.ga K c)) : InsK K (He.ga K c) := by
  unfold insB at h
  rw [Bool.and_eq_true, Bool.and_eq_true, Bool.and_eq_true] at h
  exact ⟨cl, of_decide_eq_true h.1, of_decide_eq_true h.2.1, of_decide_eq_true h.2.2.1, of_decide_eq_true h.2.2.2⟩
def kitB (t : String) (c : Str) (b : Bool) (K : PySem.W.Frag) : Bool := decide (PySem.W.kitOne K (.type t) (.ref (He.ga K c)) = some b)
def kitC (d c : Str) (b : Bool) (K : PySem.W.Frag) : Bool := decide (PySem.W.kitOne K (.ref (He.ga K d)) (.ref (He.ga K c)) = some b)
def obsY (n : Nat) (xs : List (PySem.W.Frag → Bool)) (fa : List He.Fa) (fn : List He.DefD) (g : Addr → Option Obj) : He.AlD :=
  ((obsZ n fa fn g).1 && xs.all (fun x => x (frZ g (He5.asA g n))), (obsZ n fa fn g).2)
structure SaysY (xs : List (PySem.W.Frag → Bool)) (fa : List He.Fa) (fn : List He.DefD) (K : PySem.W.Frag) : Prop where
  z : SaysZ fa fn K
  x : xs.all (fun x => x K) = true
theorem SaysY.at_ {xs : List (PySem.W.Frag → Bool)} {fa : List He.Fa} {fn : List He.DefD} {K : PySem.W.Frag} (c : SaysY xs fa fn K) (i : Nat) {f : PySem.W.Frag → Bool} (h : xs[i]? = some f := by rfl) : f K = true := List.all_eq_true.mp c.x f (List.mem_of_getElem? h)
def hookY (n : Nat) (xs : List (PySem.W.Frag → Bool)) (fa : List He.Fa) (fn : List He.DefD) : PySem.W.Hook where
  α := He.AlD
  obs := fun s => obsY n xs fa fn s.heap.get?
  val := fun _ => He.valD fn
  says := fun _ h => ∃ K : PySem.W.Frag, K.In h ∧ SaysY xs fa fn K
  of := fun _ s e => by
    have e : obsY n xs fa fn s.heap.get? = He.valD fn := e
    unfold obsY obsZ at e
    obtain ⟨e1, e2⟩ := Prod.ext_iff.mp e
    have e1 : (((He.obsD fa fn (frZ s.heap.get? (He5.asA s.heap.get? n))).1 && He.eqO (PySem.W.nsIn (frZ s.heap.get? (He5.asA s.heap.get? n)) cStatics "sys.int_max_str_digits") (some none)) && xs.all (fun x => x (frZ s.heap.get? (He5.asA s.heap.get? n)))) = true := e1
    rw [Bool.and_eq_true, Bool.and_eq_true] at e1
    exact ⟨_, fun a o h => (frZ_at h).1, ⟨Prod.ext e1.1.1 e2, He.eqO_ok e1.1.2, fun a o h => (frZ_at h).2⟩, e1.2⟩
  keeps := fun _ _ _ ⟨K, hK, c⟩ k => ⟨K, PySem.W.Frag.In.keeps hK k, c⟩
theorem obsY_eq {n : Nat} {xs : List (PySem.W.Frag → Bool)} {fa : List He.Fa} {fn : List He.DefD} {g : Addr → Option Obj} {s : Shared} (h : ∀ a, g a = s.heap.get? a) : obsY n xs fa fn g = (hookY n xs fa fn).obs s := by
  have e : g = s.heap.get? := funext h
  rw [e]; rfl
/-- the one class -/
def obC (c : Str) : Str → Option Bool := fun d => if d = c then some true else none
theorem obC_ok {K : PySem.W.Frag} {cm : Cm} {c : Str} (h : InsK K (cm c)) : ∀ d b, obC c d = some b → PySem.W.kitOne K (.ref (cm d)) (.ref (cm c)) = some b ∧ InsK K (cm d) := fun d b e => by
  unfold obC at e
  split at e
  · rename_i q
    subst q
    cases e
    exact ⟨by unfold PySem.W.kitOne; simp, h⟩
  · cases e
/-! ### isinstance(x, C), C a class of the text -/
section
variable {X : Cx} {cm : Cm} {W : WX} {a : Expr} {f : En → Ot D} {pos p pc : Pos} {c : Str}
theorem s_isiC {nb : String → Option Bool} {ob : Str → Option Bool} (hn : ∀ n b, nb n = some b → PySem.W.kitOne X.K (.type n) (.ref (cm c)) = some b) (ho : ∀ d b, ob d = some b → PySem.W.kitOne X.K (.ref (cm d)) (.ref (cm c)) = some b ∧ InsK X.K (cm d))
    (hg : Gl X "isinstance") (hm : X.mg "isinstance" = none) (hgc : Gl X c) (hmc : X.mg c = some (.ref (cm c))) (ha : SE X cm W a f) (hd : (c == ("__debug__" : Str)) = false := by decide)
    (he : starEach [a, .Name c pc] X.env = (false, eval a X.env) :: starEach [.Name c pc] X.env := by rfl) (he2 : starEach [.Name c pc] X.env = (false, eval (.Name c pc) X.env) :: starEach [] X.env := by rfl) (hpl : (backTo pos (starEach [.Name c pc] X.env)).any (·.1) = false := by rfl) :
    SE X cm W (.Call (.Name "isinstance" p) [a, .Name c pc] [] pos) (eIsi nb ob f) :=
  s_isi hn ho (.own (cm c)) hg hm (by decide +kernel) ha (pe_glob hgc hmc rfl hd) he he2 hpl
end
section
variable {X : Cx} {cm : Cm} {W : WX} {e : Expr} {es : List Expr} {aks : List AK} {i : Nat} {π : Pi'} {f : En → Ot D}
theorem as_pl (h : SP2 X cm W e i π) (hs : PA X es (tAs X.K cm W aks)) (hst : starEach (e :: es) X.env = (false, eval e X.env) :: starEach es X.env := by rfl) : PA X (e :: es) (tAs X.K cm W (.pl i π :: aks)) := as_cons (a := .pl i π) h hs hst
theorem as_hd (h : SE X cm W e f) (hs : PA X es (tAs X.K cm W aks)) (hst : starEach (e :: es) X.env = (false, eval e X.env) :: starEach es X.env := by rfl) : PA X (e :: es) (tAs X.K cm W (.hd f :: aks)) := as_cons (a := .hd f) h hs hst
theorem as_nt (h : SE X cm W e f) (hs : PA X es (tAs X.K cm W aks)) (hst : starEach (e :: es) X.env = (false, eval e X.env) :: starEach es X.env := by rfl) : PA X (e :: es) (tAs X.K cm W (.nt f :: aks)) := as_cons (a := .nt f) h hs hst
end
end OB

namespace OB
open PySem PySem.Spec PyProof.Rows L2
section
variable {f g : En → Ot D} {fs : List (En → Ot D)} {ρ ρ0 : En} {x y : Xf} {t u : Xt} {p : List D → Option D} {a b : Mst} {c n : Str} {dd : List D} {m : List D → Ot D} {mm : MM} {aks : List AK} {i : Nat} {π : Pi'}
@[simp] theorem sExpr_eq : sExpr f ρ = match f ρ with
  | .no => none
  | .ok _ => some (.nx, ρ)
  | .ex x => some (.ex x, ρ) := by unfold sExpr sOn; cases f ρ <;> rfl
@[simp] theorem eMeth_eq : eMeth c n m dd f fs ρ = (f ρ).bind fun x => if objHas c n x then (eL fs ρ).bind fun ds => back (m ((x :: ds).map toArg ++ dd)) else .no := rfl
@[simp] theorem eMake_eq : eMake c mm dd fs ρ = (eL fs ρ).bind fun ds => mkBack (mm (.nd (.obj .own c []) [] :: (ds.map toArg ++ dd))) := rfl
@[simp] theorem eDisp_eq {ks : List Key} : eDisp ks fs ρ = (eL fs ρ).bind fun ds => if ks.length ≤ 15 ∧ ks.Nodup ∧ ks.length = fs.length then .ok (.nd (.dct .own ks) ds) else .no := rfl
@[simp] theorem xOn_eq {k : D → Mst} : xOn x k ρ = match x ρ with
  | none => none
  | some (.no, _) => none
  | some (.ok d, ρ1) => k d ρ1
  | some (.ex x, ρ1) => some (.ex x, ρ1) := rfl
@[simp] theorem xP_eq : xP f ρ = match f ρ with
  | .no => none
  | .ok d => if noT d then some (.ok d, ρ) else none
  | .ex x => some (.ex x, ρ) := rfl
@[simp] theorem xPT_eq {t : En → Ot Bool} : xPT t ρ = match t ρ with
  | .no => none
  | .ok b => some (.ok b, ρ)
  | .ex x => some (.ex x, ρ) := rfl
@[simp] theorem xTr_eq : xTr x ρ = xBind (x ρ) fun d ρ1 => match d with
  | .bl b => some (.ok b, ρ1)
  | _ => none := rfl
@[simp] theorem xNotT_eq : xNotT t ρ = xBind (t ρ) fun b ρ1 => some (.ok (!b), ρ1) := rfl
@[simp] theorem xAndT_eq : xAndT t u ρ = xBind (t ρ) fun b ρ1 => if b then u ρ1 else some (.ok false, ρ1) := rfl
@[simp] theorem xOrT_eq : xOrT t u ρ = xBind (t ρ) fun b ρ1 => if b then some (.ok true, ρ1) else u ρ1 := rfl
@[simp] theorem xAnd_eq : xAnd x y ρ = xBind (x ρ) fun d ρ1 => match d with
  | .bl b => if b then y ρ1 else some (.ok (.bl false), ρ1)
  | _ => none := rfl
@[simp] theorem xOr_eq : xOr x y ρ = xBind (x ρ) fun d ρ1 => match d with
  | .bl b => if b then some (.ok (.bl true), ρ1) else y ρ1
  | _ => none := rfl
@[simp] theorem xNot_eq : xNot x ρ = xBind (x ρ) fun d ρ1 => match d with
  | .bl b => some (.ok (.bl (!b)), ρ1)
  | _ => none := rfl
@[simp] theorem xL_eq : xL p x g ρ = xBind (x ρ) fun d ρ1 => match g ρ1 with
  | .no => none
  | .ex x => some (.ex x, ρ1)
  | .ok e => match p [d, e] with
    | some z => if isAt z then some (.ok z, ρ1) else none
    | none => none := rfl
@[simp] theorem sIfX_eq : sIfX t a b ρ = match t ρ with
  | none => none
  | some (.no, _) => none
  | some (.ok k, ρ1) => if k then a ρ1 else b ρ1
  | some (.ex x, ρ1) => some (.ex x, ρ1) := rfl
@[simp] theorem isAt_non : isAt .non = true := rfl
@[simp] theorem isAt_bl {b : Bool} : isAt (.bl b) = true := rfl
@[simp] theorem isAt_int {b : Int} : isAt (.int b) = true := rfl
@[simp] theorem isAt_str {b : Str} : isAt (.str b) = true := rfl
/-! ### calls -/
@[simp] theorem xCall_eq : xCall mm aks dd ρ = match evA (plS aks) ρ aks with
  | .no => none
  | .ex x => some (.ex x, ρ)
  | .ok ds => xEnd mm aks dd ρ ds := rfl
@[simp] theorem xMeth_eq : xMeth c n mm aks dd ρ = if recvOk c n ρ aks then xCall mm aks dd ρ else none := rfl
@[simp] theorem xEnd_eq {ds : List D} : xEnd mm aks dd ρ ds = match mm (ds ++ dd) with
  | none => none
  | some (r, es) => if okBack r && es.all noB && decide ((plS aks).Nodup) then (putAll ρ aks es ρ).map fun ρ' => (r, ρ') else none := rfl
@[simp] theorem recvOk_eq : recvOk c n ρ (.pl i π :: aks) = match subD ρ i π with
  | some (_, _, d) => objHas c n d
  | none => false := by
  show (match subD ρ i π with
    | some (_, _, .nd (.obj _ c' fs) _) => decide (c' = c) && !fs.contains n
    | _ => false) = _
  cases subD ρ i π with
  | none => rfl
  | some q =>
    obtain ⟨d, js, d0⟩ := q
    cases d0 with
    | nd k ds => cases k <;> rfl
    | _ => rfl
@[simp] theorem plS_nil : plS [] = [] := rfl
@[simp] theorem plS_pl : plS (.pl i π :: aks) = i :: plS aks := rfl
@[simp] theorem plS_hd : plS (.hd f :: aks) = plS aks := rfl
@[simp] theorem plS_nt : plS (.nt f :: aks) = plS aks := rfl
@[simp] theorem evA_nil {h : List Nat} : evA h ρ [] = .ok [] := rfl
@[simp] theorem evA_pl {h : List Nat} : evA h ρ (.pl i π :: aks) = match subD ρ i π with
    | some (_, _, d0) => if noB d0 then (evA h ρ aks).bind fun ds => .ok (d0 :: ds) else .no
    | none => .no := rfl
@[simp] theorem evA_hd {h : List Nat} : evA h ρ (.hd f :: aks) = (f (wipeE ρ h)).bind fun d => (evA h ρ aks).bind fun ds => .ok (toArg d :: ds) := rfl
@[simp] theorem evA_nt {h : List Nat} : evA h ρ (.nt f :: aks) = (f ρ).bind fun d => if noT d then (evA h ρ aks).bind fun ds => .ok (toArg d :: ds) else .no := rfl
@[simp] theorem putAll_nil : putAll ρ0 [] [] ρ = some ρ := rfl
@[simp] theorem putAll_pl {e : D} {es : List D} : putAll ρ0 (.pl i π :: aks) (e :: es) ρ = match subD ρ0 i π with
    | some (d, js, _) => putAll ρ0 aks es (ρ.set i (some (putP d js e)))
    | none => none := rfl
@[simp] theorem putAll_hd {es : List D} : putAll ρ0 (.hd f :: aks) es ρ = putAll ρ0 aks es ρ := by cases es <;> rfl
@[simp] theorem putAll_nt {es : List D} : putAll ρ0 (.nt f :: aks) es ρ = putAll ρ0 aks es ρ := by cases es <;> rfl
@[simp] theorem okBack_ok {d : D} : okBack (.ok d) = noB d := rfl
@[simp] theorem okBack_ex {z : XD} : okBack (.ex z) = true := rfl
@[simp] theorem mkBack_ok {d : D} : mkBack (some (.ok .non, [d])) = if noB d then .ok d else .no := rfl
@[simp] theorem wipeE_nil : wipeE ρ [] = ρ := rfl
@[simp] theorem wipeE_cons {v : Nat} {vs : List Nat} : wipeE ρ (v :: vs) = (wipeE ρ vs).set v none := rfl
/-! ### places -/
@[simp] theorem pHere_eq : pHere ρ = some [] := rfl
@[simp] theorem subD_row : subD ρ i π = match ρ[i]? with
  | some (some d) => (π ρ).bind fun js => (getP d js).map fun d0 => (d, js, d0)
  | _ => none := rfl
@[simp] theorem πIx_eq : πIx i π f ρ = match ρ[i]? with
  | some (some d) => (π ρ).bind fun js => (getP d js).bind fun d0 => match f ρ with
    | .ok key => (stepP d0 key).map fun j => js ++ [j]
    | _ => none
  | _ => none := rfl
@[simp] theorem πFld_eq {cs : List Str} : πFld i π cs n ρ = match ρ[i]? with
  | some (some d) => (π ρ).bind fun js => (getP d js).bind fun d0 => (fldP cs d0 n).map fun j => js ++ [j]
  | _ => none := rfl
@[simp] theorem getP_nil {d : D} : getP d [] = some d := by cases d <;> rfl
@[simp] theorem putP_nil {d e : D} : putP d [] e = e := by cases d <;> rfl
@[simp] theorem sPut2_eq : sPut2 i π f g ρ = match subD ρ i π with
  | some (d, js, .nd k es) => if k.isOwn then sOnL (eL [f, g]) (fun ds ρ => match ds with
    | [x, y] => if noT x && isAt y then (match putD2 k es y x with
      | some (k', es') => some (.nx, ρ.set i (some (putP d js (.nd k' es'))))
      | none => none) else none
    | _ => none) ρ else none
  | _ => none := rfl
@[simp] theorem sOnL_eq {h : En → Ot (List D)} {k : List D → Mst} : sOnL h k ρ = match h ρ with
  | .no => none
  | .ok ds => k ds ρ
  | .ex x => some (.ex x, ρ) := rfl
@[simp] theorem xBm_eq {op : List D → List D → Option (D × List D)} {h : En → Ot (List D)} : xBm i π op h ρ = match subD ρ i π with
  | some (d, js, .nd (.lst .own) es) => (match h ρ with
    | .no => none
    | .ex x => some (.ex x, ρ)
    | .ok ds => if ds.all noT then (match op es ds with
      | some (dv, es') => some (.ok dv, ρ.set i (some (putP d js (.nd (.lst .own) es'))))
      | none => none) else none)
  | _ => none := rfl
@[simp] theorem oApp_eq {es : List D} {d : D} (h : es.length < 16777216) : oApp es [d] = some (.non, es ++ [d]) := if_pos h
@[simp] theorem sFldS_eq {cs : List Str} : sFldS i π cs n f ρ = match f ρ with
  | .no => none
  | .ok d => fldK i π cs n d ρ
  | .ex x => some (.ex x, ρ) := by unfold sFldS sOn; cases f ρ <;> rfl
@[simp] theorem fldK_eq {cs : List Str} {z : D} : fldK i π cs n z ρ = match subD ρ i π with
  | some (d, js, .nd (.obj .own c fs) es) => if noT z && decide (c ∈ cs) && decide (fs.length < 1000) then some (.nx, ρ.set i (some (putP d js (.nd (.obj .own c (putFD fs es n z).1) (putFD fs es n z).2)))) else none
  | _ => none := rfl
@[simp] theorem bodyMM_eq {k : Nat} {mt : List Nat} {ds : List D} : bodyMM k mt a ds = match a (initE k ds) with
  | some (.nx, ρ) => (grab mt ρ).map fun es => (.ok .non, es)
  | some (.ret d, ρ) => (grab mt ρ).map fun es => (.ok d, es)
  | some (.ex x, ρ) => (grab mt ρ).map fun es => (.ex x, es)
  | _ => none := rfl
@[simp] theorem grab_nil : grab [] ρ = some [] := rfl
@[simp] theorem grab_cons {is : List Nat} : grab (i :: is) ρ = match ρ[i]? with
  | some (some d) => (grab is ρ).map (d :: ·)
  | _ => none := rfl
@[simp] theorem sFz_eq : sFz i a ρ = a (fzE i ρ) := rfl
@[simp] theorem fzE_eq : fzE i ρ = match ρ[i]? with
  | some (some d) => ρ.set i (some (toFrz d))
  | _ => ρ := rfl
@[simp] theorem sFzP_eq : sFzP i π a ρ = a (fzP i π ρ) := rfl
@[simp] theorem fzP_eq : fzP i π ρ = match subD ρ i π with
  | some (d, js, d0) => ρ.set i (some (putP d js (toFrz d0)))
  | none => ρ := rfl
end
end OB

namespace OB
open PySem PySem.Spec PyProof.Rows L2
/-! ### facts -/
def oexB (c : Str) (K : PySem.W.Frag) : Bool := match K.lookup (He.ga K c) with
  | some ⟨.type "type", _, .cls cd, sl⟩ => (match cd.mro, sl.toList with
    | .ref B :: bm, [_, _, _, _, some (.builtin n), _] => decide (B = He.ga K c) && (decide (n = "ValueError.__new__") && (!cd.hasDel && (cd.hasDict && PySem.HandSPX.refsVE bm)))
    | _, _ => false)
  | _ => false
def oexF (c : Str) (K : PySem.W.Frag) : Bool := oexB c K && (decide (PySem.W.findIn K (.ref (He.ga K c)) "__setattr__" = some (some (.builtin "object.__setattr__"))) && (decide (PySem.W.subIn K (.ref (He.ga K c)) (.type "BaseException") = some true) &&
  (decide (PySem.W.typeIn K (.ref (He.ga K c)) = some (.type "type")) && PySem.W.keepIn K (.ref (He.ga K c)))))
theorem oexF_ok {c : Str} {K : PySem.W.Frag} (h : oexF c K = true) : OexC K (He.ga K c) := by
  unfold oexF at h
  rw [Bool.and_eq_true, Bool.and_eq_true, Bool.and_eq_true, Bool.and_eq_true] at h
  obtain ⟨h0, h1, h2, h3, h4⟩ := h
  refine ⟨?_, of_decide_eq_true h1, of_decide_eq_true h2, of_decide_eq_true h3, h4⟩
  unfold oexB at h0
  split at h0
  · rename_i dd cd sl ho
    split at h0
    · rename_i B bm k0 k1 k2 k3 n k5 hm hs
      rw [Bool.and_eq_true, Bool.and_eq_true, Bool.and_eq_true, Bool.and_eq_true] at h0
      obtain ⟨q1, q2, q3, q4, q5⟩ := h0
      have q1 := of_decide_eq_true q1
      have q2 := of_decide_eq_true q2
      obtain ⟨nm, bs, mro, ns, qn, hd, sn, sub, ab, col, dl⟩ := cd
      dsimp only at hm q3 q4
      rw [Bool.not_eq_true'] at q3
      have es : sl = #[k0, k1, k2, k3, some (.builtin n), k5] := Array.ext' (by simpa using hs)
      subst q1 q2 q3 q4 hm es
      exact ⟨nm, qn, ns, bs, bm, sn, sub, ab, col, dd, k0, k1, k2, k3, k5, ho, q5⟩
    · cases h0
  · cases h0
/-- C.__init__ read off the class C is the built-in one -/
structure BaseI (K : PySem.W.Frag) (B : Addr) : Prop where
  sp : PySem.W.specialIn K (.ref B) "__getattribute__" = some (some (.builtin "type.__getattribute__"))
  rd : PySem.W.readsIn K B (.type "type") = true
  at_ : PySem.W.findCls K (.ref B) (.type "type") "__init__" = some (.val (.builtin "ValueError.__init__"))
def baseB (c : Str) (K : PySem.W.Frag) : Bool := decide (PySem.W.specialIn K (.ref (He.ga K c)) "__getattribute__" = some (some (.builtin "type.__getattribute__"))) && (PySem.W.readsIn K (He.ga K c) (.type "type") && (match PySem.W.findCls K (.ref (He.ga K c)) (.type "type") "__init__" with
  | some (.val (.builtin n)) => decide (n = "ValueError.__init__")
  | _ => false))
theorem baseB_ok {c : Str} {K : PySem.W.Frag} (h : baseB c K = true) : BaseI K (He.ga K c) := by
  unfold baseB at h
  rw [Bool.and_eq_true, Bool.and_eq_true] at h
  obtain ⟨h1, h2, h3⟩ := h
  refine ⟨of_decide_eq_true h1, h2, ?_⟩
  split at h3
  · rename_i n e
    rw [e, of_decide_eq_true h3]
  · cases h3
section
variable {X : Cx} {o e : Expr} {es : List Expr} {ta : TA} {b : Str} {B : Addr} {p1 p2 pos : Pos}
theorem pe_baseI {pl : Sem Bool} (hg : Gl X b) (hm : X.mg b = some (.ref B)) (T : BaseI X.K B) (ha : PA X (e :: es) ta) (hdb : (b == ("__debug__" : Str)) = false := by decide)
    (hc : eval (.Call (.Attribute (.Name b p1) "__init__" p2) (e :: es) [] pos) X.env = (do let ov ← eval (.Name b p1) X.env; standAt p2.atName; let (f, first) ← holding [ov] (getMethod ov "__init__" pl); callWith pos f first (backTo pos (starEach (e :: es) X.env)) (backToKw pos (keywordEach [] X.env))) := by rfl)
    (hst : starEach (e :: es) X.env = (false, eval e X.env) :: starEach es X.env := by rfl) (hns : (backTo pos (starEach es X.env)).any (·.1) = false := by rfl) :
    PE X (.Call (.Attribute (.Name b p1) "__init__" p2) (e :: es) [] pos) (tVeI X.K ta) := by
  refine ⟨fun pins s σ H Q I h => PySem.W.methodCall_KW (ld_glob I hg hm ?_ hdb) hc⟩
  refine PySem.W.method_cls I.kIn T.sp (PySem.W.cls_value I.kIn T.rd T.at_ (by decide +kernel) ?_)
  refine callWith_method1 (thn (ha.run pos pins _ σ H _ (I.tok _) h) fun us s1 ⟨vs, H1, J, r1, a, C, ws, ev, hl, OC, ea, q⟩ => ?_) hst hns
  subst ev
  cases r1 with
  | @cons _ u0 _ ur ra rw' =>
    obtain rfl : u0 = Value.ref a := ra
    have lw := rw'.length
    refine oinit_ok OC J ea (by rw [← lw, sizeLine_eq]; omega) fun s' J' => ⟨.non, H1, J', rfl, q⟩
end
/-! ### __init__(self, x): C0.__init__(self, ".."); self.f = x -/
def tXI (K : PySem.W.Frag) (C : Addr) (f : Str) (g : V → Hp → (V → Hp → Prop) → Prop) : TS := fun D σ H => ∃ a v, σ[0]? = some (some (.ref a)) ∧ σ[1]? = some (some v) ∧ OexC K C ∧ PySem.W.findIn K (.ref C) f = some none ∧ H a = some (exo a C none) ∧
  g v H fun y H1 => H1 a = some (exo a C none) ∧ ∀ dx, H1 dx = none → dx ≠ a → D.nx σ (upd (upd H1 dx (exd dx [(f, y)])) a (exo a C (some dx)))
def gId : V → Hp → (V → Hp → Prop) → Prop := fun v H R => R v H
def gLs : V → Hp → (V → Hp → Prop) → Prop := fun v H R => ∃ r xs, v = .ref r ∧ Rd H r (.lst xs) ∧ xs.length ≤ sizeLine ∧ ∀ p, H p = none → R (.ref p) (upd H p (.lst xs))
section
variable {X : Cx} {o : Expr} {b f m self nm : Str} {B C : Addr} {j : Nat} {p1 p2 p3 p4 p5 p6 p7 p8 p9 p10 : Pos} {v : Expr} {g : V → Hp → (V → Hp → Prop) → Prop}
theorem xi_body {call : Expr} (mg : ∀ v H R R', (∀ y H1, R y H1 → R' y H1) → g v H R → g v H R') (hp : PE X call (tVeI X.K (tCons (tVar 0) (tCons (tC (.str m)) tNil)))) (h0 : PE X o (tVar 0)) (h1 : PE X v (fun σ H Q => ∃ y, σ[1]? = some (some y) ∧ g y H Q))
    (hs : swapsWith v (some (.Attribute o f p8)) p9.line X.env = pure false := by rfl) (hs2 : swapsWith call none p6.line X.env = pure false := by rfl) :
    PSs X [.Expr call p6, .Assign [.Attribute o f p8] v p9] (tXI X.K C f g) :=
  PSs.imp (pss_cons (ps_expr hp hs2) (pss_one (ps_ost h0 h1 hs))) fun D σ H h => by
    obtain ⟨a, y, e0, e1, OC, hn, ha, h⟩ := h
    refine ⟨.ref a, e0, a, C, [V.str m], rfl, by simp, OC, ha, y, e1, mg _ _ _ _ (fun z H1 q => ?_) h⟩
    exact ⟨.ref a, e0, a, C, rfl, OC, hn, .inl q⟩
end
def spXI (K : PySem.W.Frag) (C : Addr) (f : Str) (g : V → Hp → (V → Hp → Prop) → Prop) : Sp := fun vs H Q _ => ∃ a v, vs = [.ref a, v] ∧ OexC K C ∧ PySem.W.findIn K (.ref C) f = some none ∧ H a = some (exo a C none) ∧
  g v H fun y H1 => H1 a = some (exo a C none) ∧ ∀ dx, H1 dx = none → dx ≠ a → Q .non (upd (upd H1 dx (exd dx [(f, y)])) a (exo a C (some dx)))
section
variable {P : Program} {w : World} {K : PySem.W.Frag} {mg : Str → Option Value} {base : Heap}
theorem fn_xinit {x qual fl : Str} {st : Stmt} {f C : Addr} {fd : FuncData} {N ps : List Str} {k : Nat} {g : V → Hp → (V → Hp → Prop) → Prop} {dvs : List V} {kws : List (Str × V)} (F : FunD K x qual (defArgs st) (defBody st) (defScope st) dvs kws f fd) (S : FnScope N ps (defScope st)) (hp : ps.length = 2)
    (hb : ∀ (cdv : Value) (A : Around) (outer : List Env) (s : Shared) (H : Hp) (E : XK), Room k (A.deeper (envOfC qual (defScope st) s.heap.objs.size f cdv)) →
      PSs (cxOf (L2.CX P w) P w K mg base N qual (defScope st) f cdv A outer s H E) (defBody st) (tXI K C fl g)) :
    FnOk P w K mg base (L2.CX P w) (k + 1) f fd ps (spXI K C fl g) :=
  F.ok S (fun vs H Q E h => by
    obtain ⟨a, v, rfl, _⟩ := h
    exact hp.symm) fun cdv A outer s H vs Q E hr h => ⟨_, hb cdv A outer s H E hr, by
    obtain ⟨a, v, rfl, OC, hn, ha, h⟩ := h
    exact ⟨a, v, rfl, rfl, OC, hn, ha, h⟩⟩
end
/-! ### what the field comes to -/
structure ExtF (H : Hp) (Z : Zn) (F : List Addr) (H' : Hp) (Z' : Zn) : Prop where
  gr : Grow H H'
  f : ∀ a, Z.f a → Z'.f a
  fn : ∀ a, Z'.f a → Z.f a ∨ a ∈ F ∨ H a = none
  fd : ∀ a, Z'.f a → H' a ≠ none
  b : Z'.b = Z.b
  t : Z'.t = Z.t
def OkG (K : PySem.W.Frag) (cm : Cm) (g : V → Hp → (V → Hp → Prop) → Prop) (pz : D → Option D) : Prop :=
  ∀ H Z d v F e, Dom H Z → Rep K cm H Z d v F → (∀ a ∈ F, Mut (H a)) → pz d = some e → ∀ (a : Addr) (o : HO), H a = none → ∀ R : V → Hp → Prop,
    (∀ y H' Z', ExtF H Z F H' Z' → Rep K cm H' Z' e y [] → noB e = true → H' a = none → R y (upd H' a o)) → g v (upd H a o) R
def zId (d : D) : Option D := if noB d then some (toFrz d) else none
def zLs : D → Option D
  | .nd (.lst _) ds => if ds.all noB ∧ ds.length ≤ sizeLine then some (.nd (.lst .frz) (ds.map toFrz)) else none
  | _ => none
theorem noB_frz : ∀ d : D, noB d = true → noB (toFrz d) = true := fun d h => allF_mapF (p := fun f => f == .own || f == .frz) (q := fun f => f == .own || f == .frz) (fun f hf => by cases f <;> first | rfl | cases hf) d h
theorem Rep.toFrz {K : PySem.W.Frag} {cm : Cm} {H : Hp} {Z : Zn} {d : D} {v : V} {F G : List Addr} (r : Rep K cm H Z d v F) (hG : ∀ a ∈ F, a ∈ G) : Rep K cm H ⟨fun a => Z.f a ∨ a ∈ G, Z.b, Z.t⟩ (toFrz d) v [] :=
  Rep.give (g := Fl.toFrz) (O := fun a => a ∈ F) (cell_flag (fun a ha f ef _ => by subst ef; exact .inr (hG a ha)) (fun a f hf hz => by cases f with
    | own => exact absurd rfl hf
    | frz => exact .inl hz
    | _ => exact hz) (fun f e => by cases f <;> first | rfl | cases e)) (fun f e => by cases f <;> cases e) d r fun a h => h
theorem okG_id {K : PySem.W.Frag} {cm : Cm} : OkG K cm gId zId := fun H Z d v F e dm r mu hz a o ha R q => by
  unfold zId at hz
  split at hz
  · rename_i nb
    cases hz
    exact q v H ⟨fun a => Z.f a ∨ a ∈ F, Z.b, Z.t⟩ ⟨.refl H, fun _ h => .inl h, fun _ h => h.elim .inl fun h => .inr (.inl h), fun a h => h.elim (dm.f a) fun h => mut_ne (mu a h), rfl, rfl⟩ (r.toFrz fun _ h => h) (noB_frz d nb) ha
  · cases hz
theorem upd_swap {H : Hp} {a b : Addr} {o u : HO} (h : a ≠ b) : upd (upd H a o) b u = upd (upd H b u) a o := by
  funext c
  by_cases h1 : c = a
  · subst h1
    rw [upd_ne h, upd_same, upd_same]
  · by_cases h2 : c = b
    · subst h2
      rw [upd_same, upd_ne h1, upd_same]
    · rw [upd_ne h2, upd_ne h1, upd_ne h1, upd_ne h2]
theorem okG_ls {K : PySem.W.Frag} {cm : Cm} : OkG K cm gLs zLs := fun H Z d v F e dm r mu hz a o ha R q => by
  unfold zLs at hz
  split at hz
  · rename_i fl ds
    split at hz
    · rename_i nb
      cases hz
      obtain ⟨r0, vs, Fs, rfl, hc, hl, rfl⟩ := r
      have n0 : r0 ≠ a := fun z => by
        subst z
        exact cell_dom hc (fun z => by cases z) ha
      have rd : Rd (upd H a o) r0 (.lst vs) := by
        rcases hc.2.1 with h | ⟨ob, h⟩
        · exact .inl (by rw [upd_ne n0]; exact h)
        · exact .inr ⟨ob, by rw [upd_ne n0]; exact h⟩
      refine ⟨r0, vs, rfl, rd, by rw [hl.len.1]; exact nb.2, fun p hp => ?_⟩
      have hpa : p ≠ a := fun z => by rw [z, upd_same] at hp; cases hp
      have hp0 : H p = none := by rwa [upd_ne hpa] at hp
      rw [upd_swap (Ne.symm hpa)]
      have g : Grow H (upd H p (.lst vs)) := .new hp0
      obtain ⟨Gs, eG, hl2⟩ := hl.frz (F := ownA (.lst fl) r0 ++ Fs.flatten) fun x hx => List.mem_append_right _ hx
      have hl3 : RepL K cm (upd H p (.lst vs)) ⟨fun x => (Z.f x ∨ x ∈ ownA (.lst fl) r0 ++ Fs.flatten) ∨ x = p, Z.b, Z.t⟩ (ds.map toFrz) vs Gs := hl2.grow g (fun _ h => .inl h) (fun _ h => h) fun _ h => h
      refine q (.ref p) (upd H p (.lst vs)) ⟨fun x => (Z.f x ∨ x ∈ ownA (.lst fl) r0 ++ Fs.flatten) ∨ x = p, Z.b, Z.t⟩ ⟨g, fun _ h => .inl (.inl h), fun x h => ?_, fun x h => ?_, rfl, rfl⟩ ⟨p, vs, Gs, rfl, ⟨fun z => (nomatch z), .inl upd_same, .inr rfl⟩, hl3, by rw [eG]; rfl⟩ ?_ (by rw [upd_ne (Ne.symm hpa)]; exact ha)
      · rcases h with (h | h) | h
        · exact .inl h
        · exact .inr (.inl h)
        · exact .inr (.inr (by rw [h]; exact hp0))
      · rcases h with (h | h) | h
        · exact fun z => dm.f x h (g.back z)
        · exact fun z => mut_ne (mu x h) (g.back z)
        · rw [h, upd_same]; exact fun z => nomatch z
      · have key : ∀ l : List D, l.all noB = true → allFL (fun f => f == .own || f == .frz) (l.map toFrz) = true := by
          intro l
          induction l with
          | nil => intro _; rfl
          | cons d l ih =>
            intro h
            rw [List.all_cons, Bool.and_eq_true] at h
            rw [List.map_cons, allFL, ih h.2, Bool.and_true]
            exact noB_frz d h.1
        exact key ds nb.1
    · cases hz
  · cases hz
end OB

namespace OB
open PySem PySem.Spec PyProof.Rows L2
def sRaise0 (c : Str) : Mst := fun ρ => some (.ex ⟨c, none⟩, ρ)
def sRaise1 (c n : Str) (pz : D → Option D) (f : En → Ot D) : Mst := sOn f fun d ρ => match pz d with
  | some e => some (.ex ⟨c, some (n, e)⟩, ρ)
  | none => none
/-- what is asked of a class whose errors are made with a text -/
structure Xc0 (K : PySem.W.Frag) (C : Addr) : Prop where
  ex : PySem.W.excIn K C He.veBase "ValueError.__new__" = true
  kp : PySem.W.keepIn K (.ref C) = true
  sb : PySem.W.subIn K (.ref C) (.type "BaseException") = some true
  ty : PySem.W.typeIn K (.ref C) = some (.type "type")
/-- .. with an own __init__ -/
def GoodXc (P : Program) (w : World) (K : PySem.W.Frag) (mg : Str → Option Value) (base : Heap) (cm : Cm) (c n : Str) (k : Nat) (g : V → Hp → (V → Hp → Prop) → Prop) : Prop :=
  ∃ (f : Addr) (fd : FuncData) (ps : List Str), mg c = some (.ref (cm c)) ∧ OexC K (cm c) ∧ PySem.W.findIn K (.ref (cm c)) "__init__" = some (some (.ref f)) ∧ PySem.W.typeIn K (.ref f) = some (.type "function") ∧ PySem.W.findIn K (.ref (cm c)) n = some none ∧ Binds K fd ps [] ∧
    FnOk P w K mg base (L2.CX P w) k f fd ps (spXI K (cm c) n g)
section
variable {X : Cx} {cm : Cm} {W : WX} {P : List Nat} {c n m : Str} {p p2 pos pos' : Pos} {e : Expr} {f : En → Ot D} {j k i : Nat} {g : V → Hp → (V → Hp → Prop) → Prop} {pz : D → Option D}
theorem ss_raise0 (hc : X.calm = true) (tk : Takes X W) (T : Xc0 X.K (cm c)) (gC : X.mg c = some (.ref (cm c))) (hg : Gl X c) (hdb : (c == ("__debug__" : Str)) = false := by decide) :
    SS X cm W P (.Raise (some (.Call (.Name c p) [.Constant (.str m) j p2] [] pos')) none pos) (sRaise0 c) :=
  PS.imp (ps_raise hc tk (pmk_own PySem.F.excBase_ValueError T.ex gC T.kp (raises_own T.sb T.ty) hg hdb)) fun D0 σ H q => by
    obtain ⟨Z, ρ, Fs, ok, q⟩ := q
    exact q σ H Z Fs .refl ok (.ref (cm c)) none ⟨rfl, rfl, rfl⟩
theorem ss_raise1 (hc : X.calm = true) (tk : Takes X W) (G : GoodXc X.prog X.w X.K X.mg X.base cm c n k g) (og : OkG X.K cm g pz) (hr : Room j X.A) (hk : k + 1 ≤ j) (hg : Gl X c) (ha : SE X cm W e f) (hdb : (c == ("__debug__" : Str)) = false := by decide)
    (he : starEach [e] X.env = (false, eval e X.env) :: starEach [] X.env := by rfl) (hpl : (backTo pos' (starEach [] X.env)).any (·.1) = false := by rfl) :
    SS X cm W P (.Raise (some (.Call (.Name c p) [e] [] pos')) none pos) (sRaise1 c n pz f) := by
  obtain ⟨fI, fd, ps, hm, OC, iC, tI, hn, b, F1⟩ := G
  refine PS.imp (ps_raise hc tk (pmk_oex OC iC tI F1 (hr.mono hk) b .nil (fun _ _ _ _ _ _ _ z => ?_) hg hm (sa_cons ha sa_nil he) hdb he hpl)) fun D0 σ H q => ?_
  · obtain ⟨_, _, _, _, _, _, _, _, _, _, _, _, z⟩ := z
    exact z.elim
  obtain ⟨Z, ρ, Fs, ok, q⟩ := q
  show tPL X.K cm W (eL [f]) σ H _
  refine ⟨lendZ Z Fs, ρ, Fs, ok.pure, ?_⟩
  unfold sRaise1 sOn at q
  cases hf : f ρ with
  | no => rw [hf] at q; exact q.elim
  | ex x =>
    rw [hf] at q
    rw [eL, hf]
    intro cls dd H' Z' ex xr
    exact q σ H' _ Fs (.ext ok ex) (ok.ext ex) cls dd (xr.back fun _ h => h)
  | ok d =>
    rw [hf] at q
    rw [eL, hf]
    dsimp only at q
    intro vs H1 Z1 Gs r1
    obtain ⟨v, F, rfl, rfl, rep⟩ := repL1 r1.rep
    refine ⟨by simp, fun a ha => ?_⟩
    cases hz : pz d with
    | none => rw [hz] at q; exact q.elim
    | some e' =>
      rw [hz] at q
      dsimp only at q
      have mu : ∀ x ∈ F, Mut (H1 x) := Rep.mut d rep
      refine ⟨a, v, rfl, OC, hn, upd_same, ?_⟩
      refine og H1 Z1 d v F e' (ok.pure.dom.ext r1.ext) rep mu hz a _ ha _ fun y H2 Z2 ex2 ry nb na => ⟨upd_same, fun dx hdx ne => ⟨rfl, ?_⟩⟩
      have hdx0 : H2 dx = none := by rwa [upd_ne ne] at hdx
      refine ⟨dx, [(n, y)], upd_same, by rw [upd_ne ne, upd_same], ex2.gr.back hdx0, ?_⟩
      have eH : upd (del (upd (upd (upd H2 a (exo a (cm c) none)) dx (exd dx [(n, y)])) a (exo a (cm c) (some dx))) a) dx (.xd [(n, y)]) = upd H2 dx (.xd [(n, y)]) := by
        funext z
        by_cases h1 : z = dx
        · subst h1; rw [upd_same, upd_same]
        · rw [upd_ne h1, upd_ne h1]
          by_cases h2 : z = a
          · subst h2; rw [del_same, na]
          · rw [del_ne h2, upd_ne h2, upd_ne h1, upd_ne h2]
      rw [eH]
      have g3 : Grow H2 (upd H2 dx (.xd [(n, y)])) := .new hdx0
      have ex3 : Ext H (lendZ Z Fs) (upd H2 dx (.xd [(n, y)])) Z2 := by
        refine ⟨r1.ext.gr.trans (ex2.gr.trans g3), fun x h => ex2.f x (r1.ext.f x h), fun x h => ?_, fun x h z => ex2.fd x h (g3.back z), ex2.b.trans r1.ext.b, ex2.t.trans r1.ext.t⟩
        rcases ex2.fn x h with h | h | h
        · exact r1.ext.fn x h
        · have := r1.new x (by simpa using h); exact .inr this
        · exact .inr (r1.ext.gr.back h)
      have ok3 := ok.ext ex3
      refine q σ _ _ Fs (.ext ok ex3) ok3 (.ref (cm c)) (some dx) ⟨rfl, nb, dx, y, rfl, upd_same, ?_⟩
      have r3 : Rep X.K cm (upd H2 dx (.xd [(n, y)])) Z2 e' y [] := ry.grow g3 (fun _ h => h) (fun _ h => h) fun _ h => h
      exact noB_only r3 nb fun _ h => h
end
end OB

namespace OB
open PySem PySem.Spec PyProof.Rows L2
theorem excHO_ok {P : Program} {w : World} {H : Hp} {h : Heap} {a C : Addr} {d : Option Addr} {oe : Obj} {vs : Array Value} (e : h.get? a = some oe) (z : Zc (.ref C) d oe) (q : oe.data = .fields vs) : ObjOk P w H h a (ExcHO C d a) :=
  ⟨⟨oe, vs, e, z, q⟩, ⟨oe, e⟩, fun _ _ ⟨ob, us, e1, z1, q1⟩ k => ⟨ob, us, k _ e1, z1, q1⟩⟩
section
variable {X : Cx} {pins : List (Addr × Obj)} {σ : L2.St} {H : Hp} {s : Shared}
/-- an object that is new since the entry becomes known -/
theorem Inv.track {a : Addr} {o : HO} (I : Inv X pins σ H s) (n : H a = none) (h0 : X.s_0.heap.get? a = none) (nL : X.env.locals ≠ a) (nc : ∀ x c, X.env.cells.lookup x = some c → c ≠ a) (np : ∀ p ∈ X.pn ++ pins, p.1 ≠ a)
    (new : ObjOk X.prog X.w (upd H a o) s.heap a o) : Inv X pins σ (upd H a o) s := by
  have far : ∀ {b u}, H b = some u → b ≠ a := fun e z => by rw [z, n] at e; cases e
  obtain ⟨k1, k2, k3, k4, k5, k6, k7⟩ := I.base
  refine ⟨I.ok, I.os, I.bare, ⟨k1, k2, fun b ob e m q => ?_, k4, fun b xs e => ?_, fun b ob v e => ?_, fun b ps e => ?_⟩, I.loc, I.cell, ?_, fun x c e => ?_, fun p hp => ?_, fun b u e => ?_, I.len⟩
  · rw [upd_ne fun z => by rw [z, h0] at e; cases e]
    exact k3 b ob e m q
  · have := k5 b xs e
    rw [upd_ne (far this)]; exact this
  · have := k6 b ob v e
    rw [upd_ne (far this)]; exact this
  · obtain ⟨more, this⟩ := k7 b ps e
    exact ⟨more, by rw [upd_ne (far this)]; exact this⟩
  · rw [upd_ne nL]; exact I.free
  · rw [upd_ne (nc x c e)]; exact I.freeC x c e
  · obtain ⟨p1, p2, p3, p4, p5⟩ := I.pin p hp
    exact ⟨p1, by rw [upd_ne (np p hp)]; exact p2, p3, p4, p5⟩
  · by_cases hb : b = a
    · subst hb
      rw [upd_same] at e
      cases e
      exact new
    · rw [upd_ne hb] at e
      exact (I.hok b u e).stay (fun _ _ _ r => r) (fun c r => by rw [upd_ne (far r)]; exact r) fun c xs r => by rw [upd_ne (far r)]; exact r
end
/-- the ends of a suite behind which the error at a is known, its name's slot i gone -/
def endsK (D : Ends) (i : Nat) (a C : Addr) (d : Option Addr) : Ends where
  nx := fun σ H => H a = none → D.nx (σ.set i none) (upd H a (ExcHO C d a))
  rt := fun _ _ => False
  bk := fun _ _ => False
  ct := fun _ _ => False
def wKeep (K : PySem.W.Frag) (c : Value) (i : Nat) (ts : Addr → Value → Option Addr → TS) (Wout : WX) (D : Ends) : WX := fun cls d σ H =>
  ∃ (C : Addr) (b : Bool), cls = .ref C ∧ PySem.W.exmOne K cls c = some b ∧ if b then ∀ a, H a = none → ts a cls d (endsK D i a C d) (σ.set i (some (.ref a))) H else Wout cls d σ H
section
variable {X : Cx} {x n : Str} {c : Value} {i : Nat} {body suite : List Stmt} {b0 : Stmt} {np pos pos2 : Pos} {tb : WX → TS} {ts : Addr → Value → Option Addr → TS} {Wout : WX}
theorem catch_keep {pins : List (Addr × Obj)} {xe : Value → Shared → Prop} {D : Ends} {u : Value} {s' : Shared} (ok : X.Ok) (hs : X.stack = X.env :: X.outer) (hf : X.env.frame = some X.env.locals) (hex : X.ex = []) (hN : X.N.Nodup) (hi : X.N[i]? = some n) (hln : X.env.kindOf n = some .local) (hc : Names X x c) (tk : Takes X Wout)
    (hsu : ∀ (a : Addr) (oe : Obj) (cls : Value) (d : Option Addr) (pn : List (Addr × Obj)), PSs (X.suite a ((a, oe) :: pn)) (b0 :: suite) (ts a cls d))
    (xx : XE (X.tr (X.pn ++ pins) xe) (wKeep X.K c i ts Wout D) u s') :
    wpAny (model X.prog X.w) X.A (noteFrame u X.env) (fun _ r => wpAny (model X.prog X.w) X.A (setFlight u none) (fun _ r2 => wpAny (model X.prog X.w) X.A (handleBy u X.env [.ExceptHandler (some (.Name x np)) (some n) (b0 :: suite) pos2]) (SP X pins D) X.xe r2) X.xe r) X.xe s' := by
  have frames : X.A.frames = some (X.env :: X.outer) := ok.frames.trans (congrArg some hs)
  obtain ⟨a, G, sI, pins2, σ1, H1, cls, d, rfl, I0, ground, slots, air, free, eos, gens, C, b, rfl, hm, hw⟩ := xx
  have I1 : Inv X pins σ1 H1 sI := Inv.ofTry I0 ok
  have air : Sky G (X.env :: X.outer) a (Zc (.ref C) d) X.env.locals s'.heap := hs ▸ air
  refine air.land Zc.steady frames hf fun g fl sl => ?_
  -- the state on the ground
  have ground_at : ∀ {g : Heap}, HandSPX.FlyingZ G (X.env :: X.outer) a (Zc (.ref C) d) g → s'.heap.UpToSlots g → Inv X pins σ1 H1 { s' with heap := g } := fun {g} fl up => Inv.landed I1 ground fl.1 (slots.trans up) eos gens
  have thing : ∀ {g : Heap}, HandSPX.FlyingZ G (X.env :: X.outer) a (Zc (.ref C) d) g → ∃ oe vs, g.get? a = some oe ∧ Zc (.ref C) d oe ∧ oe.data = .fields vs := fun {g} fl => by
    obtain ⟨_, _, _, oe, vs, _, _, _, e1, e2, e3, _⟩ := fl
    exact ⟨oe, vs, e1, e2, e3⟩
  have noFrame : a ∉ frs (X.env :: X.outer) := fun z => by
    obtain ⟨oe, vs, e1, _, e3⟩ := thing fl
    obtain ⟨_, ob, e4, e5⟩ := fl.2.2.1.mem z
    rw [e1] at e4
    cases e4
    exact e5 _ e3
  have notLoc : a ≠ X.env.locals := fun z => noFrame (by rw [z]; exact List.mem_filterMap.mpr ⟨X.env, List.mem_cons_self, hf⟩)
  have notFs : a ∉ X.fs := fun z => by
    obtain ⟨e, he, q⟩ := List.mem_filterMap.mp z
    exact noFrame (List.mem_filterMap.mpr ⟨e, List.mem_cons_of_mem _ he, q⟩)
  have newI : sI.heap.get? a = none := by
    cases e : sI.heap.get? a with
    | none => rfl
    | some ob =>
      have z := ground a ob e (by rw [show (X.tr (X.pn ++ pins) xe).stack = X.env :: X.outer from hs]; exact noFrame)
      rw [fl.2.1] at z
      cases z
  have new0 : X.s_0.heap.get? a = none := by
    cases e : X.s_0.heap.get? a with
    | none => rfl
    | some ob =>
      obtain ⟨ob2, z⟩ := I1.base.there a ob e (by rw [hex]; exact fun z => nomatch z)
      rw [newI] at z
      cases z
  have notCell : ∀ y k, X.env.cells.lookup y = some k → k ≠ a := fun y k e z => by
    obtain ⟨v, ob, e2, _⟩ := I1.cell y k e
    rw [z, newI] at e2
    cases e2
  have notPin : ∀ p ∈ X.pn ++ pins, p.1 ≠ a := fun p hp z => by
    have e := (I1.pin p hp).1
    rw [z, newI] at e
    cases e
  obtain ⟨oe, vs, ge, gz, gd⟩ := thing fl
  have S := (ground_at fl sl).suite ge gd free notLoc notFs
  refine wpAny_handleBy_cons (codeAny_handlers_test ?_) fun z => nomatch z
  have typ : PySem.W.Looks (model X.prog X.w) g (typeOf (.ref a)) (.ref C) := fun A Q E s keep q => wpAny_typeOf_ref (keep _ _ ge) (gz.1.symm ▸ q)
  have word : ∀ {Q : Value → Shared → Prop} {E : Value → Shared → Prop}, Q c { s' with heap := g } → wpAny (model X.prog X.w) (X.A.mark (some (.ref a))) (eval (.Name x np) X.env) Q E { s' with heap := g } := fun {Q E} q => by
    obtain ⟨w1, w2, w3 | ⟨w3, w4, w5⟩⟩ := hc
    · exact ld_glob (X := X.suite a ((a, oe) :: (X.pn ++ pins))) S w1 w3 q w2
    · exact ld_blt (X := X.suite a ((a, oe) :: (X.pn ++ pins))) S w1 w3 w4 q w5 w2
  refine word ((PySem.W.exm_one (M := model X.prog X.w) (ground_at fl sl).kIn typ hm).here ?_)
  cases b with
  | false =>
    show wpAny _ X.A (handleBy (.ref a) X.env []) _ _ _
    refine wpAny_handleBy_nil ?_
    obtain ⟨_, _, _, o1, fs1, T, _, _, q1, _, q3, q4, _⟩ := id fl
    unfold PySem.passOn
    refine wpAny_bind (wpAny_field q1 q3 q4 ?_)
    rw [if_neg (by simp : ¬ ((Value.ref T == Value.none) = true))]
    have up : wpAny (model X.prog X.w) X.A (setFlight (.ref a) X.env.frame) (fun _ r => wpAny (model X.prog X.w) X.A (throw (.ref a) : Sem Flow) (SP X pins D) X.xe r) X.xe { s' with heap := g } := by
      rw [hf]
      exact HandSPX.setFlight_upZ fl fun g2 held sl2 => wpAny_throw (tk _ _ ⟨a, G, sI, pins, σ1, H1, .ref C, d, rfl, I1, ground, (slots.trans sl).trans sl2, .inr (.inr (hs.symm ▸ held)), free, eos, gens, hw⟩)
    first
      | exact wpAny_bind up
      | exact wpAny_bind (wpAny_pure (wpAny_bind up))
  | true =>
    refine codeAny_handlers_suite_as (HandSPX.lands_againZ fl fun g2 fl2 sl2 => ?_)
    obtain ⟨oe2, vs2, ge2, gz2, gd2⟩ := thing fl2
    have S2 := (ground_at fl2 (sl.trans sl2)).suite ge2 gd2 free notLoc notFs
    refine store_ok (X := X.suite a ((a, oe2) :: (X.pn ++ pins))) (v := .ref a) S2 hN hi (.inl hln) rfl (fun s5 S5 => ?_) (.inr hln)
    refine wpAny_mono ((hsu a oe2 (.ref C) d (X.pn ++ pins)).run [] s5 _ H1 _ S5 (hw a free)) (fun f s6 out => ?_) fun _ _ z => z.elim
    cases f with
    | next =>
      obtain ⟨σ6, H6, S6, nx⟩ := out
      have pin6 := S6.pin (a, oe2) (by rw [List.append_nil]; exact List.mem_cons_self)
      have T6 := Inv.track (o := ExcHO C d a) (S6.unsuite ok) pin6.2.1 new0 (Ne.symm notLoc) notCell notPin (excHO_ok pin6.1 gz2 gd2)
      exact gone_ok T6 hN hi hln fun s7 J7 => ⟨_, _, J7, nx pin6.2.1⟩
    | brk =>
      obtain ⟨_, _, _, z⟩ := out
      exact z.elim
    | cont =>
      obtain ⟨_, _, _, z⟩ := out
      exact z.elim
    | ret v =>
      obtain ⟨_, _, _, _, _, z⟩ := out
      exact z.elim
theorem ps_try_keep (hs : X.stack = X.env :: X.outer) (hf : X.env.frame = some X.env.locals) (hex : X.ex = []) (hN : X.N.Nodup) (hi : X.N[i]? = some n) (hln : X.env.kindOf n = some .local) (hc : Names X x c) (tk : Takes X Wout)
    (hb : ∀ (W : WX) (pn : List (Addr × Obj)) (xe : Value → Shared → Prop), Takes (X.tr pn xe) W → PassesOwn (model X.prog X.w) X.A X.env xe → PSs (X.tr pn xe) body (tb W))
    (hsu : ∀ (a : Addr) (oe : Obj) (cls : Value) (d : Option Addr) (pn : List (Addr × Obj)), PSs (X.suite a ((a, oe) :: pn)) (b0 :: suite) (ts a cls d)) :
    PS X (.Try body [.ExceptHandler (some (.Name x np)) (some n) (b0 :: suite) pos2] [] [] pos) (fun D σ H => tb (wKeep X.K c i ts Wout D) D σ H) := by
  refine ⟨fun pins s σ H D I h => wpAny_Try_except ?_⟩
  have go := (hb (wKeep X.K c i ts Wout D) (X.pn ++ pins) _ (fun u s' xx => catch_keep (pins := pins) (np := np) (pos2 := pos2) I.ok hs hf hex hN hi hln hc tk hsu xx) PassesOwn.looking).run [] s σ H D (I.toTry _) h
  refine wpAny_mono go (fun f s1 out => ?_) fun _ _ he => he
  cases f with
  | next =>
    obtain ⟨σ', H', J, q⟩ := out
    exact wpAny_execs_nil ⟨σ', H', J.ofTry I.ok, q⟩
  | ret v =>
    obtain ⟨y, σ', H', J, r, q⟩ := out
    exact ⟨y, σ', H', J.ofTry I.ok, r, q⟩
  | brk =>
    obtain ⟨σ', H', J, q⟩ := out
    exact ⟨σ', H', J.ofTry I.ok, q⟩
  | cont =>
    obtain ⟨σ', H', J, q⟩ := out
    exact ⟨σ', H', J.ofTry I.ok, q⟩
end
end OB

namespace OB
open PySem PySem.Spec PyProof.Rows L2
/-- an error as a value -/
def excD (x : XD) : D := match x.fld with
  | none => .nd (.exc .frz x.cls []) []
  | some (n, d) => .nd (.exc .frz x.cls [n]) [d]
theorem rep_exc {K : PySem.W.Frag} {cm : Cm} {H : Hp} {Z : Zn} {x : XD} {cls : Value} {dd : Option Addr} {a : Addr} (xr : XRep K cm H Z x cls dd) (ha : H a = none) {Z' : Zn} (hf : ∀ b, Z.f b → Z'.f b) (hb : ∀ b, Z.b b → Z'.b b) (ht : ∀ b, Z.t b → Z'.t b) (fa : Z'.f a) :
    Rep K cm (upd H a (ExcHO (cm x.cls) dd a)) Z' (excD x) (.ref a) [] := by
  obtain ⟨_, _, h⟩ := xr
  unfold excD
  cases q : x.fld with
  | none =>
    rw [q] at h
    dsimp only at h ⊢
    subst h
    exact ⟨a, [], [], rfl, ⟨⟨none, upd_same, rfl⟩, rfl, fa⟩, repL_nil, rfl⟩
  | some p =>
    obtain ⟨n, d⟩ := p
    rw [q] at h
    obtain ⟨dx, v, rfl, hd, r⟩ := h
    have ne : dx ≠ a := fun z => by rw [z, ha] at hd; cases hd
    exact ⟨a, [v], [[]], rfl, ⟨⟨some dx, upd_same, by show upd H a _ dx = _; rw [upd_ne ne]; exact hd⟩, rfl, fa⟩, repL_cons (r.grow (.new ha) hf hb ht) repL_nil, rfl⟩
/-- try: g, except C as n: t = n (n in slot i, t in slot j) -/
def sTryK (cc : Str → Option Bool) (g : Mst) (i j : Nat) : Mst := fun ρ => match g ρ with
  | some (.ex x, ρ1) => match cc x.cls with
    | some true => if i < ρ1.length then some (.nx, (ρ1.set j (some (excD x))).set i none) else none
    | some false => some (.ex x, ρ1)
    | none => none
  | r => r
/-- try: g, except C: h -/
def sTryC (cc : Str → Option Bool) (g h : Mst) : Mst := fun ρ => match g ρ with
  | some (.ex x, ρ1) => match cc x.cls with
    | some true => match h ρ1 with
      | some (.ex _, _) => none
      | r => r
    | some false => some (.ex x, ρ1)
    | none => none
  | r => r
/-- the error's class is among those -/
def ccL (cs : List Str) : Str → Option Bool := fun c => if c ∈ cs then some true else none
section
variable {X : Cx} {cm : Cm} {W : WX} {P : List Nat} {c n t : Str} {np np2 tp ap pos pos2 : Pos} {body suite : List Stmt} {b0 : Stmt} {g h : Mst} {i j : Nat} {cc : Str → Option Bool}
theorem ss_tryK (hs : X.stack = X.env :: X.outer) (hf : X.env.frame = some X.env.locals) (hex : X.ex = []) (hN : X.N.Nodup) (hi : X.N[i]? = some n) (hj : X.N[j]? = some t) (hln : X.env.kindOf n = some .local) (hlt : X.env.scope.names.lookup t = some .local) (hij : i ≠ j) (hPi : (!P.contains i) = true) (hPj : (!P.contains j) = true)
    (hc : Names X c (.ref (cm c))) (he : ∀ d b, cc d = some b → PySem.W.exmOne X.K (.ref (cm d)) (.ref (cm c)) = some b) (tk : Takes X W) (pvn : ∀ (a : Addr) (pn : List (Addr × Obj)), PE (X.suite a pn) (.Name n np2) (tVar i))
    (hsw : swapsWith (.Name n np2) (some (.Name t tp)) ap.line X.env = pure false)
    (hb : ∀ (W : WX) (pn : List (Addr × Obj)) (xe : Value → Shared → Prop), Takes (X.tr pn xe) W → PassesOwn (model X.prog X.w) X.A X.env xe → SB (X.tr pn xe) cm W P body g) :
    SS X cm W P (.Try body [.ExceptHandler (some (.Name c np)) (some n) [.Assign [.Name t tp] (.Name n np2) ap] pos2] [] [] pos) (sTryK cc g i j) := by
  refine PS.imp (ps_try_keep (ts := fun _ _ _ => tAsg (tVar i) (gName j)) (tb := fun W => tS X.K cm W P g) hs hf hex hN hi hln hc tk hb fun a oe cls d pn => pss_one (ps_set hN hj (.inl hlt) (pvn a _) hsw (.inr hlt))) fun D0 σ H q => ?_
  obtain ⟨Z, ρ, Fs, ok, q⟩ := q
  refine ⟨Z, ρ, Fs, ok, ?_⟩
  unfold sTryK at q
  cases e1 : g ρ with
  | none => rw [e1] at q; exact q
  | some p =>
    obtain ⟨o, ρ1⟩ := p
    rw [e1] at q
    cases o with
    | nx => exact q
    | brk => exact q
    | cnt => exact q
    | ret d => exact q
    | ex x =>
      dsimp only at q
      intro σ1 H1 Z1 Fs1 s1 ok1 cls dd xr
      cases e2 : cc x.cls with
      | none => rw [e2] at q; exact q.elim
      | some b =>
        rw [e2] at q
        refine ⟨cm x.cls, b, xr.1, by rw [xr.1]; exact he _ _ e2, ?_⟩
        cases b with
        | false =>
          rw [if_neg (by decide)]
          exact q σ1 H1 Z1 Fs1 s1 ok1 cls dd xr
        | true =>
          rw [if_pos rfl]
          dsimp only at q
          intro a ha
          split at q
          rotate_left
          · exact q.elim
          rename_i li
          have li : i < σ1.length := by rw [ok1.rep.lσ]; exact li
          refine ⟨.ref a, by rw [List.getElem?_set_self li], fun _ => ?_⟩
          have eσ : ((σ1.set i (some (V.ref a))).set j (some (V.ref a))).set i none = (σ1.set j (some (V.ref a))).set i none := by
            rw [List.set_comm _ _ hij, List.set_set]
          rw [eσ]
          have gr : Grow H1 (upd H1 a (ExcHO (cm x.cls) dd a)) := .new ha
          have ex : Ext H1 (lendZ Z1 Fs1) (upd H1 a (ExcHO (cm x.cls) dd a)) ⟨fun b => Z1.f b ∨ b = a, Z1.b, (lendZ Z1 Fs1).t⟩ :=
            ⟨gr, fun _ h => .inl h, fun b h => h.elim .inl (fun h => .inr (by rw [h]; exact ha)), fun b h => h.elim (fun h z => ok1.dom.f b h (gr.back z)) (fun h => by rw [h, upd_same]; exact Option.some_ne_none _), rfl, rfl⟩
          have ok2 := ok1.ext ex
          have rx : Rep X.K cm (upd H1 a (ExcHO (cm x.cls) dd a)) ⟨fun b => Z1.f b ∨ b = a, Z1.b, fun _ => False⟩ (excD x) (.ref a) [] := rep_exc xr ha (fun _ h => .inl h) (fun _ h => h) (fun b h => (ok1.t b h).elim) (.inr rfl)
          have o3 : OkT X.K cm _ σ1 ρ1 Fs1 ⟨fun b => Z1.f b ∨ b = a, Z1.b, fun _ => False⟩ [excD x] [.ref a] [[]] := ⟨ok2, repL_cons rx repL_nil, by simpa using ok2.nd, fun _ z => by simp at z⟩
          have ok4 := (o3.set j).ok.gone i
          refine q _ _ _ _ ?_ ok4
          have st : SStep P σ1 H1 Z1 Fs1 ((σ1.set j (some (V.ref a))).set i none) (upd H1 a (ExcHO (cm x.cls) dd a)) ⟨fun b => Z1.f b ∨ b = a, Z1.b, fun _ => False⟩ ((Fs1.set j []).set i []) :=
            ⟨.grow gr, fun b hb => .inl ((set_nil_sub _ _).subset ((set_nil_sub _ _).subset hb)), fun _ h => .inl h, fun b h => h.elim .inl fun h => .inr (.inr (by rw [h]; exact ha)), rfl, fun k hk => by rw [prot_set hPi k hk, prot_set hPj k hk]⟩
          exact s1.trans st
theorem ss_tryC (hs : X.stack = X.env :: X.outer) (hf : X.env.frame = some X.env.locals) (hc : Names X c (.ref (cm c))) (he : ∀ d b, cc d = some b → PySem.W.exmOne X.K (.ref (cm d)) (.ref (cm c)) = some b) (tk : Takes X W)
    (hb : ∀ (W : WX) (pn : List (Addr × Obj)) (xe : Value → Shared → Prop), Takes (X.tr pn xe) W → PassesOwn (model X.prog X.w) X.A X.env xe → SB (X.tr pn xe) cm W P body g)
    (hh : ∀ (a : Addr) (pn : List (Addr × Obj)), SB (X.suite a pn) cm (fun _ _ _ _ => False) P (b0 :: suite) h) :
    SS X cm W P (.Try body [.ExceptHandler (some (.Name c np)) none (b0 :: suite) pos2] [] [] pos) (sTryC cc g h) := by
  refine PS.imp (ps_try_only (ts := fun _ _ _ => tS X.K cm (fun _ _ _ _ => False) P h) (tb := fun W => tS X.K cm W P g) hs hf hc tk hb fun a oe cls d pn _ _ => hh a _) fun D0 σ H q => ?_
  obtain ⟨Z, ρ, Fs, ok, q⟩ := q
  refine ⟨Z, ρ, Fs, ok, ?_⟩
  unfold sTryC at q
  cases e1 : g ρ with
  | none => rw [e1] at q; exact q
  | some p =>
    obtain ⟨o, ρ1⟩ := p
    rw [e1] at q
    cases o with
    | nx => exact q
    | brk => exact q
    | cnt => exact q
    | ret d => exact q
    | ex x =>
      dsimp only at q
      intro σ1 H1 Z1 Fs1 s1 ok1 cls dd xr
      cases e2 : cc x.cls with
      | none => rw [e2] at q; exact q.elim
      | some b =>
        rw [e2] at q
        refine ⟨b, by rw [xr.1]; exact he _ _ e2, fun hb => ?_, fun hb => ?_⟩
        · subst hb
          dsimp only at q
          intro a ha
          refine ⟨Z1, ρ1, Fs1, ok1, ?_⟩
          cases e3 : h ρ1 with
          | none => rw [e3] at q; exact q
          | some p2 =>
            obtain ⟨o2, ρ2⟩ := p2
            rw [e3] at q
            cases o2 with
            | ex y => exact q.elim
            | nx => exact q.step s1
            | brk => exact q.step s1
            | cnt => exact q.step s1
            | ret d => exact q.step s1
        · subst hb
          exact q σ1 H1 Z1 Fs1 s1 ok1 cls dd xr
end
end OB

namespace OB
open PySem PySem.Spec PyProof.Rows L2
/-! ### isinstance -/
structure XcI (K : PySem.W.Frag) (C : Addr) : Prop where
  cl : (PySem.W.clsIn K C).isSome = true
  ga : PySem.W.findIn K (.ref C) "__getattribute__" = some (some (.builtin "BaseException.__getattribute__"))
  gg : PySem.W.findIn K (.ref C) "__getattr__" = some none
  sb : PySem.W.subIn K (.ref C) (.type "BaseException") = some true
  ha : PySem.W.findIn K (.ref C) "__class__" = some (some (.builtin "object.__class__"))
  hn : PySem.W.specialIn K (.builtin "object.__class__") "__get__" = some (some (.builtin "getset_descriptor.__get__"))
  tk : PySem.W.takesIn K (.builtin "object.__class__") = some true
  mr : PySem.W.mroIn K C (.type "object") = some true
  hd : PySem.W.hasDictIn K C = true
def xciB (c : Str) (K : PySem.W.Frag) : Bool := (PySem.W.clsIn K (He.ga K c)).isSome && (decide (PySem.W.findIn K (.ref (He.ga K c)) "__getattribute__" = some (some (.builtin "BaseException.__getattribute__"))) && (decide (PySem.W.findIn K (.ref (He.ga K c)) "__getattr__" = some none) &&
  (decide (PySem.W.subIn K (.ref (He.ga K c)) (.type "BaseException") = some true) && (decide (PySem.W.findIn K (.ref (He.ga K c)) "__class__" = some (some (.builtin "object.__class__"))) && (decide (PySem.W.specialIn K (.builtin "object.__class__") "__get__" = some (some (.builtin "getset_descriptor.__get__"))) &&
  (decide (PySem.W.takesIn K (.builtin "object.__class__") = some true) && (decide (PySem.W.mroIn K (He.ga K c) (.type "object") = some true) && PySem.W.hasDictIn K (He.ga K c))))))))
theorem xciB_ok {c : Str} {K : PySem.W.Frag} (h : xciB c K = true) : XcI K (He.ga K c) := by
  unfold xciB at h
  simp only [Bool.and_eq_true] at h
  obtain ⟨h1, h2, h3, h4, h5, h6, h7, h8, h9⟩ := h
  exact ⟨h1, of_decide_eq_true h2, of_decide_eq_true h3, of_decide_eq_true h4, of_decide_eq_true h5, of_decide_eq_true h6, of_decide_eq_true h7, of_decide_eq_true h8, h9⟩
theorem ext_at {P : Program} {w : World} {H : Hp} {h : Heap} {a C : Addr} {d : Option Addr} (hok : HOk P w H h) (e : H a = some (ExcHO C d a)) : ∃ (oe : Obj) (vs : Array Value), h.get? a = some oe ∧ Zc (.ref C) d oe ∧ oe.data = .fields vs := by
  have x : ObjOk P w H h a (.ext fun h => ∃ (oe : Obj) (vs : Array Value), h.get? a = some oe ∧ Zc (.ref C) d oe ∧ oe.data = .fields vs) := hok a _ e
  exact x.1
/-- the error's object, as an instance -/
theorem exc_inst {P : Program} {w : World} {H : Hp} {h : Heap} {a C : Addr} {d : Option Addr} (hok : HOk P w H h) (e : H a = some (ExcHO C d a)) (hd : d = none ∨ ∃ dd fs, d = some dd ∧ H dd = some (.xd fs)) : ∃ oe od, PySem.W.InstAt h a oe C od := by
  obtain ⟨oe, vs, e1, z, e2⟩ := ext_at hok e
  have nc : PySem.W.notCls oe = true := by unfold PySem.W.notCls; rw [e2] <;> rfl
  rcases hd with rfl | ⟨dd, fs, rfl, e3⟩
  · exact ⟨oe, none, e1, z.1, nc, by rw [z.2]; trivial⟩
  · have x : ObjOk P w H h dd (.xd fs) := hok dd _ e3
    obtain ⟨mA, hns, _⟩ := x
    obtain ⟨od, ho, _⟩ := lookIn_ns hns
    exact ⟨oe, some od, e1, z.1, nc, by rw [z.2]; exact ho⟩
def rIsX (K : PySem.W.Frag) : List V → Hp → VK → Prop := fun xs H Q => ∃ (a C : Addr) (d : Option Addr) (c : V) (u : Value) (b : Bool), xs = [.ref a, c] ∧ H a = some (ExcHO C d a) ∧ (d = none ∨ ∃ dd fs, d = some dd ∧ H dd = some (.xd fs)) ∧ ClsV c u ∧ XcI K C ∧ PySem.W.kitOne K (.ref C) u = some b ∧ Q (.bl b) H
theorem call_isX {X : Cx} : CallR X (.builtin "isinstance") (rIsX X.K) := by
  intro pins s σ H xs us Q I r h
  obtain ⟨a, C, d, c, u, b, rfl, ea, hd, k, T, e, q⟩ := h
  obtain ⟨u1, u2, rfl, r1, r2⟩ := vals2 r
  have e2 := k.eq r2
  subst e2
  cases (show u1 = Value.ref a from r1)
  obtain ⟨oe, od, J⟩ := exc_inst I.hok ea hd
  exact PySem.W.kia_one (PySem.W.kitx_exc T.cl T.ga T.gg T.sb T.ha T.hn T.tk T.mr) I.kIn J e (fun z => nomatch z) fun tk => ⟨.bl b, H, I.tok tk, rfl, q⟩
def excN : D → Option Str
  | .nd (.exc _ c _) _ => some c
  | _ => none
def isiX (nb : String → Option Bool) (ob xb : Str → Option Bool) (d : D) : Option Bool := match excN d with
  | some c => xb c
  | none => isiD nb ob d
def eIsX (nb : String → Option Bool) (ob xb : Str → Option Bool) (f : En → Ot D) : En → Ot D := fun ρ => (f ρ).bind fun d => .of ((isiX nb ob xb d).map .bl)
theorem exc_rep {K : PySem.W.Frag} {cm : Cm} {H : Hp} {Z : Zn} {d : D} {v : V} {F : List Addr} {c : Str} (r : Rep K cm H Z d v F) (e : excN d = some c) : ∃ a dx, v = .ref a ∧ H a = some (ExcHO (cm c) dx a) ∧ (dx = none ∨ ∃ dd fs, dx = some dd ∧ H dd = some (.xd fs)) := by
  unfold excN at e
  split at e
  · cases e
    obtain ⟨a, vs, Fs, rfl, ⟨⟨dx, h1, h2⟩, _⟩, _⟩ := r
    refine ⟨a, dx, rfl, h1, ?_⟩
    cases dx with
    | none => exact .inl rfl
    | some dd => exact .inr ⟨dd, _, rfl, h2⟩
  · cases e
section
variable {X : Cx} {cm : Cm} {W : WX} {a c e : Expr} {f : En → Ot D} {pos p : Pos}
theorem s_isX {nb : String → Option Bool} {ob xb : Str → Option Bool} {cv : V} {u : Value} (hn : ∀ n b, nb n = some b → PySem.W.kitOne X.K (.type n) u = some b) (ho : ∀ c b, ob c = some b → PySem.W.kitOne X.K (.ref (cm c)) u = some b ∧ InsK X.K (cm c))
    (hx : ∀ c b, xb c = some b → PySem.W.kitOne X.K (.ref (cm c)) u = some b ∧ XcI X.K (cm c))
    (hcv : ClsV cv u) (hg : Gl X "isinstance") (hm : X.mg "isinstance" = none) (hv : bootBuiltins "isinstance" = some (.builtin "isinstance")) (ha : SE X cm W a f) (hc : PE X c (tC cv))
    (he : starEach [a, c] X.env = (false, eval a X.env) :: starEach [c] X.env := by rfl) (he2 : starEach [c] X.env = (false, eval c X.env) :: starEach [] X.env := by rfl) (hpl : (backTo pos (starEach [c] X.env)).any (·.1) = false := by rfl) :
    SE X cm W (.Call (.Name "isinstance" p) [a, c] [] pos) (eIsX nb ob xb f) :=
  PE.imp (pe_callB (CallR.or2 call_isi call_isX) hg hm hv (pa_cons ha (pa_cons hc pa_nil he2) he) (by decide) (by decide) he hpl) fun σ H Q q0 => by
    obtain ⟨Z, ρ, Fs, ok, q0⟩ := q0
    unfold eIsX at q0
    refine tP_bind ok (fun q => ?_) (fun d q v H1 Z1 F r1 => ?_) (fun x q => ?_)
    · rw [q] at q0; exact q0
    · rw [q, Ot.bind_ok] at q0
      cases q2 : isiX nb ob xb d with
      | none => rw [q2] at q0; exact q0.elim
      | some b =>
        rw [q2] at q0
        unfold isiX at q2
        cases q3 : excN d with
        | some c =>
          rw [q3] at q2
          obtain ⟨a, dx, rfl, h1, h2⟩ := exc_rep r1.rep q3
          obtain ⟨k1, k2⟩ := hx c b q2
          exact .inr ⟨a, _, dx, cv, u, b, rfl, h1, h2, hcv, k2, k1, q0 (.bl b) H1 Z1 [] (.atom r1.ext rep_bl)⟩
        | none =>
          rw [q3] at q2
          obtain ⟨t, h1, h2⟩ := isi_ok hn ho r1.rep q2
          exact .inl ⟨v, cv, t, u, b, rfl, hcv, h1, h2, q0 (.bl b) H1 Z1 [] (.atom r1.ext rep_bl)⟩
    · rw [q] at q0; exact q0
end
/-! ### e.f -/
def pFldX (cs xs : List Str) (n : Str) : List D → Option D
  | [.nd (.exc _ c fs) es] => if c ∈ xs then (fs.findIdx? (fun q => decide (q = n))).bind fun j => es[j]? else none
  | ds => pFld cs n ds
def rFldX (K : PySem.W.Frag) (n : Str) : V → Hp → VK → Prop := fun x H1 Q => rFld K n x H1 Q ∨ ∃ a C dd fs v, x = .ref a ∧ H1 a = some (ExcHO C (some dd) a) ∧ H1 dd = some (.xd fs) ∧ XcI K C ∧ PySem.W.findIn K (.ref C) n = some none ∧ fs.lookup n = some v ∧ Q v H1
section
variable {X : Cx} {o : Expr} {ta : TE} {n : Str} {pos : Pos}
theorem pe_fldX (he : PE X o ta) (hb : attributeBase o n X.env (eval o X.env) = eval o X.env) : PE X (.Attribute o n pos) (fun σ H Q => ta σ H fun x H1 => rFldX X.K n x H1 Q) := by
  refine ⟨fun pins s σ H Q I h => attr_of hb (thn (he.run pins s σ H _ I h) fun u s1 out => ?_)⟩
  obtain ⟨x, H1, I1, rx, q | ⟨a, C, dd, fs, v, rfl, ea, ed, T, hno, l, q⟩⟩ := out
  · obtain ⟨a, C, dx, fs, v, rfl, ea, c, nn, l, q⟩ := q
    obtain rfl : u = Value.ref a := rx
    exact getattr_ok I1 ea c nn l fun u' s2 I2 ru => ⟨v, H1, I2, ru, q⟩
  · obtain rfl : u = Value.ref a := rx
    obtain ⟨oe, vs, e1, z, e2⟩ := ext_at I1.hok ea
    have x : ObjOk X.prog X.w H1 s1.heap dd (.xd fs) := I1.hok dd _ ed
    obtain ⟨mA, hns, hr⟩ := x
    obtain ⟨od, ho, hl⟩ := lookIn_ns hns
    obtain ⟨u, hu, ru⟩ := RelO.some_of (v := v) (o := mA n) (l ▸ hr n)
    have J : PySem.W.InstAt s1.heap a oe C (some od) := ⟨e1, z.1, (by unfold PySem.W.notCls; rw [e2] <;> rfl), (by rw [z.2]; exact ho)⟩
    exact HandSPX.exc_get I1.kIn J T.ga T.gg T.sb (PySem.W.findObj_own T.hd hno rfl (by rw [hl, hu])) (handed_of ru) ⟨v, H1, I1.tok _, ru, q⟩
end
theorem zip_lookup {α : Type} {n : Str} : ∀ {fs : List Str} {vs : List α} {j : Nat} {v : α}, fs.findIdx? (fun q => decide (q = n)) = some j → vs[j]? = some v → (fs.zip vs).lookup n = some v
  | [], _, _, _, e, _ => by simp at e
  | f :: fs, [], j, v, _, e => by simp at e
  | f :: fs, y :: vs, j, v, e1, e2 => by
    rw [List.findIdx?_cons] at e1
    rw [List.zip_cons_cons, List.lookup]
    by_cases h : f = n
    · subst h
      simp at e1
      subst e1
      simpa using e2
    · have h2 : (n == f) = false := by simpa using fun z => h z.symm
      rw [h2]
      simp only [h, decide_false, Bool.false_eq_true, if_false] at e1
      cases q : fs.findIdx? (fun q => decide (q = n)) with
      | none => rw [q] at e1; simp at e1
      | some k =>
        rw [q] at e1
        simp at e1
        subst e1
        exact zip_lookup q (by simpa using e2)
theorem ok_fldX {K : PySem.W.Frag} {cm : Cm} {cs xs : List Str} {n : Str} (hc : ∀ c ∈ cs, Cls K (cm c) ∧ NoAttr K (cm c) n) (hx : ∀ c ∈ xs, XcI K (cm c) ∧ PySem.W.findIn K (.ref (cm c)) n = some none) : OkPr K cm (r1L (rFldX K n)) (pFldX cs xs n) := fun H Z ds vs Fs d dm rl nd nf h Q q => by
  unfold pFldX at h
  split at h
  · rename_i fl c fs es
    split at h
    · rename_i hcx
      cases e1 : fs.findIdx? (fun q => decide (q = n)) with
      | none => rw [e1] at h; cases h
      | some j =>
        rw [e1] at h
        have h : es[j]? = some d := h
        obtain ⟨v, F, rfl, rfl, a, us, Gs, rfl, ⟨⟨dx, h1, h2⟩, hlen, hz⟩, hl, rfl⟩ := repL1 rl
        obtain ⟨v, G, g1, g2, g3⟩ := hl.get h
        have l := zip_lookup e1 g1
        cases dx with
        | none =>
          have h2 : fs.zip us = [] := h2
          rw [h2] at l
          cases l
        | some dd =>
          obtain ⟨k1, k2⟩ := hx c hcx
          have sb : G.Sublist [ownA (.exc fl c fs) a ++ Gs.flatten].flatten := by
            simp only [List.flatten_cons, List.flatten_nil, List.append_nil]
            exact (flatten_get g2).trans (List.sublist_append_right _ _)
          exact ⟨_, rfl, .inr ⟨a, _, dd, _, v, rfl, h1, h2, k1, k2, l, q v H Z G (.same dm g3 (nd.sublist sb) (fun x hx => sb.subset hx) fun x hx => nf x (sb.subset hx))⟩⟩
    · cases h
  · obtain ⟨x, rfl, z⟩ := ok_fld hc H Z ds vs Fs d dm rl nd nf h Q q
    exact ⟨x, rfl, .inl z⟩
theorem s_fldX {X : Cx} {cm : Cm} {W : WX} {o : Expr} {f : En → Ot D} {n : Str} {pos : Pos} {cs xs : List Str} (hc : ∀ c ∈ cs, Cls X.K (cm c) ∧ NoAttr X.K (cm c) n) (hx : ∀ c ∈ xs, XcI X.K (cm c) ∧ PySem.W.findIn X.K (.ref (cm c)) n = some none) (ho : SE X cm W o f) (hb : attributeBase o n X.env (eval o X.env) = eval o X.env := by rfl) :
    SE X cm W (.Attribute o n pos) (ePr (pFldX cs xs n) [f]) := PE.imp (pe_fldX ho hb) fun σ H Q h => one_of (pr_end (ok_fldX hc hx) h)
end OB

namespace OB
open PySem PySem.Spec PyProof.Rows L2
/-! ### dicts of data -/
inductive HitsD (K : PySem.W.Frag) (H : Hp) (ls : List (Key × V)) : List (Key × V) → Bool → Prop
  | nil : HitsD K H ls [] true
  | miss {k : Key} {v : V} {r : List (Key × V)} : valV ls k = none → HitsD K H ls ((k, v) :: r) false
  | hit {k : Key} {v u : V} {r : List (Key × V)} {d e : PyData} {b : Bool} : valV ls k = some u → Dp K H v d → Dp K H u e → SeqAt.shaped d = true → SeqAt.shaped e = true → HitsD K H ls r b → HitsD K H ls ((k, v) :: r) (PyData.eqv d e && b)
theorem dK_at {P : Program} {w : World} {H : Hp} {h : Heap} {a : Addr} {ks : List (Key × V)} (hok : HOk P w H h) (e : Rd H a (.dK ks)) : (a == sysModules) = false ∧ ∃ vs, KV ks vs ∧ h.DictOf (mixKind P w) a vs := by
  rcases e with e | ⟨o, e⟩
  · obtain ⟨_, y, vs, r, d⟩ := (show ObjOk P w H h a (.dK ks) from hok a _ e)
    exact ⟨y, vs, r, d⟩
  · obtain ⟨_, _, y, vs, r, d⟩ := (show ObjOk P w H h a (.frz o (.dK ks)) from hok a _ e)
    exact ⟨y, vs, r, d⟩
section
variable {X : Cx} {pins : List (Addr × Obj)} {σ : L2.St} {H : Hp} {s : Shared}
theorem hitsD_run (I : Inv X pins σ H s) {A : Around} (hu : A.units + 64 < cLine) {ls : List (Key × V)} {vb : List (Key × Value)} (rb : KV ls vb) {ks : List (Key × V)} {r : Bool} (h : HitsD X.K H ls ks r) : ∀ {va : List (Key × Value)}, KV ks va → PySem.W.KeqHits A s vb va r := by
  induction h with
  | nil =>
    intro va ra
    cases ra
    exact .nil
  | miss hv =>
    intro va ra
    cases ra with
    | @cons p q ps qs h1 h2 =>
      obtain ⟨e1, e2⟩ := h1
      obtain ⟨k2, u2⟩ := q
      have e1 : _ = k2 := e1
      subst e1
      have rr := rb.val ‹Key›
      refine .miss ?_
      rw [hv] at rr
      revert rr
      generalize valueAt vb _ = z
      intro rr
      cases z with
      | none => rfl
      | some y => exact rr.elim
  | @hit k v u rest d e b hv hd he sd se _ ih =>
    intro va ra
    cases ra with
    | @cons p q ps qs h1 h2 =>
      obtain ⟨e1, e2⟩ := h1
      obtain ⟨k2, u2⟩ := q
      have e1 : k = k2 := e1
      subst e1
      have rr := rb.val k
      rw [hv] at rr
      obtain ⟨y, hy, ry⟩ := rr.some_of
      obtain ⟨as, r1⟩ := Dp.reads I d v u2 hd e2
      obtain ⟨bs, r2⟩ := Dp.reads I e u y he ry
      exact .hit hy (SeqAt.eqAt_reads d e A s u2 y as bs r1 r2 (SeqAt.canLay_of_shaped sd) (SeqAt.canLay_of_shaped se) (SeqAt.room_of_shaped sd hu)) (ih h2)
end
def rEqC (K : PySem.W.Frag) : R2 := fun x y H Q => ∃ a b ks ls r, x = .ref a ∧ y = .ref b ∧ Rd H a (.dK ks) ∧ Rd H b (.dK ls) ∧ (ks.length = ls.length → HitsD K H ls ks r) ∧ Q (.bl (ks.length == ls.length && r)) H
def rNeC (K : PySem.W.Frag) : R2 := fun x y H Q => ∃ a b ks ls r, x = .ref a ∧ y = .ref b ∧ Rd H a (.dK ks) ∧ Rd H b (.dK ls) ∧ (ks.length = ls.length → HitsD K H ls ks r) ∧ Q (.bl (!(ks.length == ls.length && r))) H
section
variable {X : Cx}
theorem op_eqC (hu : X.A.units + 70 < cLine) : OpR X (compareOp .Eq) (rEqC X.K) := by
  intro pins s σ H x y v u Q I rx ry h
  obtain ⟨a, b, ks, ls, r, rfl, rfl, ea, eb, hh, q⟩ := h
  obtain rfl : v = Value.ref a := rx
  obtain rfl : u = Value.ref b := ry
  obtain ⟨ya, va, ra, da⟩ := dK_at I.hok ea
  obtain ⟨yb, vb, rb, db⟩ := dK_at I.hok eb
  have l1 := ra.length
  have l2 := rb.length
  refine PySem.W.keq_eq (knd := mixKind X.prog X.w) (r := r) ya yb da db (by omega) (fun e => hitsD_run I (A := X.A.in1) (by show X.A.units + 1 + 64 < cLine; omega) rb (hh (by omega)) ra) ?_
  rw [← l1, ← l2]
  exact ⟨.bl _, H, I, rfl, q⟩
theorem op_neC (hu : X.A.units + 70 < cLine) : OpR X (compareOp .NotEq) (rNeC X.K) := by
  intro pins s σ H x y v u Q I rx ry h
  obtain ⟨a, b, ks, ls, r, rfl, rfl, ea, eb, hh, q⟩ := h
  obtain rfl : v = Value.ref a := rx
  obtain rfl : u = Value.ref b := ry
  obtain ⟨ya, va, ra, da⟩ := dK_at I.hok ea
  obtain ⟨yb, vb, rb, db⟩ := dK_at I.hok eb
  have l1 := ra.length
  have l2 := rb.length
  refine PySem.W.keq_ne (knd := mixKind X.prog X.w) (r := r) ya yb da db (by omega) (fun e => hitsD_run I (A := X.A.in1) (by show X.A.units + 1 + 64 < cLine; omega) rb (hh (by omega)) ra) ?_
  rw [← l1, ← l2]
  exact ⟨.bl _, H, I, rfl, q⟩
end
/-! ### equal, nested, or the very same -/
def EqWR (K : PySem.W.Frag) (H : Hp) (E : V → V → Prop) (x y : V) : Prop := (∃ a b xs ys, x = .ref a ∧ y = .ref b ∧ SqL K H a xs ∧ SqL K H b ys ∧ Paired E xs ys) ∨ (∃ a b xs ys, x = .ref a ∧ y = .ref b ∧ SqT K H a xs ∧ SqT K H b ys ∧ Paired E xs ys) ∨
  ∃ a b ks ls, x = .ref a ∧ y = .ref b ∧ Rd H a (.dK ks) ∧ Rd H b (.dK ls) ∧ ks.length = ls.length ∧ ∀ p ∈ ks, ∃ u, valV ls p.1 = some u ∧ E p.2 u
def EqW (K : PySem.W.Frag) (H : Hp) : Nat → V → V → Prop
  | 0 => fun _ _ => False
  | n + 1 => fun x y => (x = y ∧ flatB x = true) ∨ (∃ a, x = .ref a ∧ y = .ref a) ∨ EqWR K H (EqW K H n) x y
section
variable {X : Cx} {pins : List (Addr × Obj)} {σ : L2.St} {H : Hp} {s : Shared}
theorem paired_at {P : V → V → Prop} {T : Value → Value → Prop} (k : ∀ x y v u, P x y → RelV x v → RelV y u → T v u) {xs ys : List V} (p : Paired P xs ys) : ∀ {us ws : List Value}, Vals xs us → Vals ys ws → ∀ j (h1 : j < us.length) (h2 : j < ws.length), T us[j] ws[j] := by
  induction p with
  | nil =>
    intro us ws r1 r2 j h1 h2
    cases r1
    exact absurd h1 (Nat.not_lt_zero j)
  | cons h _ ih =>
    intro us ws r1 r2 j h1 h2
    cases r1 with
    | cons a1 b1 => cases r2 with
      | cons a2 b2 => cases j with
        | zero => exact k _ _ _ _ h a1 a2
        | succ j => exact ih b1 b2 j (Nat.lt_of_succ_lt_succ h1) (Nat.lt_of_succ_lt_succ h2)
theorem all_true (n : Nat) : ((List.range n).all fun _ => true) = true := List.all_eq_true.mpr fun _ _ => rfl
theorem KV.mem {ks : List (Key × V)} {vs : List (Key × Value)} (r : KV ks vs) : ∀ {k : Key} {v : Value}, (k, v) ∈ vs → ∃ x, (k, x) ∈ ks ∧ RelV x v := by
  unfold KV at r
  induction r with
  | nil => intro k v h; cases h
  | @cons p q ps qs h _ ih =>
    intro k v hm
    rcases List.mem_cons.mp hm with e | e
    · subst e
      obtain ⟨e1, e2⟩ := h
      refine ⟨p.2, ?_, e2⟩
      have e1 : p.1 = k := e1
      rw [← e1]
      exact List.mem_cons_self
    · obtain ⟨x, hx, rx⟩ := ih e
      exact ⟨x, List.mem_cons_of_mem _ hx, rx⟩
theorem eqW_tree (I : Inv X pins σ H s) : ∀ (n : Nat) (x y : V) (v u : Value), EqW X.K H n x y → RelV x v → RelV y u → PySem.W.EqTree X.prog X.w s n v u true
  | 0, _, _, _, _, h, _, _ => (show False from h).elim
  | n + 1, x, y, v, u, h, rx, ry => by
    have ih := eqW_tree I n
    rcases h with ⟨rfl, f⟩ | ⟨a, rfl, rfl⟩ | h
    · exact .leaf fun _ _ => eqAt_same rx ry f
    · cases (show v = Value.ref a from rx)
      cases (show u = Value.ref a from ry)
      exact .same
    · rcases h with ⟨a, b, xs, ys, rfl, rfl, ha, hb, hp⟩ | ⟨a, b, xs, ys, rfl, rfl, ha, hb, hp⟩ | ⟨a, b, ks, ls, rfl, rfl, ha, hb, hl, hp⟩
      · cases (show v = Value.ref a from rx)
        cases (show u = Value.ref b from ry)
        by_cases e : a = b
        · subst e; exact .same
        obtain ⟨us, r1, p1, _⟩ := I.list ha
        obtain ⟨ws, r2, p2, _⟩ := I.list hb
        have hz : us.toArray.size = ws.toArray.size := by
          have := Paired.length hp
          have := r1.length
          have := r2.length
          simp
          omega
        have t := PySem.W.EqTree.lists (prog := X.prog) (w := X.w) (n := n) (e := fun _ => true) e p1.isList p2.isList hz fun j h1 h2 => by simpa using paired_at (T := fun v u => PySem.W.EqTree X.prog X.w s n v u true) ih hp r1 r2 j (by simpa using h1) (by simpa using h2)
        rw [all_true] at t
        exact t
      · cases (show v = Value.ref a from rx)
        cases (show u = Value.ref b from ry)
        by_cases e : a = b
        · subst e; exact .same
        obtain ⟨us, r1, p1, _⟩ := I.tuple ha
        obtain ⟨ws, r2, p2, _⟩ := I.tuple hb
        have hz : us.toArray.size = ws.toArray.size := by
          have := Paired.length hp
          have := r1.length
          have := r2.length
          simp
          omega
        have t := PySem.W.EqTree.tuples (prog := X.prog) (w := X.w) (n := n) (e := fun _ => true) e p1 p2 fun j h1 h2 => by simpa using paired_at (T := fun v u => PySem.W.EqTree X.prog X.w s n v u true) ih hp r1 r2 j (by simpa using h1) (by simpa using h2)
        rw [all_true, hz] at t
        simpa using t
      · cases (show v = Value.ref a from rx)
        cases (show u = Value.ref b from ry)
        by_cases e : a = b
        · subst e; exact .same
        obtain ⟨ya, va, ra, da⟩ := dK_at I.hok ha
        obtain ⟨yb, vb, rb, db⟩ := dK_at I.hok hb
        have l1 := ra.length
        have l2 := rb.length
        have val : ∀ k v, (k, v) ∈ va → ∃ y, valueAt vb k = some y ∧ PySem.W.EqTree X.prog X.w s n v y true := fun k v hm => by
          obtain ⟨x, hx, rx⟩ := KV.mem ra hm
          obtain ⟨u, e1, e2⟩ := hp _ hx
          have rr := rb.val k
          rw [e1] at rr
          obtain ⟨y, hy, ry⟩ := rr.some_of
          exact ⟨y, hy, ih _ _ _ _ e2 rx ry⟩
        have t := PySem.W.EqTree.dicts (prog := X.prog) (w := X.w) (n := n) (knd := mixKind X.prog X.w) (e := fun _ => true) e ya yb da db fun k v y hm hv => by
          obtain ⟨y', h1, h2⟩ := val k v hm
          rw [hv] at h1
          cases h1
          exact h2
        have e2 : (va.all fun p => (valueAt vb p.1).isSome && true) = true := List.all_eq_true.mpr fun p hp => by
          obtain ⟨y', h1, _⟩ := val p.1 p.2 hp
          rw [h1]; rfl
        rw [e2] at t
        have e3 : (va.length == vb.length) = true := by simp; omega
        rw [e3] at t
        exact t
end
def rEqW (K : PySem.W.Frag) : R2 := fun x y H Q => ∃ n, n ≤ 60 ∧ EqWR K H (EqW K H n) x y ∧ Q (.bl true) H
section
variable {X : Cx}
theorem op_eqW (hu : X.A.units + 64 < cLine) : OpR X (compareOp .Eq) (rEqW X.K) := by
  intro pins s σ H x y v u Q I rx ry h
  obtain ⟨n, hn, h, q⟩ := h
  have ih := eqW_tree I n
  rcases h with ⟨a, b, xs, ys, rfl, rfl, ha, hb, hp⟩ | ⟨a, b, xs, ys, rfl, rfl, ha, hb, hp⟩ | ⟨a, b, ks, ls, rfl, rfl, ha, hb, hl, hp⟩
  · obtain rfl : v = Value.ref a := rx
    obtain rfl : u = Value.ref b := ry
    obtain ⟨us, r1, p1, _⟩ := I.list ha
    obtain ⟨ws, r2, p2, _⟩ := I.list hb
    have hz : us.toArray.size = ws.toArray.size := by
      have := Paired.length hp
      have := r1.length
      have := r2.length
      simp
      omega
    refine PySem.W.eq_listsT (n := n) (e := fun _ => true) p1.isList p2.isList hz (fun j h1 h2 => by simpa using paired_at (T := fun v u => PySem.W.EqTree X.prog X.w s n v u true) ih hp r1 r2 j (by simpa using h1) (by simpa using h2)) (by omega) ?_
    rw [all_true]
    exact ⟨.bl true, H, I, rfl, q⟩
  · obtain rfl : v = Value.ref a := rx
    obtain rfl : u = Value.ref b := ry
    obtain ⟨us, r1, p1, _⟩ := I.tuple ha
    obtain ⟨ws, r2, p2, _⟩ := I.tuple hb
    have hz : us.toArray.size = ws.toArray.size := by
      have := Paired.length hp
      have := r1.length
      have := r2.length
      simp
      omega
    refine PySem.W.eq_tuplesT (n := n) (e := fun _ => true) p1 p2 (fun j h1 h2 => by simpa using paired_at (T := fun v u => PySem.W.EqTree X.prog X.w s n v u true) ih hp r1 r2 j (by simpa using h1) (by simpa using h2)) (by omega) ?_
    rw [all_true, hz]
    exact ⟨.bl true, H, I, by simp [L2.RelV], q⟩
  · obtain rfl : v = Value.ref a := rx
    obtain rfl : u = Value.ref b := ry
    obtain ⟨ya, va, ra, da⟩ := dK_at I.hok ha
    obtain ⟨yb, vb, rb, db⟩ := dK_at I.hok hb
    have l1 := ra.length
    have l2 := rb.length
    have val : ∀ k v, (k, v) ∈ va → ∃ y, valueAt vb k = some y ∧ PySem.W.EqTree X.prog X.w s n v y true := fun k v hm => by
      obtain ⟨x, hx, rx⟩ := KV.mem ra hm
      obtain ⟨u, e1, e2⟩ := hp _ hx
      have rr := rb.val k
      rw [e1] at rr
      obtain ⟨y, hy, ry⟩ := rr.some_of
      exact ⟨y, hy, ih _ _ _ _ e2 rx ry⟩
    refine PySem.W.eq_dictsT (n := n) (knd := mixKind X.prog X.w) (e := fun _ => true) ya yb da db (fun k v y hm hv => ?_) (by omega) ?_
    · obtain ⟨y', h1, h2⟩ := val k v hm
      rw [hv] at h1
      cases h1
      exact h2
    · have e2 : (va.all fun p => (valueAt vb p.1).isSome && true) = true := List.all_eq_true.mpr fun p hp => by
        obtain ⟨y', h1, _⟩ := val p.1 p.2 hp
        rw [h1]; rfl
      have e3 : (va.length == vb.length) = true := by simp; omega
      rw [e2, e3]
      exact ⟨.bl true, H, I, rfl, q⟩
end
/-! ### by data -/
/-- dicts of data -/
def hitsE (ls : List Key) (es : List D) : List (Key × D) → Option Bool
  | [] => some true
  | (k, d) :: r => match look ls es k with
    | none => some false
    | some e => (deepEq d e).bind fun b => (hitsE ls es r).map fun c => b && c
def dctEq : D → D → Option Bool
  | .nd (.dct _ ks) ds, .nd (.dct _ ls) es => if ks.length = ls.length then hitsE ls es (ks.zip ds) else some false
  | _, _ => none
/-- equal, all in all -/
def eqT : Nat → D → D → Bool
  | 0, _, _ => false
  | n + 1, x, y => match x, y with
    | .nd (.lst _) ds, .nd (.lst _) es => ds.length == es.length && (ds.zip es).all fun p => eqT n p.1 p.2
    | .nd .tup ds, .nd .tup es => ds.length == es.length && (ds.zip es).all fun p => eqT n p.1 p.2
    | .nd (.dct _ ks) ds, .nd (.dct _ ls) es => ks.length == ls.length && (ks.zip ds).all fun p => match look ls es p.1 with
      | some e => eqT n p.2 e
      | none => false
    | .nd (.adr _ a) _, .nd (.adr _ b) _ => a == b
    | x, y => atEq x y == some true
def isBox : D → Bool
  | .nd (.lst _) _ => true
  | .nd .tup _ => true
  | .nd (.dct _ _) _ => true
  | _ => false
def eqX (x y : D) : Option Bool := ((atEq x y).or (deepEq x y)).or ((dctEq x y).or (if isBox x && eqT 30 x y then some true else none))
def pEq2 : List D → Option D
  | [x, y] => (eqX x y).map .bl
  | _ => none
def pNe2 : List D → Option D
  | [x, y] => (((atEq x y).or (deepEq x y)).or (dctEq x y)).map fun b => .bl (!b)
  | _ => none
section
variable {K : PySem.W.Frag} {cm : Cm} {H : Hp} {Z : Zn}
theorem hitsE_ok {ls : List Key} {es : List D} {us : List V} {Gs : List (List Addr)} (hu : RepL K cm H Z es us Gs) (hl : ls.length = us.length) : ∀ {ks : List Key} {ds : List D} {vs : List V} {Fs : List (List Addr)} {b : Bool}, RepL K cm H Z ds vs Fs → hitsE ls es (ks.zip ds) = some b → HitsD K H (ls.zip us) (ks.zip vs) b
  | [], ds, vs, Fs, b, r, e => by
    rw [List.zip_nil_left] at e ⊢
    cases e
    exact .nil
  | k :: ks, [], vs, Fs, b, r, e => by
    obtain ⟨rfl, _⟩ := r
    cases e
    exact .nil
  | k :: ks, d :: ds, vs, Fs, b, r, e => by
    obtain ⟨v, vs', F, Fs', rfl, rfl, r1, r2⟩ := r
    rw [List.zip_cons_cons] at e ⊢
    unfold hitsE at e
    have lk := look_rep (ks := ls) hu k
    cases q : look ls es k with
    | none =>
      rw [q] at e
      cases e
      refine .miss ?_
      rw [look_valV hl]
      have := lk.1
      rw [q] at this
      cases q2 : look ls us k with
      | none => rfl
      | some z => rw [q2] at this; cases this
    | some e' =>
      rw [q] at e
      dsimp only at e
      obtain ⟨u, G, i, l1, _, _, l2⟩ := lk.2 e' q
      cases q2 : deepEq d e' with
      | none => rw [q2] at e; cases e
      | some b1 =>
        rw [q2] at e
        have e : (hitsE ls es (ks.zip ds)).map (fun c => b1 && c) = some b := e
        cases q3 : hitsE ls es (ks.zip ds) with
        | none => rw [q3] at e; cases e
        | some b2 =>
          rw [q3] at e
          cases e
          unfold deepEq at q2
          cases p1 : toPy d with
          | none => rw [p1] at q2; cases q2
          | some a =>
            cases p2 : toPy e' with
            | none => rw [p1, p2] at q2; cases q2
            | some c =>
              rw [p1, p2] at q2
              have q2 : (if SeqAt.shaped a && SeqAt.shaped c then some (PyData.eqv a c) else none) = some b1 := q2
              split at q2
              · rename_i sh
                rw [Bool.and_eq_true] at sh
                cases q2
                exact .hit (by rw [look_valV hl]; exact l1) (dp_of d r1 p1) (dp_of e' l2 p2) sh.1 sh.2 (hitsE_ok hu hl r2 q3)
              · cases q2
theorem dctEq_ok {x y : D} {v u : V} {F G : List Addr} {b : Bool} (h1 : Rep K cm H Z x v F) (h2 : Rep K cm H Z y u G) (e : dctEq x y = some b) : ∃ a c ks ls r, v = .ref a ∧ u = .ref c ∧ Rd H a (.dK ks) ∧ Rd H c (.dK ls) ∧ (ks.length = ls.length → HitsD K H ls ks r) ∧ (ks.length == ls.length && r) = b := by
  unfold dctEq at e
  split at e
  · rename_i f ks ds f2 ls es
    obtain ⟨a, vs, Fs, rfl, hc, hl, rfl⟩ := h1
    obtain ⟨c, us, Gs, rfl, hc2, hl2, rfl⟩ := h2
    have z1 : (ks.zip vs).length = ks.length := by rw [List.length_zip]; have := hc.2.2.1; omega
    have z2 : (ls.zip us).length = ls.length := by rw [List.length_zip]; have := hc2.2.2.1; omega
    split at e
    · rename_i hlen
      refine ⟨a, c, _, _, b, rfl, rfl, hc.2.1, hc2.2.1, fun _ => hitsE_ok hl2 hc2.2.2.1 hl e, ?_⟩
      rw [z1, z2, hlen]; simp
    · rename_i hlen
      cases e
      refine ⟨a, c, _, _, true, rfl, rfl, hc.2.1, hc2.2.1, fun z => ?_, ?_⟩
      · rw [z1, z2] at z; exact absurd z hlen
      · rw [z1, z2]; simp [hlen]
  · cases e
theorem pairs_ok {n : Nat} (ih : ∀ (x y : D) (v u : V) (F G : List Addr), Rep K cm H Z x v F → Rep K cm H Z y u G → eqT n x y = true → EqW K H n v u) : ∀ {ds es : List D} {vs us : List V} {Fs Gs : List (List Addr)}, RepL K cm H Z ds vs Fs → RepL K cm H Z es us Gs → ds.length = es.length → ((ds.zip es).all fun p => eqT n p.1 p.2) = true → Paired (EqW K H n) vs us
  | [], [], _, _, _, _, r1, r2, _, _ => by
    obtain ⟨rfl, _⟩ := r1
    obtain ⟨rfl, _⟩ := r2
    exact .nil
  | d :: ds, e :: es, _, _, _, _, r1, r2, l, h => by
    obtain ⟨v, vs', F, Fs', rfl, rfl, a1, a2⟩ := r1
    obtain ⟨u, us', G, Gs', rfl, rfl, b1, b2⟩ := r2
    rw [List.zip_cons_cons, List.all_cons, Bool.and_eq_true] at h
    exact .cons (ih _ _ _ _ _ _ a1 b1 h.1) (pairs_ok ih a2 b2 (by simpa using l) h.2)
  | [], _ :: _, _, _, _, _, _, _, l, _ => by simp at l
  | _ :: _, [], _, _, _, _, _, _, l, _ => by simp at l
theorem atEq_flat {x y : D} {v u : V} {F G : List Addr} (h1 : Rep K cm H Z x v F) (h2 : Rep K cm H Z y u G) (e : atEq x y = some true) : v = u ∧ flatB v = true := by
  unfold atEq at e
  split at e <;> first | (cases e; done) | skip
  all_goals (obtain ⟨rfl, rfl⟩ := h1; obtain ⟨rfl, rfl⟩ := h2; first | (simp at e; subst e; exact ⟨rfl, rfl⟩) | exact ⟨rfl, rfl⟩)
theorem eqT_box {n : Nat} (ih : ∀ (x y : D) (v u : V) (F G : List Addr), Rep K cm H Z x v F → Rep K cm H Z y u G → eqT n x y = true → EqW K H n v u) {x y : D} {v u : V} {F G : List Addr} (h1 : Rep K cm H Z x v F) (h2 : Rep K cm H Z y u G) (e : eqT (n + 1) x y = true) (hb : isBox x = true) : EqWR K H (EqW K H n) v u := by
  unfold eqT at e
  split at e
  · obtain ⟨a, vs, Fs, rfl, hc, hl, rfl⟩ := h1
    obtain ⟨c, us, Gs, rfl, hc2, hl2, rfl⟩ := h2
    rw [Bool.and_eq_true] at e
    exact .inl ⟨a, c, vs, us, rfl, rfl, rdL hc.2.1, rdL hc2.2.1, pairs_ok ih hl hl2 (by simpa using e.1) e.2⟩
  · obtain ⟨a, vs, Fs, rfl, hc, hl, rfl⟩ := h1
    obtain ⟨c, us, Gs, rfl, hc2, hl2, rfl⟩ := h2
    rw [Bool.and_eq_true] at e
    exact .inr (.inl ⟨a, c, vs, us, rfl, rfl, hc, hc2, pairs_ok ih hl hl2 (by simpa using e.1) e.2⟩)
  · rename_i f ks ds f2 ls es
    obtain ⟨a, vs, Fs, rfl, hc, hl, rfl⟩ := h1
    obtain ⟨c, us, Gs, rfl, hc2, hl2, rfl⟩ := h2
    rw [Bool.and_eq_true] at e
    have z1 : (ks.zip vs).length = ks.length := by rw [List.length_zip]; have := hc.2.2.1; omega
    have z2 : (ls.zip us).length = ls.length := by rw [List.length_zip]; have := hc2.2.2.1; omega
    refine .inr (.inr ⟨a, c, _, _, rfl, rfl, hc.2.1, hc2.2.1, by rw [z1, z2]; simpa using e.1, fun p hp => ?_⟩)
    obtain ⟨i, hi, hp⟩ := List.mem_iff_getElem.mp hp
    rw [List.getElem_zip] at hp
    rw [List.length_zip] at hi
    have hd : i < ds.length := by have := hl.len.1; omega
    obtain ⟨v, F, g1, _, g3⟩ := hl.get (i := i) (d := ds[i]) (by simp [hd])
    have hi2 : i < vs.length := by omega
    rw [List.getElem?_eq_getElem hi2] at g1
    have g1 : vs[i] = v := Option.some.inj g1
    subst hp
    have e2 := List.all_eq_true.mp e.2 (ks[i]'(by omega), ds[i]) (by
      rw [List.mem_iff_getElem]
      exact ⟨i, by rw [List.length_zip]; omega, by rw [List.getElem_zip]⟩)
    dsimp only at e2 ⊢
    cases q : look ls es (ks[i]'(by omega)) with
    | none => rw [q] at e2; cases e2
    | some e' =>
      rw [q] at e2
      obtain ⟨u, G, j, l1, _, _, l2⟩ := (look_rep (ks := ls) hl2 _).2 e' q
      exact ⟨u, by rw [look_valV hc2.2.2.1]; exact l1, by rw [g1]; exact ih _ _ _ _ _ _ g3 l2 e2⟩
  · cases hb
  · rename_i h4 h5 h6 h7
    exfalso
    unfold isBox at hb
    split at hb
    · rename_i f ds
      cases y with
      | nd k es => cases k <;> first | exact h4 _ _ _ _ rfl rfl | (simp [atEq] at e)
      | _ => simp [atEq] at e
    · rename_i ds
      cases y with
      | nd k es => cases k <;> first | exact h5 _ _ rfl rfl | (simp [atEq] at e)
      | _ => simp [atEq] at e
    · rename_i f ks ds
      cases y with
      | nd k es => cases k <;> first | exact h6 _ _ _ _ _ _ rfl rfl | (simp [atEq] at e)
      | _ => simp [atEq] at e
    · cases hb
theorem eqT_ok : ∀ (n : Nat) (x y : D) (v u : V) (F G : List Addr), Rep K cm H Z x v F → Rep K cm H Z y u G → eqT n x y = true → EqW K H n v u
  | 0, _, _, _, _, _, _, _, _, e => nomatch e
  | n + 1, x, y, v, u, F, G, h1, h2, e => by
    have ih := eqT_ok n
    by_cases hb : isBox x = true
    · exact .inr (.inr (eqT_box ih h1 h2 e hb))
    · unfold eqT at e
      split at e
      · exact absurd rfl hb
      · exact absurd rfl hb
      · exact absurd rfl hb
      · obtain ⟨a, vs, Fs, rfl, hc, hl, rfl⟩ := h1
        obtain ⟨c, us, Gs, rfl, hc2, hl2, rfl⟩ := h2
        have e := eq_of_beq e
        exact .inr (.inl ⟨a, rfl, by rw [hc2.2.1, ← e, ← hc.2.1]⟩)
      · exact .inl (atEq_flat h1 h2 (by simpa using e))
def rEq2 (K : PySem.W.Frag) : R2 := fun x y H Q => rEqQ K x y H Q ∨ rEqC K x y H Q ∨ rEqW K x y H Q
def rNe2 (K : PySem.W.Frag) : R2 := fun x y H Q => rNeQ K x y H Q ∨ rNeC K x y H Q
theorem op_eq2 {X : Cx} (hu : X.A.units + 70 < cLine) : OpR X (compareOp .Eq) (rEq2 X.K) := (op_eqQ (by omega)).or ((op_eqC hu).or (op_eqW (by omega)))
theorem op_ne2 {X : Cx} (hu : X.A.units + 70 < cLine) : OpR X (compareOp .NotEq) (rNe2 X.K) := (op_neQ (by omega)).or (op_neC hu)
theorem ok_eq2 : OkPr K cm (r2L (rEq2 K)) pEq2 := by
  intro H Z ds vs Fs d dm rp nd nf e Q q
  unfold pEq2 at e
  split at e
  · rename_i x y
    obtain ⟨v, u, F, G, rfl, rfl, h1, h2⟩ := repL2 rp
    unfold eqX at e
    cases q1 : (atEq x y).or (deepEq x y) with
    | some b =>
      rw [q1] at e
      obtain ⟨v', u', e', z⟩ := ok_eq H Z [x, y] [v, u] [F, G] d dm rp nd nf (by unfold pEq; dsimp only; rw [q1]; exact e) Q q
      cases e'
      exact ⟨v, u, rfl, .inl z⟩
    | none =>
      rw [q1] at e
      cases q2 : dctEq x y with
      | some b =>
        rw [q2] at e
        cases e
        obtain ⟨a, c, ks, ls, r, rfl, rfl, k1, k2, k3, k4⟩ := dctEq_ok h1 h2 q2
        exact ⟨_, _, rfl, .inr (.inl ⟨a, c, ks, ls, r, rfl, rfl, k1, k2, k3, by rw [k4]; exact q _ H Z [] (.atom (.refl dm) rep_bl)⟩)⟩
      | none =>
        rw [q2] at e
        have e : (if isBox x && eqT 30 x y then some true else none).map D.bl = some d := e
        split at e
        · rename_i hb
          rw [Bool.and_eq_true] at hb
          cases e
          exact ⟨v, u, rfl, .inr (.inr ⟨29, by omega, eqT_box (eqT_ok 29) h1 h2 hb.2 hb.1, q _ H Z [] (.atom (.refl dm) rep_bl)⟩)⟩
        · cases e
  · cases e
theorem ok_ne2 : OkPr K cm (r2L (rNe2 K)) pNe2 := by
  intro H Z ds vs Fs d dm rp nd nf e Q q
  unfold pNe2 at e
  split at e
  · rename_i x y
    obtain ⟨v, u, F, G, rfl, rfl, h1, h2⟩ := repL2 rp
    cases q1 : (atEq x y).or (deepEq x y) with
    | some b =>
      rw [q1] at e
      obtain ⟨v', u', e', z⟩ := ok_ne H Z [x, y] [v, u] [F, G] d dm rp nd nf (by unfold pNe; dsimp only; rw [q1]; exact e) Q q
      cases e'
      exact ⟨v, u, rfl, .inl z⟩
    | none =>
      rw [q1] at e
      cases q2 : dctEq x y with
      | some b =>
        rw [q2] at e
        cases e
        obtain ⟨a, c, ks, ls, r, rfl, rfl, k1, k2, k3, k4⟩ := dctEq_ok h1 h2 q2
        exact ⟨_, _, rfl, .inr ⟨a, c, ks, ls, r, rfl, rfl, k1, k2, k3, by rw [k4]; exact q _ H Z [] (.atom (.refl dm) rep_bl)⟩⟩
      | none => rw [q2] at e; cases e
  · cases e
end
end OB

namespace OB
open PySem PySem.Spec PyProof.Rows L2
theorem PS.or {X : Cx} {e : Stmt} {t t' : TS} (h : PS X e t) (h' : PS X e t') : PS X e (fun D σ H => t D σ H ∨ t' D σ H) := ⟨fun pins s σ H D I q => q.elim (h.run pins s σ H D I) (h'.run pins s σ H D I)⟩
section
variable {K : PySem.W.Frag} {cm : Cm} {W : WX} {P : List Nat}
/-- the turns of a walk -/
theorem for_fin {D0 : Ends} {σ : L2.St} {H : Hp} {Z : Zn} {ρ : En} {Fs : List (List Addr)} {g : TG} {S : List Nat} {t : D → En → Option En} {b : Mst} {J : It} {ds : List D} (ok1 : Ok K cm H σ ρ Fs Z) (q1 : FinS K cm W P D0 σ H Z Fs (forL t b ds ρ)) (hgo : OkTg K cm S g t) (hS : (S.all fun i => !P.contains i) = true) (w : Walks K cm J H Fs.flatten Z ds) :
    ∃ Wf : Nat → Nat → L2.St → Hp → Prop, (∃ m, Wf 0 m σ H) ∧ ∀ i m σ H, Wf i m σ H → (J.stop i H ∧ D0.nx σ H) ∨ (J.go i H ∧ ∃ N : L2.St → Hp → Prop, (∀ σ' H', N σ' H' → ∃ m', m' < m ∧ Wf (i + 1) m' σ' H') ∧ ∀ x H', J.yld i H x H' → g x σ H' fun σ2 H2 => tS K cm W P b { D0 with nx := N, ct := N, bk := D0.nx } σ2 H2) := by
  let Pv : Nat → L2.St → Hp → Prop := fun i σ2 H2 => ∃ Z2 ρ2 Fs2, Ok K cm H2 σ2 ρ2 Fs2 Z2 ∧ SStep P σ H Z Fs σ2 H2 Z2 Fs2 ∧ FinS K cm W P D0 σ2 H2 Z2 Fs2 (forL t b (ds.drop i) ρ2)
  have h0 : Pv 0 σ H := ⟨Z, ρ, Fs, ok1, .refl, by simpa using q1⟩
  refine ⟨fun i m σ2 H2 => m = ds.length - i ∧ i ≤ ds.length ∧ Pv i σ2 H2, ⟨ds.length, by simp, Nat.zero_le _, h0⟩, ?_⟩
  rintro i m σ2 H2 ⟨rfl, hi2, Z2, ρ2, Fs2, ok2, s2, q2⟩
  have kp : Kept H Fs.flatten H2 := s2.keep
  by_cases hlt : i < ds.length
  · refine .inr ⟨w.go i H2 kp hlt, Pv (i + 1), fun σ' H' p' => ⟨ds.length - (i + 1), by omega, rfl, hlt, p'⟩, fun x H3 y => ?_⟩
    obtain ⟨d, hd⟩ : ∃ d, ds[i]? = some d := ⟨_, List.getElem?_eq_getElem hlt⟩
    obtain ⟨gr3, rx⟩ := w.yld i H2 x H3 kp y d hd
    have drop_eq : ds.drop i = d :: ds.drop (i + 1) := by
      rw [List.drop_eq_getElem_cons hlt]
      rw [List.getElem?_eq_getElem hlt] at hd
      cases hd; rfl
    rw [drop_eq] at q2
    unfold forL at q2
    cases e2 : t d ρ2 with
    | none => rw [e2] at q2; exact q2.elim
    | some ρ3 =>
      rw [e2] at q2
      have ok3 := ok2.grow gr3
      have rx3 : Rep K cm H3 Z2 d x [] := rx.grow (.refl _) (fun a h => s2.f a h) (fun a h => by rw [s2.b]; exact h) fun a h => (ok1.t a h).elim
      refine hgo H3 Z2 d x σ2 ρ2 Fs2 ρ3 rx3 ok3.rep e2 _ fun σ3 Fs3 r3 sb _ kpr => ?_
      have ok4 : Ok K cm H3 σ3 ρ3 Fs3 Z2 := ⟨r3, ok3.dom, fun a h => ok3.mu a (sb.subset h), ok3.nd.sublist sb, fun a h => ok3.nz a (sb.subset h), ok3.t⟩
      have s3 : SStep P σ2 H2 Z2 Fs2 σ3 H3 Z2 Fs3 := ⟨.grow gr3, fun a h => .inl (sb.subset h), fun _ h => h, fun _ h => .inl h, rfl, fun j hj => kpr j fun hjS => by
        have := List.all_eq_true.mp hS j hjS
        rw [Bool.not_eq_true'] at this
        rw [List.contains_iff_mem.mpr hj] at this
        cases this⟩
      refine ⟨Z2, ρ3, Fs3, ok4, ?_⟩
      have q3 := q2.step s3
      dsimp only at q3
      cases e3 : b ρ3 with
      | none => rw [e3] at q3; exact q3
      | some r =>
        obtain ⟨o, ρ4⟩ := r
        rw [e3] at q3
        intro σ4 H4 Z4 Fs4 s4 ok5
        cases o with
        | nx => exact ⟨Z4, ρ4, Fs4, ok5, s2.trans (s3.trans s4), q3.step s4⟩
        | cnt => exact ⟨Z4, ρ4, Fs4, ok5, s2.trans (s3.trans s4), q3.step s4⟩
        | brk => exact (q3.step s4).at_ .refl ok5
        | ret dd => exact q3 σ4 H4 Z4 Fs4 s4 ok5
        | ex x => exact q3 σ4 H4 Z4 Fs4 s4 ok5
  · have ei : i = ds.length := by omega
    subst ei
    rw [List.drop_length] at q2
    exact .inl ⟨w.stop _ H2 kp (Nat.le_refl _), q2.at_ .refl ok2⟩
end
def noEx : Option (Out × En) → Option (Out × En)
  | some (.ex _, _) => none
  | r => r
def sForK (i : Nat) (π : Pi') (tg : D → En → Option En) (body : Mst) : Mst := fun ρ => match subD ρ i π with
  | some (d, _, .nd (.dct fl ks) _) => if allF (fun f => f != .own) d && fl != .own then noEx (forL tg body (ks.map keyDat) ρ) else none
  | _ => none
section
variable {K : PySem.W.Frag} {cm : Cm} {W : WX} {P : List Nat} {H : Hp} {σ : L2.St} {ρ : En} {Fs : List (List Addr)} {Z : Zn} {a : Addr} {kvs : List (Key × V)} {od : Obj}
theorem cell_lockO (e : H a = some (.dK kvs)) : CellMove K cm H (L2.upd H a (.frz od (.dK kvs))) Z Z id (fun b => b ≠ a) := fun b k vs h ho => by
  have ne : ∀ u, H b = some u → (∀ kvs, u ≠ .dK kvs) → b ≠ a := fun u hu n q => by subst q; rw [e] at hu; cases hu; exact n _ rfl
  cases k with
  | tup => exact h.imp (rd_lock e) id
  | lst fl => exact ⟨fun q => by rw [upd_ne (ho (by subst q; rfl))]; exact h.1 q, rd_lock e h.2.1, h.2.2⟩
  | dct fl ks => exact ⟨fun q => by rw [upd_ne (ho (by subst q; rfl))]; exact h.1 q, rd_lock e h.2.1, h.2.2⟩
  | obj fl c fs =>
    obtain ⟨⟨dx, e2⟩, l, o⟩ := h
    exact ⟨⟨dx, by rw [upd_ne (ne _ e2 fun _ q => nomatch q)]; exact e2⟩, l, o⟩
  | adr fl b' =>
    obtain ⟨h1, h2, h3, ⟨us, h4⟩, h5⟩ := h
    exact ⟨h1, h2, h3, ⟨us, rd_lock e h4⟩, h5⟩
  | exc fl c fs =>
    obtain ⟨⟨dx, e2, q⟩, l, o⟩ := h
    refine ⟨⟨dx, by rw [upd_ne (ne _ e2 fun _ q => nomatch q)]; exact e2, ?_⟩, l, o⟩
    cases dx with
    | none => exact q
    | some d =>
      have q : H d = some (.xd (fs.zip vs)) := q
      have nd : d ≠ a := fun z => by subst z; rw [e] at q; cases q
      exact (upd_ne nd).trans q
theorem Ok.lockD (ok : Ok K cm H σ ρ Fs Z) (e : H a = some (.dK kvs)) (n : a ∉ Fs.flatten) : Ok K cm (L2.upd H a (.frz od (.dK kvs))) σ ρ Fs Z := by
  refine ⟨⟨ok.rep.lσ, ok.rep.lF, fun i d h => ?_⟩, ⟨fun x h => ?_, fun x h => ?_, fun x h => (ok.t x h).elim⟩, fun x h => ?_, ok.nd, ok.nz, ok.t⟩
  · obtain ⟨v, F, e1, e2, r⟩ := ok.rep.get i d h
    exact ⟨v, F, e1, e2, r.stay (cell_lockO e) fun x hx z => n (by subst z; exact flat_mem e2 hx)⟩
  · by_cases q : x = a
    · subst q; rw [upd_same]; simp
    · rw [upd_ne q]; exact ok.dom.f x h
  · by_cases q : x = a
    · subst q; rw [upd_same]; simp
    · rw [upd_ne q]; exact ok.dom.b x h
  · rw [upd_ne (fun z => n (by subst z; exact h))]; exact ok.mu x h
theorem Ok.unlockD (ok : Ok K cm H σ ρ Fs Z) (e : H a = some (.frz od (.dK kvs))) : Ok K cm (L2.upd H a (.dK kvs)) σ ρ Fs Z := by
  refine ⟨⟨ok.rep.lσ, ok.rep.lF, fun i d h => ?_⟩, ⟨fun x h => ?_, fun x h => ?_, fun x h => (ok.t x h).elim⟩, fun x h => ?_, ok.nd, ok.nz, ok.t⟩
  · obtain ⟨v, F, e1, e2, r⟩ := ok.rep.get i d h
    exact ⟨v, F, e1, e2, r.stay (cell_unlock e) fun _ _ => trivial⟩
  · by_cases q : x = a
    · subst q; rw [upd_same]; simp
    · rw [upd_ne q]; exact ok.dom.f x h
  · by_cases q : x = a
    · subst q; rw [upd_same]; simp
    · rw [upd_ne q]; exact ok.dom.b x h
  · by_cases q : x = a
    · subst q; rw [upd_same]; trivial
    · rw [upd_ne q]; exact ok.mu x h
end
section
variable {X : Cx} {cm : Cm} {W : WX} {P : List Nat} {i : Nat} {π : Pi'} {tg iter : Expr} {body : List Stmt} {g : TG} {S : List Nat} {t : D → En → Option En} {b : Mst} {pos : Pos}
theorem ss_forK (hp : PassesOwn (model X.prog X.w) X.A X.env X.xe) (hc : X.calm = true) (hi : SPP X cm iter i π) (hg : PG X tg g) (hgo : OkTg X.K cm S g t) (hS : (S.all fun i => !P.contains i) = true) (hb : SB X cm W P body b)
    (hs : ∀ x, foldedSetIterable iter X.env x = pure x := by intro _; rfl) : SS X cm W P (.For tg iter body [] pos) (sForK i π t b) :=
  PS.imp (PS.or (ps_lock (ps_for hp hc (pi_keys hi) hg hb hs)) (ps_for hp hc (pi_keys hi) hg hb hs)) fun D0 σ H q => by
    obtain ⟨Z, ρ, Fs, ok, q⟩ := q
    unfold sForK at q
    split at q
    rotate_left
    · exact q.elim
    rename_i d js fl ks es hpth
    split at q
    rotate_left
    · exact q.elim
    rename_i hall
    obtain ⟨h1, h2, h3⟩ := subD_eq hpth
    obtain ⟨v, F, hv, hF, rv⟩ := ok.rep.get i d h1
    obtain ⟨v0, F0, A, B, eF, r0, rc, _⟩ := Rep.focus js rv h3
    obtain ⟨a, us, Es, rfl, cell, _, _⟩ := r0
    have hl := cell.2.2.1
    rw [Bool.and_eq_true] at hall
    obtain ⟨hall, hfl⟩ := hall
    have hfl : fl ≠ .own := by simpa using hfl
    have q : ∃ p, forL t b (ks.map keyDat) ρ = some p ∧ (∀ x, p.1 ≠ .ex x) ∧ FinS X.K cm W P D0 σ H Z Fs (some p) := by
      revert q
      generalize forL t b (ks.map keyDat) ρ = r
      intro q
      cases r with
      | none => exact q.elim
      | some p =>
        obtain ⟨o, ρ1⟩ := p
        cases o with
        | ex x => exact q.elim
        | nx => exact ⟨_, rfl, (fun _ z => nomatch z), q⟩
        | brk => exact ⟨_, rfl, (fun _ z => nomatch z), q⟩
        | cnt => exact ⟨_, rfl, (fun _ z => nomatch z), q⟩
        | ret d => exact ⟨_, rfl, (fun _ z => nomatch z), q⟩
    obtain ⟨p, ep, nx, q⟩ := q
    have hz : Z.f a ∨ Z.b a := by
      have := cell.2.2.2
      cases fl with
      | own => exact absurd rfl hfl
      | frz => exact .inl this
      | bor => exact .inr this
      | tmp => exact (ok.t a this).elim
    have nF : a ∉ Fs.flatten := fun z => hz.elim (ok.nz a z).1 (ok.nz a z).2
    -- the run at a heap where the dict is locked
    have run : ∀ (Hl : Hp) (od : Obj) (D1 : Ends), Hl a = some (.frz od (.dK (ks.zip us))) → Ok X.K cm Hl σ ρ Fs Z → Reach X.K cm Hl (lendZ Z Fs) d v js (.ref a) → FinS X.K cm W P D1 σ Hl Z Fs (forL t b (ks.map keyDat) ρ) → tFor (iKeys (tPthP X.K cm i π)) g (tS X.K cm W P b) D1 σ Hl := fun Hl od D1 el okl rl ql => by
      refine ⟨lendZ Z Fs, ρ, Fs, d, js, _, v, .ref a, okl.pure, h1, h2, h3, hv, rl, fun H' Z' ex => ⟨a, od, rfl, .inl ⟨ks.zip us, ex.gr _ _ el, ?_⟩⟩⟩
      have ok2 := okl.ext ex
      exact for_fin ok2 (ql.step (.ext okl ex)) hgo hS (walk_keys (ex.gr _ _ el) hl nF)
    have lend : ∀ {H' : Hp}, CellMove X.K cm H' H' Z (lendZ Z Fs) id (fun _ => True) := cell_grow (.refl _) (fun _ h => h) (fun _ h => h) fun a h => (ok.t a h).elim
    rcases cell.2.1 with e | ⟨od, e⟩
    · refine .inl ⟨a, _, e, trivial, fun od => ?_⟩
      have el : L2.upd H a (.frz od (.dK (ks.zip us))) a = some (.frz od (.dK (ks.zip us))) := upd_same
      refine run _ od _ el (ok.lockD e nF) (Reach.moveN (fun b k vs h _ => lend b k vs h fun _ => trivial) js hall (Reach.moveN (cell_lock e) js hall rc)) ?_
      rw [ep]
      intro σ' H' Z' Fs' s ok'
      have e2 : H' a = some (.frz od (.dK (ks.zip us))) := s.keep a _ el nF
      have back : ∀ x, L2.upd H a (.frz od (.dK (ks.zip us))) x = none → H x = none := fun x hx => by
        by_cases z : x = a
        · subst z; rw [upd_same] at hx; cases hx
        · rwa [upd_ne z] at hx
      have st : SStep P σ H Z Fs σ' (L2.upd H' a (.dK (ks.zip us))) Z' Fs' := ⟨fun x o hx nx => by
        by_cases z : x = a
        · subst z; rw [e] at hx; cases hx; exact upd_same
        · rw [upd_ne z]; exact s.keep x o (by rw [upd_ne z]; exact hx) nx, fun x hx => (s.own x hx).imp id (back x), s.f, fun x hx => (s.fn x hx).imp id fun h => h.imp id (back x), s.b, s.prot⟩
      have fin := q σ' _ Z' Fs' st (ok'.unlockD e2)
      cases hp1 : p.1 with
      | nx => rw [hp1] at fin; exact ⟨e2, fin⟩
      | brk => rw [hp1] at fin; exact ⟨e2, fin⟩
      | cnt => rw [hp1] at fin; exact ⟨e2, fin⟩
      | ex x => exact absurd hp1 (nx x)
      | ret d =>
        rw [hp1] at fin
        intro v F r nd nz org
        exact ⟨e2, fin v F (r.stay (cell_unlock e2) fun _ _ => trivial) nd nz fun x hx => (org x hx).imp id (back x)⟩
    · exact .inr (run H od D0 e ok (Reach.moveN (fun b k vs h _ => lend b k vs h fun _ => trivial) js hall rc) (by rw [ep]; exact q))
end
end OB

namespace OB
open PySem PySem.Spec PyProof.Rows L2
/-! ### sorted -/
theorem perm_sorted {α : Type} {le : α → α → Prop} (anti : ∀ a b, le a b → le b a → a = b) : ∀ {l l' : List α}, l.Perm l' → l.Pairwise le → l'.Pairwise le → l = l'
  | [], l', p, _, _ => (p.nil_eq)
  | a :: l, [], p, _, _ => absurd p.symm.nil_eq (by simp)
  | a :: l, b :: l', p, h, h' => by
    rw [List.pairwise_cons] at h h'
    have e : a = b := by
      have ha : a ∈ b :: l' := p.mem_iff.mp List.mem_cons_self
      have hb : b ∈ a :: l := p.mem_iff.mpr List.mem_cons_self
      rcases List.mem_cons.mp ha with ha | ha
      · exact ha
      · rcases List.mem_cons.mp hb with hb | hb
        · exact hb.symm
        · exact anti a b (h.1 b hb) (h'.1 a ha)
    subst e
    rw [perm_sorted anti (List.perm_cons a |>.mp p) h.2 h'.2]
def insI (i : Int) : List Int → List Int
  | [] => [i]
  | j :: r => if i ≤ j then i :: j :: r else j :: insI i r
def sortI : List Int → List Int
  | [] => []
  | i :: r => insI i (sortI r)
theorem insI_perm (i : Int) : ∀ r : List Int, (insI i r).Perm (i :: r)
  | [] => .refl _
  | j :: r => by
    unfold insI
    split
    · exact .refl _
    · exact ((insI_perm i r).cons j).trans (.swap i j r)
theorem insI_sorted (i : Int) : ∀ r : List Int, r.Pairwise (· ≤ ·) → (insI i r).Pairwise (· ≤ ·)
  | [], _ => by simp [insI]
  | j :: r, h => by
    unfold insI
    rw [List.pairwise_cons] at h
    split
    · rename_i hij
      rw [List.pairwise_cons, List.pairwise_cons]
      refine ⟨fun x hx => ?_, h⟩
      rcases List.mem_cons.mp hx with e | hx
      · omega
      · have := h.1 x hx; omega
    · rename_i hij
      rw [List.pairwise_cons]
      refine ⟨fun x hx => ?_, insI_sorted i r h.2⟩
      rcases List.mem_cons.mp ((insI_perm i r).mem_iff.mp hx) with e | hx
      · omega
      · exact h.1 x hx
theorem sortI_perm : ∀ r : List Int, (sortI r).Perm r
  | [] => .refl _
  | i :: r => (insI_perm i _).trans ((sortI_perm r).cons i)
theorem sortI_sorted : ∀ r : List Int, (sortI r).Pairwise (· ≤ ·)
  | [] => List.Pairwise.nil
  | i :: r => insI_sorted i _ (sortI_sorted r)
theorem sortI_only {r s : List Int} (p : s.Perm r) (h : s.Pairwise (· ≤ ·)) : s = sortI r := perm_sorted (fun a b h1 h2 => Int.le_antisymm h1 h2) (p.trans (sortI_perm r).symm) h (sortI_sorted r)
/-- texts, one after another -/
def leS (a b : Str) : Prop := ¬ (b.cps.toList < a.cps.toList)
instance : DecidableRel leS := fun a b => inferInstanceAs (Decidable (¬ _))
theorem leS_anti (a b : Str) (h1 : leS a b) (h2 : leS b a) : a = b := by
  have e : a.cps.toList = b.cps.toList := List.le_antisymm (by simpa [leS] using h1) (by simpa [leS] using h2)
  obtain ⟨a⟩ := a
  obtain ⟨b⟩ := b
  exact congrArg Str.mk (Array.ext' e)
theorem leS_total (a b : Str) : leS a b ∨ leS b a := by
  by_cases h : b.cps.toList < a.cps.toList
  · exact .inr fun z => List.lt_asymm h z
  · exact .inl h
theorem leS_trans {a b c : Str} (h1 : leS a b) (h2 : leS b c) : leS a c := by
  have h1 : a.cps.toList ≤ b.cps.toList := by simpa [leS] using h1
  have h2 : b.cps.toList ≤ c.cps.toList := by simpa [leS] using h2
  have : a.cps.toList ≤ c.cps.toList := List.le_trans h1 h2
  simpa [leS] using this
def insS (i : Str) : List Str → List Str
  | [] => [i]
  | j :: r => if leS i j then i :: j :: r else j :: insS i r
def sortS : List Str → List Str
  | [] => []
  | i :: r => insS i (sortS r)
theorem insS_perm (i : Str) : ∀ r : List Str, (insS i r).Perm (i :: r)
  | [] => .refl _
  | j :: r => by
    unfold insS
    split
    · exact .refl _
    · exact ((insS_perm i r).cons j).trans (.swap i j r)
theorem insS_sorted (i : Str) : ∀ r : List Str, r.Pairwise leS → (insS i r).Pairwise leS
  | [], _ => by simp [insS]
  | j :: r, h => by
    unfold insS
    rw [List.pairwise_cons] at h
    split
    · rename_i hij
      rw [List.pairwise_cons, List.pairwise_cons]
      refine ⟨fun x hx => ?_, h⟩
      rcases List.mem_cons.mp hx with e | hx
      · subst e; exact hij
      · exact leS_trans hij (h.1 x hx)
    · rename_i hij
      rw [List.pairwise_cons]
      refine ⟨fun x hx => ?_, insS_sorted i r h.2⟩
      rcases List.mem_cons.mp ((insS_perm i r).mem_iff.mp hx) with e | hx
      · subst e; exact (leS_total _ _).resolve_left hij
      · exact h.1 x hx
theorem sortS_perm : ∀ r : List Str, (sortS r).Perm r
  | [] => .refl _
  | i :: r => (insS_perm i _).trans ((sortS_perm r).cons i)
theorem sortS_sorted : ∀ r : List Str, (sortS r).Pairwise leS
  | [] => List.Pairwise.nil
  | i :: r => insS_sorted i _ (sortS_sorted r)
theorem sortS_only {r s : List Str} (p : s.Perm r) (h : s.Pairwise leS) : s = sortS r := perm_sorted leS_anti (p.trans (sortS_perm r).symm) h (sortS_sorted r)
theorem rising_leS : ∀ {r : List Str} {p : Str}, risingS p r = true → (p :: r).Pairwise leS
  | [], p, _ => by simp
  | x :: r, p, h => by
    unfold risingS at h
    rw [Bool.and_eq_true, Bool.not_eq_true'] at h
    have ih := rising_leS h.2
    have hp : leS p x := by
      unfold leS
      have q := h.1
      rw [ltCps_eq] at q
      exact of_decide_eq_false q
    rw [List.pairwise_cons]
    refine ⟨fun y hy => ?_, ih⟩
    rcases List.mem_cons.mp hy with e | hy
    · subst e; exact hp
    · exact leS_trans hp ((List.pairwise_cons.mp ih).1 y hy)
theorem sortedS_leS {r : List Str} (h : sortedS r = true) : r.Pairwise leS := by
  cases r with
  | nil => exact List.Pairwise.nil
  | cons x r => exact rising_leS h

def strK : List Key → Option (List Str)
  | [] => some []
  | .inr s :: r => (strK r).map (s :: ·)
  | _ => none
theorem strK_eq : ∀ {ks : List Key} {ss : List Str}, strK ks = some ss → ks = ss.map Sum.inr
  | [], _, h => by cases h; rfl
  | .inr s :: r, ss, h => by
    unfold strK at h
    cases q : strK r with
    | none => rw [q] at h; cases h
    | some ts => rw [q] at h; cases h; rw [strK_eq q]; rfl
  | .inl _ :: _, _, h => by cases h
def pSort : List D → Option D
  | [.nd (.dct _ ks) _] => match strK ks with
    | some ss => if ss.length < 64 then some (.nd (.lst .own) ((sortS ss).map .str)) else none
    | none => none
  | [.nd (.lst _) ds] => (intsD ds).map fun ns => .nd (.lst .own) ((sortI ns).map .int)
  | _ => none
def rSort (K : PySem.W.Frag) : List V → Hp → VK → Prop := fun vs H Q => (∃ (a : Addr) (kvs : List (Key × V)) (ks : List Str), vs = [.ref a] ∧ Rd H a (.dK kvs) ∧ kvs.map (·.1) = ks.map Sum.inr ∧ ks.length < 64 ∧
    ∀ ys p, ys.Perm ks → sortedS ys = true → H p = none → Q (.ref p) (L2.upd H p (.lst (ys.map V.str)))) ∨ rSortedI K vs H Q
section
variable {K : PySem.W.Frag} {cm : Cm}
theorem ok_sort : OkPr K cm (rSort K) pSort := fun H Z ds vs Fs d dm rl nd nf h Q q => by
  unfold pSort at h
  split at h
  · rename_i f ks es
    cases e1 : strK ks with
    | none => rw [e1] at h; cases h
    | some ss =>
      rw [e1] at h
      dsimp only at h
      split at h
      · rename_i hl
        cases h
        obtain ⟨v, F, rfl, rfl, a, us, Es, rfl, c, l, rfl⟩ := repL1 rl
        refine .inl ⟨a, _, ss, rfl, c.2.1, ?_, hl, fun ys p hp hs hn => ?_⟩
        · rw [← strK_eq e1]
          exact List.map_fst_zip (by have := c.2.2.1; omega)
        · rw [sortS_only hp (sortedS_leS hs)]
          have rk : RepL K cm H Z ((sortS ss).map .str) ((sortS ss).map V.str) (List.replicate (sortS ss).length []) := repL_mk (g := D.str) (g' := V.str) (fun _ => rep_str) _
          exact q _ _ Z _ (.newL dm rk (by rw [flatten_nils]; exact List.nodup_nil) (by rw [flatten_nils]; exact fun _ z => nomatch z) (by rw [flatten_nils]; exact fun _ z => nomatch z) hn)
      · cases h
  · rename_i f es
    cases e1 : intsD es with
    | none => rw [e1] at h; cases h
    | some ns =>
      rw [e1] at h
      cases h
      have e2 := intsD_eq e1
      subst e2
      obtain ⟨v, F, rfl, rfl, a, us, Es, rfl, c, l, rfl⟩ := repL1 rl
      have e3 := repL_ints l
      subst e3
      refine .inr ⟨a, ns, rfl, rdL c.2.1, fun ns' p hp hs hn => ?_⟩
      rw [sortI_only hp hs]
      have rk : RepL K cm H Z ((sortI ns).map .int) ((sortI ns).map V.int) (List.replicate (sortI ns).length []) := repL_mk (g := D.int) (g' := V.int) (fun _ => rep_int) _
      exact q _ _ Z _ (.newL dm rk (by rw [flatten_nils]; exact List.nodup_nil) (by rw [flatten_nils]; exact fun _ z => nomatch z) (by rw [flatten_nils]; exact fun _ z => nomatch z) hn)
  · cases h
/-! ### tuple(list) -/
def pTupL : List D → Option D
  | [.nd (.lst _) ds] => some (.nd .tup ds)
  | _ => none
theorem ok_tupL : OkPr K cm (fun xs H Q => ∃ p ys, xs = [.ref p] ∧ ((SqL K H p ys ∧ ∀ l, H l = none → Q (.ref l) (L2.upd H l (.tup ys))) ∨ (SqT K H p ys ∧ Q (.ref p) H))) pTupL := fun H Z ds vs Fs d dm rl nd nf h Q q => by
  unfold pTupL at h
  split at h
  · rename_i f es
    cases h
    obtain ⟨v, F, rfl, rfl, a, us, Es, rfl, c, l, rfl⟩ := repL1 rl
    have sb : Es.flatten.Sublist [ownA (.lst f) a ++ Es.flatten].flatten := by
      simp only [List.flatten_cons, List.flatten_nil, List.append_nil]
      exact List.sublist_append_right _ _
    exact ⟨a, us, rfl, .inl ⟨rdL c.2.1, fun p hp => q _ _ Z _ (.newT dm l (nd.sublist sb) (fun x hx => .inr (sb.subset hx)) (fun x hx => nf x (sb.subset hx)) hp)⟩⟩
  · cases h
end
theorem cr_sort {X : Cx} (hc : X.calm = true) : CallR X (.builtin "sorted") (rSort X.K) := CallR.or2 (call_sortedD hc) cr_sortedI
/-! ### blocks -/
section
variable {X : Cx} {cm : Cm} {W : WX} {P : List Nat} {sts : List Stmt} {g k : Mst}
theorem sb_fz (i : Nat) (h : SB X cm W P sts g) : SB X cm W P sts (sFz i g) := PSs.imp h fun D0 σ H q => by
  obtain ⟨Z, ρ, Fs, ok, q⟩ := q
  obtain ⟨Fs', Z', ok', s⟩ := ok.fz (P := P) i
  exact ⟨Z', _, Fs', ok', q.step s⟩
/-- what the deep thing in slot i holds is forgotten: known is where it stands alone; what comes out doesn't hang on that -/
def deepE (ρ : En) (i : Nat) (b : Addr) : En := ρ.set i (some (.nd (.lst .frz) [.nd (.adr .frz b) []]))
open Classical in
noncomputable def sForget (i : Nat) (k : Mst) : Mst := fun ρ => match ρ[i]? with
  | some (some (.nd (.lst .frz) [.nd (.lst .frz) _])) => if h : ∃ r : Out × Nat, ∀ b, (k (deepE ρ i b)).map (fun p => (p.1, p.2.length)) = some r then some ((Classical.choose h).1, List.replicate (Classical.choose h).2 none) else none
  | _ => none
theorem sForget_eq {i : Nat} {k : Mst} {ρ : En} {ds : List D} {o : Out} {n : Nat} (hi : ρ[i]? = some (some (.nd (.lst .frz) [.nd (.lst .frz) ds]))) (h : ∀ b, (k (deepE ρ i b)).map (fun p => (p.1, p.2.length)) = some (o, n)) : sForget i k ρ = some (o, List.replicate n none) := by
  have hx : ∃ r : Out × Nat, ∀ b, (k (deepE ρ i b)).map (fun p => (p.1, p.2.length)) = some r := ⟨(o, n), h⟩
  have h1 := Classical.choose_spec hx 0
  rw [h 0] at h1
  have h1 : (o, n) = Classical.choose hx := Option.some.inj h1
  unfold sForget
  rw [hi]
  dsimp only
  rw [dif_pos hx, ← h1]
theorem sb_forget (i : Nat) (h : SB X cm W P sts k) : SB X cm W P sts (sForget i k) := PSs.imp h fun D0 σ H q => by
  obtain ⟨Z, ρ, Fs, ok, q⟩ := q
  unfold sForget at q
  split at q
  rotate_left
  · exact q.elim
  rename_i ds hi
  split at q
  rotate_left
  · exact q.elim
  rename_i hx
  obtain ⟨v, F, hv, hF, a, vs, Es, rfl, ca, la, rfl⟩ := ok.rep.get i _ hi
  obtain ⟨v1, F1, rfl, rfl, b, us, Gs, rfl, cb, lb, rfl⟩ := repL1 la
  have sub := set_nil_sub Fs i
  have rb : Rep X.K cm H Z (.nd (.adr .frz b) []) (.ref b) [] := ⟨b, [], [], rfl, ⟨(fun z => nomatch z), rfl, rfl, ⟨us, cb.2.1⟩, cb.2.2⟩, repL_nil, rfl⟩
  have ra : Rep X.K cm H Z (.nd (.lst .frz) [.nd (.adr .frz b) []]) (.ref a) [] := ⟨a, [.ref b], [[]], rfl, ca, repL_cons rb repL_nil, rfl⟩
  have eσ : σ.set i (some (V.ref a)) = σ := by
    apply List.ext_getElem?
    intro j
    by_cases hj : i = j
    · subst hj
      rw [List.getElem?_set_self (List.getElem?_eq_some_iff.mp hv).1, hv]
    · rw [List.getElem?_set_ne hj]
  have r2 := ok.rep.set i ra
  rw [eσ] at r2
  have ok2 : Ok X.K cm H σ (deepE ρ i b) (Fs.set i []) Z := ⟨r2, ok.dom, fun x h => ok.mu x (sub.subset h), ok.nd.sublist sub, fun x h => ok.nz x (sub.subset h), ok.t⟩
  have s0 : SStep P σ H Z Fs σ H Z (Fs.set i []) := ⟨.refl, fun x h => .inl (sub.subset h), fun _ h => h, fun _ h => .inl h, rfl, fun _ _ => rfl⟩
  have spec := Classical.choose_spec hx b
  generalize Classical.choose hx = r at spec q
  obtain ⟨o, n⟩ := r
  refine ⟨Z, _, _, ok2, ?_⟩
  have q2 := q.step s0
  cases e : k (deepE ρ i b) with
  | none => rw [e] at spec; cases spec
  | some p =>
    obtain ⟨o', ρ1⟩ := p
    rw [e] at spec
    cases spec
    intro σ' H' Z' Fs' s ok'
    refine q2 σ' H' Z' Fs' s ⟨⟨?_, ?_, fun j d hj => ?_⟩, ok'.dom, ok'.mu, ok'.nd, ok'.nz, ok'.t⟩
    · rw [List.length_replicate]; exact ok'.rep.lσ
    · rw [List.length_replicate]; exact ok'.rep.lF
    · rw [List.getElem?_replicate] at hj
      split at hj <;> cases hj
end
end OB

namespace OB
open PySem PySem.Spec PyProof.Rows L2
def xC1 (m : List D → Ot D) (x : Xf) : Xf := fun ρ => xBind (x ρ) fun d ρ1 => match m [toArg d] with
  | .ok r => if isAt r then some (.ok r, ρ1) else none
  | .ex y => some (.ex y, ρ1)
  | .no => none
section
variable {X : Cx} {cm : Cm} {W : WX} {x : Str} {p pos : Pos} {e : Expr} {f : Xf} {k j : Nat} {m : List D → Ot D}
theorem x_c1 (tk : Takes X W) (G : Good X.prog X.w X.K X.mg X.base cm x 1 k m) (hr : Room j X.A) (hk : k ≤ j) (hg : Gl X x) (ha : SX X cm W e f)
    (hdb : (x == ("__debug__" : Str)) = false := by decide) (he : starEach [e] X.env = (false, eval e X.env) :: starEach [] X.env := by rfl) (hpl : (backTo pos (starEach [] X.env)).any (·.1) = false := by rfl) :
    SX X cm W (.Call (.Name x p) [e] [] pos) (xC1 m f) := by
  obtain ⟨a, fd, ps, hm, kp, b, F⟩ := G
  refine PE.imp (pe_callS (E := fun σ cls d H => W cls d σ H) F (hr.mono hk) hg hm kp b (fun σ => passAt tk σ) (pa_cons ha pa_nil he) hdb he hpl) fun σ H Q q => ?_
  obtain ⟨Z, ρ, Fs, ok, q⟩ := q
  refine tX_bind ok q fun d ρ1 v H1 Z1 Fs1 G1 hf s o og q1 => ?_
  show spP X.K cm 1 m [v] H1 Q _
  have ok1 := o.ok
  have mu : ∀ y ∈ G1, Mut (H1 y) := fun y hy => RepL.mut _ o.rep y (by simpa using hy)
  obtain ⟨Ms, e1, e2⟩ := o.rep.arg (f := fun y => Z1.f y ∨ y ∈ G1) (fun y h => .inr (by simpa using h)) (fun y h => .inl h)
  refine ⟨fun y => Z1.f y ∨ y ∈ G1, [toArg d], Ms, fun y h => h.elim (ok1.dom.f y) fun z => mut_ne (mu y z), rfl, e1, e2, ?_⟩
  have nd := o.nd
  have step : ∀ {H2 : Hp} {Z2 : Zn}, Ext H1 (lentZ H1 fun y => Z1.f y ∨ y ∈ G1) H2 Z2 → Ok X.K cm H2 σ ρ1 Fs1 ⟨Z2.f, Z1.b, fun _ => False⟩ ∧ SStep [] σ H Z Fs σ H2 ⟨Z2.f, Z1.b, fun _ => False⟩ Fs1 := fun {H2 Z2} e => by
    have nf : ∀ y ∈ Fs1.flatten, ¬ Z2.f y := fun y hy z => by
      rcases e.fn y z with z | z
      · rcases z with z | z
        · exact (ok1.nz y hy).1 z
        · exact (List.nodup_append.mp nd).2.2 y hy y (by simpa using z) rfl
      · exact mut_ne (ok1.mu y hy) z
    refine ⟨⟨⟨ok1.rep.lσ, ok1.rep.lF, fun i d' hd => ?_⟩, ⟨e.fd, fun y h z => ok1.dom.b y h (e.gr.back z), fun _ h => h.elim⟩, fun y h => e.gr.mut (ok1.mu y h), ok1.nd, fun y h => ⟨nf y h, (ok1.nz y h).2⟩, fun _ h => h⟩, ⟨fun y o hy n => e.gr y o (s.keep y o hy n), s.own, fun y h => e.f y (.inl (s.f y h)), fun y h => ?_, s.b, fun _ _ => rfl⟩⟩
    · obtain ⟨v', F', a1, a2, a3⟩ := ok1.rep.get i d' hd
      exact ⟨v', F', a1, a2, a3.grow e.gr (fun y h => e.f y (.inl h)) (fun _ h => h) fun y h => (ok1.t y h).elim⟩
    · rcases e.fn y h with z | z
      · rcases z with z | z
        · exact s.fn y z
        · exact .inr (og y z)
      · exact .inr ((s.keep.back z).symm)
  cases hm2 : m [toArg d] with
  | no => rw [hm2] at q1; exact q1.elim
  | ex y =>
    rw [hm2] at q1
    intro cls dd H2 Z2 ex xr
    obtain ⟨ok2, s2⟩ := step ex
    exact q1 cls dd H2 _ Fs1 s2 ok2 (xr.back fun _ h => h)
  | ok r =>
    rw [hm2] at q1
    dsimp only at q1
    split at q1
    · rename_i at'
      intro u H2 Z2 F2 r2
      obtain ⟨ok2, s2⟩ := step r2.ext
      obtain ⟨eu, _, _⟩ := rep_at r2.rep at'
      rw [eu]
      exact q1.at_ s2 ok2 at'
    · exact q1.elim
end
/-! ### rows -/
section
variable {f g : En → Ot D} {fs : List (En → Ot D)} {ρ ρ0 : En} {x y : Xf} {m : List D → Ot D} {c n : Str} {i j : Nat} {cc : Str → Option Bool} {u v : Mst} {pz : D → Option D}
@[simp] theorem xC1_eq : xC1 m x ρ = xBind (x ρ) fun d ρ1 => match m [toArg d] with
  | .ok r => if isAt r then some (.ok r, ρ1) else none
  | .ex y => some (.ex y, ρ1)
  | .no => none := rfl
@[simp] theorem sRaise0_eq : sRaise0 c ρ = some (.ex ⟨c, none⟩, ρ) := rfl
@[simp] theorem sRaise1_eq : sRaise1 c n pz f ρ = match f ρ with
  | .no => none
  | .ok d => (match pz d with
    | some e => some (.ex ⟨c, some (n, e)⟩, ρ)
    | none => none)
  | .ex x => some (.ex x, ρ) := by unfold sRaise1 sOn; cases f ρ <;> rfl
@[simp] theorem sTryK_eq : sTryK cc u i j ρ = match u ρ with
  | some (.ex x, ρ1) => (match cc x.cls with
    | some true => if i < ρ1.length then some (.nx, (ρ1.set j (some (excD x))).set i none) else none
    | some false => some (.ex x, ρ1)
    | none => none)
  | r => r := rfl
@[simp] theorem sTryC_eq : sTryC cc u v ρ = match u ρ with
  | some (.ex x, ρ1) => (match cc x.cls with
    | some true => (match v ρ1 with
      | some (.ex _, _) => none
      | r => r)
    | some false => some (.ex x, ρ1)
    | none => none)
  | r => r := rfl
@[simp] theorem eIsX_eq {nb : String → Option Bool} {ob xb : Str → Option Bool} : eIsX nb ob xb f ρ = (f ρ).bind fun d => .of ((isiX nb ob xb d).map .bl) := rfl
@[simp] theorem excD_none : excD ⟨c, none⟩ = .nd (.exc .frz c []) [] := rfl
@[simp] theorem excD_some {d : D} : excD ⟨c, some (n, d)⟩ = .nd (.exc .frz c [n]) [d] := rfl
@[simp] theorem mapF_exc {k : Fl → Fl} {z : Fl} {fs : List Str} {ds : List D} : mapF k (.nd (.exc z c fs) ds) = .nd (.exc (k z) c fs) (ds.map (mapF k)) := by rw [mapF, mapFL_eq]; rfl
@[simp] theorem mapF_adr {k : Fl → Fl} {z : Fl} {b : Addr} {ds : List D} : mapF k (.nd (.adr z b) ds) = .nd (.adr (k z) b) (ds.map (mapF k)) := by rw [mapF, mapFL_eq]; rfl
@[simp] theorem isiX_exc {nb : String → Option Bool} {ob xb : Str → Option Bool} {z : Fl} {fs : List Str} {ds : List D} : isiX nb ob xb (.nd (.exc z c fs) ds) = xb c := rfl
@[simp] theorem isiX_non {nb : String → Option Bool} {ob xb : Str → Option Bool} : isiX nb ob xb .non = nb "NoneType" := rfl
@[simp] theorem sForK_eq {π : Pi'} {tg : D → En → Option En} : sForK i π tg u ρ = match subD ρ i π with
  | some (d, _, .nd (.dct fl ks) _) => if allF (fun f => f != .own) d && fl != .own then noEx (forL tg u (ks.map keyDat) ρ) else none
  | _ => none := rfl
end
/-- the answers for a list of classes -/
def xbL (l : List (Str × Bool)) : Str → Option Bool := fun c => l.lookup c
theorem xbL_mem : ∀ {l : List (Str × Bool)} {c : Str} {b : Bool}, xbL l c = some b → (c, b) ∈ l
  | [], _, _, h => nomatch h
  | (d, z) :: l, c, b, h => by
    unfold xbL at h
    rw [List.lookup_cons] at h
    split at h
    · rename_i e
      have e : c = d := by simpa using e
      subst e
      cases h
      exact List.mem_cons_self
    · exact List.mem_cons_of_mem _ (xbL_mem h)
/-- None alone -/
def nbNone (b : Bool) : String → Option Bool := fun n => if n = "NoneType" then some b else none
def kitV (d : Str) (t : String) (b : Bool) (K : PySem.W.Frag) : Bool := decide (PySem.W.kitOne K (.ref (He.ga K d)) (.type t) = some b)
def noaB (c n : Str) (K : PySem.W.Frag) : Bool := decide (PySem.W.findIn K (.ref (He.ga K c)) n = some none)
theorem kitC_ok {d c : Str} {b : Bool} {K : PySem.W.Frag} (h : kitC d c b K = true) : PySem.W.kitOne K (.ref (He.ga K d)) (.ref (He.ga K c)) = some b := of_decide_eq_true h
theorem kitV_ok {d : Str} {t : String} {b : Bool} {K : PySem.W.Frag} (h : kitV d t b K = true) : PySem.W.kitOne K (.ref (He.ga K d)) (.type t) = some b := of_decide_eq_true h
theorem kitB_ok {t : String} {c : Str} {b : Bool} {K : PySem.W.Frag} (h : kitB t c b K = true) : ∀ n r, nbNone b n = some r → t = "NoneType" → PySem.W.kitOne K (.type n) (.ref (He.ga K c)) = some r := fun n r e et => by
  unfold nbNone at e
  split at e
  · rename_i q
    cases e
    subst et
    rw [q]
    exact of_decide_eq_true h
  · cases e
theorem noaB_ok {c n : Str} {K : PySem.W.Frag} (h : noaB c n K = true) : PySem.W.findIn K (.ref (He.ga K c)) n = some none := of_decide_eq_true h
theorem nbV_ok {K : PySem.W.Frag} : ∀ n r, nbNone false n = some r → PySem.W.kitOne K (.type n) (.type "ValueError") = some r := fun n r e => by
  unfold nbNone at e
  split at e
  · rename_i q
    cases e
    rw [q]
    exact kit_ty (by decide +kernel)
  · cases e
end OB

namespace OB
open PySem PySem.Spec PyProof.Rows L2
theorem _root_.L2.Room.eq2 {k : Nat} {A : Around} (r : Room k A) : A.units + 70 < cLine := by have := r.un; omega
theorem gId_mono (v : V) (H : Hp) (R R' : V → Hp → Prop) (i : ∀ y H1, R y H1 → R' y H1) (h : gId v H R) : gId v H R' := i v H h
theorem gLs_mono (v : V) (H : Hp) (R R' : V → Hp → Prop) (i : ∀ y H1, R y H1 → R' y H1) (h : gLs v H R) : gLs v H R' := by
  obtain ⟨r, xs, e, h1, h2, h3⟩ := h
  exact ⟨r, xs, e, h1, h2, fun p hp => i _ _ (h3 p hp)⟩
theorem pe_gLs {X : Cx} {e : Expr} {p pos : Pos} (hg : Gl X "list") (hm : X.mg "list" = none) (he : PE X e (tVar 1)) (hst : starEach [e] X.env = (false, eval e X.env) :: starEach [] X.env := by rfl) (hpl : (backTo pos (starEach [] X.env)).any (·.1) = false := by rfl) :
    PE X (.Call (.Name "list" p) [e] [] pos) (fun σ H Q => ∃ y, σ[1]? = some (some y) ∧ gLs y H Q) :=
  PE.imp (pe_callTy call_list_of hg hm (by decide +kernel) (pa_cons he pa_nil hst) (by decide) (by decide) hst hpl) fun σ H Q h => by
    obtain ⟨y, e1, r, xs, rfl, rd, hz, q⟩ := h
    exact ⟨.ref r, e1, r, xs, rfl, .inl (rdL rd), q⟩
theorem xc0_of {K : PySem.W.Frag} {C : Addr} (h : PySem.W.excIn K C He.veBase "ValueError.__new__" = true ∧ PySem.W.keepIn K (.ref C) = true ∧ PySem.W.subIn K (.ref C) (.type "BaseException") = some true ∧ PySem.W.typeIn K (.ref C) = some (.type "type")) : Xc0 K C := ⟨h.1, h.2.1, h.2.2.1, h.2.2.2⟩
theorem xbAll {l : List (Str × Bool)} {P : Str × Bool → Prop} (h : ∀ p ∈ l, P p) : ∀ c b, xbL l c = some b → P (c, b) := fun c b e => h _ (xbL_mem e)
theorem xc_of {P : Program} {w : World} {K : PySem.W.Frag} {mg : Str → Option Value} {base h : Heap} {c n : Str} {k : Nat} {g : V → Hp → (V → Hp → Prop) → Prop} {fd : FuncData} {ps : List Str} (c1 : (He.Fa.glo c).ok K = true) (OC : OexC K (He.ga K c)) (c2 : (He.Fa.meth c "__init__").ok K = true) (hn : PySem.W.findIn K (.ref (He.ga K c)) n = some none)
    (b : Binds K fd ps []) (F : FnOk P w K mg base (L2.CX P w) k (He.ma K (He.ga K c) "__init__") fd ps (spXI K (He.ga K c) n g)) (X : K.In h) (G : h.Ns mainGlobals mg) : GoodXc P w K mg base (He.ga K) c n k g := by
  have M := He.meth_ok c2
  refine ⟨_, fd, ps, He.glo_ok X G c1, OC, M.at_, ?_, hn, b, F⟩
  exact beq_iff_eq.mp M.fn
end OB

namespace OB
open PySem PySem.Spec PyProof.Rows L2
def fzC (i : Nat) : Nat → En → En
  | 0, ρ => ρ
  | n + 1, ρ => fzP i (fun _ => some [n]) (fzC i n ρ)
def cntE (i : Nat) (ρ : En) : Nat := match ρ[i]? with
  | some (some (.nd _ es)) => es.length
  | _ => 0
def sFzC (i n : Nat) (g : Mst) : Mst := fun ρ => g (fzC i n ρ)
def sFzD (i : Nat) (g : Mst) : Mst := fun ρ => g (fzC i (cntE i ρ) ρ)
theorem ss_fzC {X : Cx} {cm : Cm} {W : WX} {P : List Nat} {st : Stmt} (i : Nat) : ∀ (n : Nat) {g : Mst}, SS X cm W P st g → SS X cm W P st (sFzC i n g)
  | 0, _, h => h
  | n + 1, g, h => ss_fzC i n (g := sFzP i (fun _ => some [n]) g) (ss_fzP i _ h)
theorem ss_fzD {X : Cx} {cm : Cm} {W : WX} {P : List Nat} {st : Stmt} {g : Mst} (i : Nat) (h : SS X cm W P st g) : SS X cm W P st (sFzD i g) := ⟨fun pins s σ H D I q => by
  obtain ⟨Z, ρ, Fs, ok, q⟩ := q
  exact (ss_fzC i (cntE i ρ) h).run pins s σ H D I ⟨Z, ρ, Fs, ok, q⟩⟩
theorem fzC_eq {i : Nat} {k : Kd} {es : List D} {ρ : En} (h : ρ[i]? = some (some (.nd k es))) : ∀ n, n ≤ es.length → fzC i n ρ = ρ.set i (some (.nd k ((es.take n).map toFrz ++ es.drop n)))
  | 0, _ => by
    obtain ⟨hl, h⟩ := List.getElem?_eq_some_iff.mp h
    show ρ = _
    rw [List.take_zero, List.map_nil, List.nil_append, List.drop_zero, ← h, List.set_getElem_self]
  | n + 1, hn => by
    have ih := fzC_eq h n (by omega)
    have hl := (List.getElem?_eq_some_iff.mp h).1
    show fzP i (fun _ => some [n]) (fzC i n ρ) = _
    rw [ih]
    have e0 : ((es.take n).map toFrz ++ es.drop n)[n]? = some es[n] := by
      rw [List.getElem?_append_right (by rw [List.length_map, List.length_take]; omega), List.length_map, List.length_take, Nat.min_eq_left (by omega)]
      simp [show n < es.length by omega]
    have e1 : subD (ρ.set i (some (.nd k ((es.take n).map toFrz ++ es.drop n)))) i (fun _ => some [n]) = some (.nd k ((es.take n).map toFrz ++ es.drop n), [n], es[n]) := by
      rw [subD_row, List.getElem?_set_self hl]
      show ((getP (.nd k ((es.take n).map toFrz ++ es.drop n)) [n]).map _) = _
      rw [getP_one, e0]
      rfl
    unfold fzP
    rw [e1]
    dsimp only
    rw [putP_one e0, List.set_set]
    congr 3
    apply List.ext_getElem?
    intro j
    rw [List.getElem?_set]
    by_cases hj : n = j
    · subst hj
      rw [if_pos rfl, if_pos (by rw [List.length_append, List.length_map, List.length_take, List.length_drop]; omega)]
      rw [List.getElem?_append_left (by rw [List.length_map, List.length_take]; omega)]
      simp [show n < es.length by omega]
    · rw [if_neg hj]
      by_cases h2 : j < n
      · rw [List.getElem?_append_left (by rw [List.length_map, List.length_take]; omega), List.getElem?_append_left (by rw [List.length_map, List.length_take]; omega)]
        simp [List.getElem?_take, h2, show j < n + 1 by omega]
      · rw [List.getElem?_append_right (by rw [List.length_map, List.length_take]; omega), List.getElem?_append_right (by rw [List.length_map, List.length_take]; omega)]
        rw [List.length_map, List.length_map, List.length_take, List.length_take, Nat.min_eq_left (by omega), Nat.min_eq_left (by omega), List.getElem?_drop, List.getElem?_drop]
        congr 1
        omega
theorem sFzD_eq {i : Nat} {k : Kd} {es : List D} {g : Mst} {ρ : En} (h : ρ[i]? = some (some (.nd k es))) : sFzD i g ρ = g (ρ.set i (some (.nd k (es.map toFrz)))) := by
  unfold sFzD cntE
  rw [h]
  dsimp only
  rw [fzC_eq h _ (Nat.le_refl _), List.take_length, List.drop_length, List.append_nil]
end OB

namespace OB
open PySem PySem.Spec PyProof.Rows L2
abbrev P0 : Program := PySem.Challenge.pw_larderwise_k23_diners_by_deeds
def top (i : Nat) : Stmt := PySem.Challenge.pw_larderwise_k23_diners_by_deeds.main.body.getD i (.Pass ⟨0, 0, 0, 0⟩)
def clsB : Stmt → List Stmt
  | .ClassDef (body := b) .. => b
  | _ => []
def xb_BadName : Str → Option Bool := xbL [("BadName", true), ("NoDiner", false), ("TooMany", false), ("Twice", false)]
def xb_Twice : Str → Option Bool := xbL [("BadName", false), ("NoDiner", false), ("TooMany", false), ("Twice", true)]
def xb_TooMany : Str → Option Bool := xbL [("BadName", false), ("NoDiner", false), ("TooMany", true), ("Twice", false)]
def xb_NoDiner : Str → Option Bool := xbL [("BadName", false), ("NoDiner", true), ("TooMany", false), ("Twice", false)]
def xb_BadAmount : Str → Option Bool := xbL [("BadName", false), ("NoDiner", false), ("TooMany", false), ("Twice", false)]
def xb_BadDay : Str → Option Bool := xbL [("BadName", false), ("NoDiner", false), ("TooMany", false), ("Twice", false)]
def xb_BadLine : Str → Option Bool := xbL [("BadName", false), ("NoDiner", false), ("TooMany", false), ("Twice", false)]
def xb_BadWish : Str → Option Bool := xbL [("BadName", false), ("NoDiner", false), ("TooMany", false), ("Twice", false)]
def xb_FromNothing : Str → Option Bool := xbL [("BadName", false), ("NoDiner", false), ("TooMany", false), ("Twice", false)]
def xb_Lacking : Str → Option Bool := xbL [("BadName", false), ("NoDiner", false), ("TooMany", false), ("Twice", false)]
def xb_NoDeed : Str → Option Bool := xbL [("BadName", false), ("NoDiner", false), ("TooMany", false), ("Twice", false)]
def xb_NoGood : Str → Option Bool := xbL [("BadName", false), ("NoDiner", false), ("TooMany", false), ("Twice", false)]
def xb_NoMeasure : Str → Option Bool := xbL [("BadName", false), ("NoDiner", false), ("TooMany", false), ("Twice", false)]
def xb_NoRecipe : Str → Option Bool := xbL [("BadName", false), ("NoDiner", false), ("TooMany", false), ("Twice", false)]
def xb_NoSwap : Str → Option Bool := xbL [("BadName", false), ("NoDiner", false), ("TooMany", false), ("Twice", false)]
def xb_ValueError : Str → Option Bool := xbL [("BadName", true), ("NoDiner", true), ("TooMany", true), ("Twice", true)]
def xb_m_LarderError : Str → Option Bool := xbL [("BadName", true), ("NoDiner", true), ("TooMany", true), ("Twice", true)]
def x_name : List Str := ["NoDiner"]
noncomputable section
def g_Diners___init__ : Mst :=
  (sFldS 0 pHere ["Diners"] "known" (eC (.nd (.dct .own []) [])))
def m_Diners___init__ : MM := bodyMM 1 [0] g_Diners___init__
def cc__law_word_1 : En → Ot Bool :=
  (eT ((ePr pIx [eVar 1, eVar 4])))
def cp__law_word_1 : En → Ot D :=
  eComp (itV ((ePr pSort [eVar 1]))) (tgName 4) cc__law_word_1 (eVar 4) [4]
def st__law_word_1 : Mst :=
  (sIf ((eT (ePr pIs [eVar 0, eC .non])))
  ((sRet (eC (.str ""))))
  (sNil))
def st__law_word_2 : Mst :=
  (sSet 1 ((eDisp [.inr "name", .inr "twice"] [(eIsX (nbNone false) (fun _ => none) xb_BadName (eVar 0)), (eIsX (nbNone false) (fun _ => none) xb_Twice (eVar 0))])))
def st__law_word_3 : Mst :=
  (sPut2 1 pHere ((eIsX (nbNone false) (fun _ => none) xb_TooMany (eVar 0))) (eC (.str "many")))
def st__law_word_4 : Mst :=
  (sPut2 1 pHere ((eIsX (nbNone false) (fun _ => none) xb_NoDiner (eVar 0))) (eC (.str "diner")))
def st__law_word_5 : Mst :=
  (sSet 2 ((ePr pLst [(eIsX (nbNone false) (fun _ => none) xb_BadAmount (eVar 0)), (eIsX (nbNone false) (fun _ => none) xb_BadDay (eVar 0)), (eIsX (nbNone false) (fun _ => none) xb_BadLine (eVar 0))])))
def st__law_word_6 : Mst :=
  (sSet 2 ((ePr pAdd [eVar 2, (ePr pLst [(eIsX (nbNone false) (fun _ => none) xb_BadWish (eVar 0)), (eIsX (nbNone false) (fun _ => none) xb_FromNothing (eVar 0)), (eIsX (nbNone false) (fun _ => none) xb_Lacking (eVar 0))])])))
def st__law_word_7 : Mst :=
  (sSet 2 ((ePr pAdd [eVar 2, (ePr pLst [(eIsX (nbNone false) (fun _ => none) xb_NoDeed (eVar 0)), (eIsX (nbNone false) (fun _ => none) xb_NoGood (eVar 0)), (eIsX (nbNone false) (fun _ => none) xb_NoMeasure (eVar 0))])])))
def st__law_word_8 : Mst :=
  (sSet 2 ((ePr pAdd [eVar 2, (ePr pLst [(eIsX (nbNone false) (fun _ => none) xb_NoRecipe (eVar 0)), (eIsX (nbNone false) (fun _ => none) xb_NoSwap (eVar 0))])])))
def st__law_word_9 : Mst :=
  (sIf ((bOr ((eT (ePr pNe [(ePr pLen [eVar 3]), eC (.int 1)]))) ((bOr ((eT (ePr pIn [eC (.bl true), eVar 2]))) ((bNot ((eT ((eIsX (nbNone false) (fun _ => none) xb_ValueError (eVar 0)))))))))))
  ((sRet (eC (.str "none or several"))))
  (sNil))
def g__law_word : Mst :=
  (sSeq (st__law_word_1)
  ((sSeq (st__law_word_2)
  ((sSeq (st__law_word_3)
  ((sSeq (st__law_word_4)
  ((sSeq (st__law_word_5)
  ((sSeq (st__law_word_6)
  ((sSeq (st__law_word_7)
  ((sSeq (st__law_word_8)
  ((sSeq ((sSet 3 (cp__law_word_1)))
  ((sSeq (st__law_word_9)
  ((sRetF ((ePr pIx [eVar 3, eC (.int 0)])))))))))))))))))))))))
def m__law_word : List D → Ot D := bodyM 5 g__law_word
def ce_are_signs_1 : En → Ot D :=
  (ePr pIn [eVar 2, eVar 1])
def cp_are_signs_1 : En → Ot D :=
  eComp (itV (eVar 0)) (tgName 2) cYes (ce_are_signs_1) [2]
def g_are_signs : Mst :=
  (sRet ((ePr pAll [cp_are_signs_1])))
def m_are_signs : List D → Ot D := bodyM 3 g_are_signs
def g_is_name : Mst :=
  (sRet ((eAnd ((eIsi (nbTy "str") (fun _ => none) (eVar 0))) ((eAnd ((eChain pLe pLe (eC (.int 1)) ((ePr pLen [eVar 0])) (eC (.int 12)))) ((eCall m_are_signs [] [eVar 0, eC (.str "abcdefghijklmnopqrstuvwxyz")])))))))
def m_is_name : List D → Ot D := bodyM 1 g_is_name
def ce_are_names_1 : En → Ot D :=
  (eCall m_is_name [] [eVar 1])
def cp_are_names_1 : En → Ot D :=
  eComp (itV (eVar 0)) (tgName 1) cYes (ce_are_names_1) [1]
def g_are_names : Mst :=
  (sRet ((eAnd ((eIsi (nbTy "list") (fun _ => none) (eVar 0))) ((ePr pAll [cp_are_names_1])))))
def m_are_names : List D → Ot D := bodyM 2 g_are_names
def st_Diners_put_diner_R_1 : Mst :=
  (sIf ((bNot ((eT ((eCall m_is_name [] [eVar 1]))))))
  ((sRaise0 "BadName"))
  (sNil))
def st_Diners_put_diner_R_2 : Mst :=
  (sIf ((eT (ePr pIn [eVar 1, (ePr (pFld ["Diners"] "known") [eVar 0])])))
  ((sRaise0 "Twice"))
  (sNil))
def st_Diners_put_diner_R_3 : Mst :=
  (sIf ((eT (ePr pEq [(ePr pLen [(ePr (pFld ["Diners"] "known") [eVar 0])]), eC (.int 6)])))
  ((sRaise0 "TooMany"))
  (sNil))
def st_Diners_put_diner_R_4 : Mst :=
  (sIf ((bNot ((eT ((eCall m_are_names [] [eVar 2]))))))
  ((sRaise0 "BadName"))
  (sNil))
def st_Diners_put_diner_R_5 : Mst :=
  (sIf ((eT (ePr pLt [(ePr pLenSet [eVar 2]), (ePr pLen [eVar 2])])))
  ((sRaise0 "Twice"))
  (sNil))
def st_Diners_put_diner_R_6 : Mst :=
  (sIf ((eT (ePr pGt [(ePr pLen [eVar 2]), eC (.int 6)])))
  ((sRaise0 "TooMany"))
  (sNil))
def g_Diners_put_diner_R : Mst :=
  (sSeq (st_Diners_put_diner_R_1)
  ((sSeq (st_Diners_put_diner_R_2)
  ((sSeq (st_Diners_put_diner_R_3)
  ((sSeq (st_Diners_put_diner_R_4)
  ((sSeq (st_Diners_put_diner_R_5)
  ((sSeq (st_Diners_put_diner_R_6)
  ((fun _ => none)))))))))))))
def m_Diners_put_diner_R : List D → Ot D := bodyM 3 g_Diners_put_diner_R
def g__law_put_R : Mst :=
  (sSeq ((sSet 3 (eC .non)))
  ((sSeq ((sTryK xb_m_LarderError
  ((sExpr ((eMeth "Diners" "put_diner" m_Diners_put_diner_R [] (eVar 0) [eVar 1, eVar 2])))) 4 3))
  ((sRetV 3)))))
def m__law_put_R : List D → Ot D := bodyM 5 g__law_put_R
def g_Diners_avoids_of : Mst :=
  (sSeq ((sIf ((bOr ((bNot ((eT ((eIsi (nbTy "str") (fun _ => none) (eVar 1))))))) ((eT (ePr pNotIn [eVar 1, (ePr (pFld ["Diners"] "known") [eVar 0])])))))
  ((sRaise1 "NoDiner" "name" zId (eVar 1)))
  (sNil)))
  ((sRet ((ePr pList3 [(ePr pIx [(ePr (pFld ["Diners"] "known") [eVar 0]), eVar 1])])))))
def m_Diners_avoids_of : List D → Ot D := bodyM 2 g_Diners_avoids_of
def g__law_none_there : Mst :=
  (sSeq ((sSet 2 (eC .non)))
  ((sSeq ((sTryK xb_m_LarderError
  ((sExpr ((eMeth "Diners" "avoids_of" m_Diners_avoids_of [] (eVar 0) [eVar 1])))) 3 2))
  ((sSeq ((sIf ((eT (ePr pNe [(eCall m__law_word [] [eVar 2]), eC (.str "diner")])))
  ((sRet (eC (.bl false))))
  (sNil)))
  ((sRet ((eAnd ((ePr pEq [(eIsi (nbTy "bool") (fun _ => none) ((ePr (pFldX [] x_name "name") [eVar 2]))), (eIsi (nbTy "bool") (fun _ => none) (eVar 1))])) ((ePr pEq2 [(ePr (pFldX [] x_name "name") [eVar 2]), eVar 1])))))))))))
def m__law_none_there : List D → Ot D := bodyM 4 g__law_none_there
def g_Diners_all_diners : Mst :=
  (sRet ((ePr pList3 [(ePr (pFld ["Diners"] "known") [eVar 0])])))
def m_Diners_all_diners : List D → Ot D := bodyM 1 g_Diners_all_diners
def lb__law_deep_right_1 : Mst :=
  (sFzP 3 pHere (sSet 3 ((ePr pLst [eVar 3]))))
def lp__law_deep_right_1 : Mst :=
  (sFor (itR1 [eC (.int 1200)]) (tgName 0)
  (lb__law_deep_right_1))
def ce__law_deep_right_1 : En → Ot D :=
  (eCall m__law_word [] [(eCall m__law_put_R [] [eVar 4, eVar 5, eVar 6])])
def cp__law_deep_right_1 : En → Ot D :=
  eComp (itV (eVar 1)) (tgTup [(tgName 5), (tgName 6)]) cYes (ce__law_deep_right_1) [5, 6]
def st__law_deep_right_1 : Mst :=
  (sTgt ((ePr pTup [(ePr pLst []), (eMake "Diners" m_Diners___init__ [] [])])) (tgTup [(tgName 3), (tgName 4)]))
def st__law_deep_right_2 : Mst :=
  (sSet 1 ((ePr pLst [(ePr pTup [eVar 3, (ePr pLst [])]), (ePr pTup [eC (.str "a"), eVar 3]), (ePr pTup [eC (.str "a"), (ePr pLst [eC (.str "b"), eVar 3])])])))
def st__law_deep_right_3 : Mst :=
  (sRet ((eAnd ((ePr pEq [eVar 2, (ePr pMul [(ePr pLst [eC (.str "name")]), eC (.int 3)])])) ((eAnd ((eCall m__law_none_there [] [eVar 4, eVar 3])) ((ePr pEq [(eMeth "Diners" "all_diners" m_Diners_all_diners [] (eVar 4) []), (ePr pLst [])])))))))
def sf__law_deep_right_1 : Mst :=
  (sSeq (st__law_deep_right_2)
  ((sSeq ((sSet 2 (cp__law_deep_right_1)))
  (st__law_deep_right_3))))
def g__law_deep_right : Mst :=
  (sSeq (st__law_deep_right_1)
  ((sSeq (lp__law_deep_right_1)
  ((sFz 3 ((sForget 3 (sf__law_deep_right_1))))))))
def m__law_deep_right : List D → Ot D := bodyM 7 g__law_deep_right
def ce__law_names_1 : En → Ot D :=
  (ePr pIx [eVar 2, (ePr pMod [(ePr pAdd [(ePr pDiv [eVar 0, eC (.int 7)]), (ePr pMul [eVar 3, eVar 10])]), eC (.int 26)])])
def cp__law_names_1 : En → Ot D :=
  eComp (itR1 [eC (.int 12)]) (tgName 10) cYes (ce__law_names_1) [10]
def ce__law_names_2 : En → Ot D :=
  (eSl pSl (eVar 4) (oNone) ((oSome ((ePr pAdd [eVar 8, eC (.int 1)])))))
def cp__law_names_2 : En → Ot D :=
  eComp (itR1 [eVar 1]) (tgName 8) cYes (ce__law_names_2) [8]
def ce__law_names_3 : En → Ot D :=
  (ePr pIx [eVar 2, (ePr pMod [(ePr pAdd [(ePr pDiv [eVar 0, eC (.int 2000)]), (ePr pMul [eC (.int 5), eVar 8])]), eC (.int 26)])])
def cp__law_names_3 : En → Ot D :=
  eComp (itR1 [eVar 1]) (tgName 8) cYes (ce__law_names_3) [8]
def ce__law_names_4 : En → Ot D :=
  (ePr pAdd [(ePr pAdd [(eSl pSl (eVar 5) (oNone) ((oSome (eVar 6)))), eVar 9]), (eSl pSl (eVar 5) ((oSome (eVar 6))) (oNone))])
def cp__law_names_4 : En → Ot D :=
  eComp (itV (eVar 7)) (tgName 9) cYes (ce__law_names_4) [9]
def st__law_names_1 : Mst :=
  (sSet 3 ((ePr pAdd [eC (.int 3), (ePr pMod [eVar 0, eC (.int 5)])])))
def st__law_names_2 : Mst :=
  (sIf ((eT (ePr pEq [(ePr pMod [(ePr pDiv [eVar 0, eC (.int 9)]), eC (.int 3)]), eC (.int 1)])))
  ((sRet (cp__law_names_2)))
  (sNil))
def st__law_names_3 : Mst :=
  (sSet 5 ((eSl pSl (eVar 4) (oNone) ((oSome ((ePr pMod [eVar 0, eC (.int 8)])))))))
def st__law_names_4 : Mst :=
  (sSet 6 ((ePr pMod [(ePr pDiv [eVar 0, eC (.int 200)]), (ePr pAdd [(ePr pLen [eVar 5]), eC (.int 1)])])))
def g__law_names : Mst :=
  (sSeq ((sSet 2 (eC (.str "abcdefghijklmnopqrstuvwxyz"))))
  ((sSeq (st__law_names_1)
  ((sSeq ((sSet 4 ((eM "str" pJoin (eC (.str "")) [cp__law_names_1]))))
  ((sSeq (st__law_names_2)
  ((sSeq (st__law_names_3)
  ((sSeq (st__law_names_4)
  ((sSeq ((sSet 7 (cp__law_names_3)))
  ((sRet (cp__law_names_4))))))))))))))))
def m__law_names : List D → Ot D := bodyM 11 g__law_names
def g__law_number : Mst :=
  (sSeq ((sSet 2 (eC (.int 1))))
  ((sSeq ((sIf ((eT (ePr pGt [(ePr pLen [eVar 0]), eC (.int 0)])))
  ((sSet 2 ((ePr pIx [eVar 0, (ePr pMod [eVar 1, (ePr pLen [eVar 0])])]))))
  (sNil)))
  ((sSeq ((sSet 3 ((ePr pAdd [eVar 1, eC (.int 3)]))))
  ((sRet ((ePr pMod [(ePr pMul [(ePr pMod [(ePr pAdd [(ePr pMul [(ePr pMod [eVar 2, eC (.int 2147483629)]), eC (.int 48271)]), (ePr pMul [(ePr pMul [eVar 3, eVar 3]), eC (.int 69621)])]), eC (.int 2147483647)]), eC (.int 16807)]), eC (.int 2147483629)])))))))))
def m__law_number : List D → Ot D := bodyM 4 g__law_number
def g__law_name : Mst :=
  (sSeq ((sSet 2 ((ePr pLst [eC .non, eC (.str ""), eC (.str "A"), eC (.int 5), eC (.bl true), (ePr pLst [eC (.str "a")]), eC (.str "abcdefghijklm"), eC (.str "a b"), (ePr pTup [eC (.str "a")]), eC (.nd (.dct .own []) [])]))))
  ((sRetF ((eIf ((eT (ePr pEq [(ePr pMod [eVar 0, eC (.int 11)]), eC (.int 3)]))) ((ePr pIx [eVar 2, (ePr pMod [(ePr pDiv [eVar 0, eC (.int 11)]), eC (.int 10)])])) ((ePr pIx [eVar 1, (ePr pMod [(ePr pDiv [eVar 0, eC (.int 11)]), (ePr pLen [eVar 1])])])))))))
def m__law_name : List D → Ot D := bodyM 3 g__law_name
def st__law_avoids_1 : Mst :=
  (sSet 2 ((ePr pMod [(ePr pDiv [eVar 0, eC (.int 16)]), eC (.int 8)])))
def st__law_avoids_2 : Mst :=
  (sSet 3 ((eSl pSl ((ePr pAdd [(eSl pSl (eVar 1) ((oSome (eVar 2))) (oNone)), (eSl pSl (eVar 1) (oNone) ((oSome (eVar 2))))])) (oNone) ((oSome ((ePr pMod [(ePr pDiv [eVar 0, eC (.int 128)]), eC (.int 8)])))))))
def st__law_avoids_3 : Mst :=
  (sSet 4 ((ePr pLst [eC .non, eC (.int 5), eC (.str "ab"), (ePr pTupL [eVar 3]), eC (.nd (.dct .own []) []), eC (.bl true), (ePr pAdd [eVar 3, (ePr pLst [eC (.str "A")])]), (ePr pAdd [eVar 3, (ePr pLst [eC (.str "")])]), (ePr pAdd [eVar 3, (ePr pLst [eC (.int 5)])]), (ePr pAdd [eVar 3, (ePr pLst [(ePr pLst [eC (.str "a")])])]), (ePr pAdd [eVar 3, (ePr pLst [eC .non])])])))
def st__law_avoids_4 : Mst :=
  (sFzP 4 pHere (sSet 4 ((ePr pAdd [eVar 4, (ePr pLst [(ePr pAdd [eVar 3, (ePr pLst [eC (.str "abcdefghijklm")])]), (ePr pAdd [eVar 3, (eSl pSl (eVar 3) (oNone) ((oSome (eC (.int 1)))))]), (ePr pAdd [eVar 3, (eSl pSl (eVar 3) (oNone) ((oSome (eC (.int 1)))))])])]))))
def st__law_avoids_5 : Mst :=
  (sRetF ((eIf ((eT (ePr pEq [(ePr pMod [eVar 0, eC (.int 4)]), eC (.int 1)]))) ((ePr pIx [eVar 4, (ePr pMod [(ePr pDiv [eVar 0, eC (.int 1024)]), eC (.int 14)])])) (eVar 3))))
def g__law_avoids : Mst :=
  (sSeq (st__law_avoids_1)
  ((sSeq (st__law_avoids_2)
  ((sSeq (st__law_avoids_3)
  ((sSeq (st__law_avoids_4)
  (st__law_avoids_5))))))))
def m__law_avoids : List D → Ot D := bodyM 5 g__law_avoids
def g_Diners_copied : Mst :=
  (sSeq ((sSet 1 ((eMake "Diners" m_Diners___init__ [] []))))
  ((sSeq ((sFldS 1 pHere ["Diners"] "known" ((ePr pDictD [(ePr (pFld ["Diners"] "known") [eVar 0])]))))
  ((sRetV 1)))))
def m_Diners_copied : List D → Ot D := bodyM 2 g_Diners_copied
def cc__law_is_name_1 : En → Ot Bool :=
  (eT (ePr pNotIn [eVar 1, eC (.str "abcdefghijklmnopqrstuvwxyz")]))
def cp__law_is_name_1 : En → Ot D :=
  eComp (itV (eVar 0)) (tgName 1) cc__law_is_name_1 (eVar 1) [1]
def g__law_is_name : Mst :=
  (sSeq ((sIf ((bOr ((bNot ((eT ((eIsi (nbTy "str") (fun _ => none) (eVar 0))))))) ((bNot ((eT ((eChain pLe pLe (eC (.int 1)) ((ePr pLen [eVar 0])) (eC (.int 12))))))))))
  ((sRet (eC (.bl false))))
  (sNil)))
  ((sRet ((ePr pEq [cp__law_is_name_1, (ePr pLst [])])))))
def m__law_is_name : List D → Ot D := bodyM 2 g__law_is_name
def cc__law_due_1 : En → Ot Bool :=
  (bNot ((eT ((eCall m__law_is_name [] [eVar 3])))))
def cp__law_due_1 : En → Ot D :=
  eComp (itV (eVar 2)) (tgName 3) cc__law_due_1 (eVar 3) [3]
def st__law_due_1 : Mst :=
  (sIf ((bNot ((eT ((eCall m__law_is_name [] [eVar 1]))))))
  ((sRet (eC (.str "name"))))
  (sNil))
def st__law_due_2 : Mst :=
  (sIf ((eT (ePr pIn [eVar 1, eVar 0])))
  ((sRet (eC (.str "twice"))))
  (sNil))
def st__law_due_3 : Mst :=
  (sIf ((eT (ePr pEq [(ePr pLen [eVar 0]), eC (.int 6)])))
  ((sRet (eC (.str "many"))))
  (sNil))
def st__law_due_4 : Mst :=
  (sIf ((bOr ((bNot ((eT ((eIsi (nbTy "list") (fun _ => none) (eVar 2))))))) ((eT (ePr pNe [cp__law_due_1, (ePr pLst [])])))))
  ((sRet (eC (.str "name"))))
  (sNil))
def st__law_due_5 : Mst :=
  (sIf ((eT (ePr pLt [(ePr pLenSet [eVar 2]), (ePr pLen [eVar 2])])))
  ((sRet (eC (.str "twice"))))
  (sNil))
def st__law_due_6 : Mst :=
  (sRetF ((eIf ((eT (ePr pGt [(ePr pLen [eVar 2]), eC (.int 6)]))) (eC (.str "many")) (eC (.str "")))))
def g__law_due : Mst :=
  (sSeq (st__law_due_1)
  ((sSeq (st__law_due_2)
  ((sSeq (st__law_due_3)
  ((sSeq (st__law_due_4)
  ((sSeq (st__law_due_5)
  (st__law_due_6))))))))))
def m__law_due : List D → Ot D := bodyM 4 g__law_due
def st_Diners_put_diner_1 : Mst :=
  (sIf ((bNot ((eT ((eCall m_is_name [] [eVar 1]))))))
  ((sRaise0 "BadName"))
  (sNil))
def st_Diners_put_diner_2 : Mst :=
  (sIf ((eT (ePr pIn [eVar 1, (ePr (pFld ["Diners"] "known") [eVar 0])])))
  ((sRaise0 "Twice"))
  (sNil))
def st_Diners_put_diner_3 : Mst :=
  (sIf ((eT (ePr pEq [(ePr pLen [(ePr (pFld ["Diners"] "known") [eVar 0])]), eC (.int 6)])))
  ((sRaise0 "TooMany"))
  (sNil))
def st_Diners_put_diner_4 : Mst :=
  (sIf ((bNot ((eT ((eCall m_are_names [] [eVar 2]))))))
  ((sRaise0 "BadName"))
  (sNil))
def st_Diners_put_diner_5 : Mst :=
  (sIf ((eT (ePr pLt [(ePr pLenSet [eVar 2]), (ePr pLen [eVar 2])])))
  ((sRaise0 "Twice"))
  (sNil))
def st_Diners_put_diner_6 : Mst :=
  (sIf ((eT (ePr pGt [(ePr pLen [eVar 2]), eC (.int 6)])))
  ((sRaise0 "TooMany"))
  (sNil))
def st_Diners_put_diner_7 : Mst :=
  (sPut2 0 (πFld 0 pHere ["Diners"] "known") ((ePr pList3 [eVar 2])) (eVar 1))
def g_Diners_put_diner : Mst :=
  (sSeq (st_Diners_put_diner_1)
  ((sSeq (st_Diners_put_diner_2)
  ((sSeq (st_Diners_put_diner_3)
  ((sSeq (st_Diners_put_diner_4)
  ((sSeq (st_Diners_put_diner_5)
  ((sSeq (st_Diners_put_diner_6)
  (st_Diners_put_diner_7))))))))))))
def m_Diners_put_diner : MM := bodyMM 3 [0] g_Diners_put_diner
def g__law_put : Mst :=
  (sSeq ((sSet 3 (eC .non)))
  ((sSeq ((sTryK xb_m_LarderError
  ((xOn (xMeth "Diners" "put_diner" m_Diners_put_diner [.pl 0 pHere, .hd (eVar 1), .hd (eVar 2)] []) (fun _ ρ => some (.nx, ρ)))) 4 3))
  ((sRetV 3)))))
def m__law_put : MM := bodyMM 5 [0] g__law_put
def lb__law_stands_1 : Mst :=
  (sSeq ((sSet 5 ((eMeth "Diners" "avoids_of" m_Diners_avoids_of [] (eVar 0) [eVar 4]))))
  ((sSeq ((sIf ((bOr ((bNot ((eT ((eIsi (nbTy "list") (fun _ => none) (eVar 5))))))) ((eT (ePr pNe [eVar 5, (ePr pIx [eVar 1, eVar 4])])))))
  ((sRet (eC (.bl false))))
  (sNil)))
  ((sMut 5 pHere mApp (eL [eC (.str "more")]))))))
def lp__law_stands_1 : Mst :=
  (sForK 1 pHere (tgName 4)
  (lb__law_stands_1))
def lb__law_stands_2 : Mst :=
  (sSeq ((sSet 3 ((eMeth "Diners" "all_diners" m_Diners_all_diners [] (eVar 0) []))))
  ((sSeq ((sIf ((bOr ((bNot ((eT ((eIsi (nbTy "list") (fun _ => none) (eVar 3))))))) ((eT (ePr pNe [eVar 3, (ePr pList3 [eVar 1])])))))
  ((sRet (eC (.bl false))))
  (sNil)))
  ((sSeq ((sMut 3 pHere mApp (eL [eC (.str "more")])))
  (lp__law_stands_1))))))
def lp__law_stands_2 : Mst :=
  (sFor (itR1 [eC (.int 2)]) (tgName 2)
  (lb__law_stands_2))
def g__law_stands : Mst :=
  (sSeq (lp__law_stands_2)
  ((sRet (eC (.bl true)))))
def m__law_stands : List D → Ot D := bodyM 6 g__law_stands
def cc__law_odd_diner_1 : En → Ot Bool :=
  (eT (ePr pNotIn [eVar 4, eVar 2]))
def cp__law_odd_diner_1 : En → Ot D :=
  eComp (itV ((ePr pAdd [eVar 1, (ePr pLst [eC (.str "zzzzzzzzzzzz")])]))) (tgName 4) cc__law_odd_diner_1 (eVar 4) [4]
def g__law_odd_diner : Mst :=
  (sSeq ((sSet 3 (cp__law_odd_diner_1)))
  ((sRetF ((ePr pIx [(ePr pLst [(ePr pIx [eVar 3, (ePr pMod [(ePr pDiv [eVar 0, eC (.int 9)]), (ePr pLen [eVar 3])])]), eC .non, eC (.int 5), (ePr pLst [eC (.str "a")]), eC (.bl true), eC (.str ""), (ePr pTup []), eC (.nd (.dct .own []) []), eC (.int 0)]), (ePr pMod [eVar 0, eC (.int 9)])])))))
def m__law_odd_diner : List D → Ot D := bodyM 5 g__law_odd_diner
def st_law_1 : Mst :=
  (sSet 7 ((eCall m__law_number [] [eVar 0, (ePr pAdd [eVar 4, eC (.int 1)])])))
def st_law_2 : Mst :=
  (sSet 8 ((eCall m__law_name [] [(ePr pDiv [eVar 7, eC (.int 40)]), eVar 1])))
def st_law_3 : Mst :=
  (sSet 9 ((eCall m__law_avoids [] [(ePr pDiv [eVar 7, eC (.int 7)]), eVar 1])))
def st_law_4 : Mst :=
  (sIf ((eT (ePr pEq [(ePr pMod [eVar 7, eC (.int 13)]), eC (.int 1)])))
  ((sSeq ((sFzD 2 (sFzP 5 pHere (sMut 3 pHere mApp (eL [(ePr pTup [eVar 5, (ePr pDictD [eVar 2])])])))))
  ((sSet 5 ((eMeth "Diners" "copied" m_Diners_copied [] (eVar 5) []))))))
  (sNil))
def st_law_5 : Mst :=
  (sSet 10 ((eIf ((eT ((eIsi (nbTy "list") (fun _ => none) (eVar 9))))) ((ePr pList3 [eVar 9])) (eVar 9))))
def st_law_6 : Mst :=
  (sIfX (xOrT (xTr (xL pNe (xC1 m__law_word (xCall m__law_put [.pl 5 pHere, .hd (eVar 8), .hd (eVar 10)] [])) (eVar 11))) (xPT ((eT (ePr pNe2 [eVar 10, eVar 9])))))
  ((sRet (eC (.bl false))))
  (sNil))
def st_law_7 : Mst :=
  (sIf ((eT ((eIsi (nbTy "list") (fun _ => none) (eVar 10)))))
  ((sMut 10 pHere mApp (eL [eC (.str "more")])))
  (sNil))
def st_law_8 : Mst :=
  (sIf ((eT (ePr pEq [eVar 11, eC (.str "")])))
  ((sPut2 2 pHere ((ePr pList3 [eVar 9])) (eVar 8)))
  (sNil))
def st_law_9 : Mst :=
  (sIf ((bOr ((bNot ((eT ((eCall m__law_stands [] [eVar 5, eVar 2])))))) ((bNot ((eT ((eCall m__law_none_there [] [eVar 5, (eCall m__law_odd_diner [] [(ePr pDiv [eVar 7, eC (.int 3)]), eVar 1, eVar 2])]))))))))
  ((sRet (eC (.bl false))))
  (sNil))
def lb_law_1 : Mst :=
  (sSeq (st_law_1)
  ((sSeq (st_law_2)
  ((sSeq (st_law_3)
  ((sSeq (st_law_4)
  ((sSeq (st_law_5)
  ((sSeq ((sSet 11 ((eCall m__law_due [] [eVar 2, eVar 8, eVar 9]))))
  ((sSeq (st_law_6)
  ((sSeq (st_law_7)
  ((sSeq (st_law_8)
  (st_law_9))))))))))))))))))
def lp_law_1 : Mst :=
  (sFor (itR1 [(ePr pMin [eC (.int 63), (ePr pLen [eVar 0])])]) (tgName 4)
  (lb_law_1))
def lb_law_2 : Mst :=
  (sIf ((bNot ((eT ((eCall m__law_stands [] [eVar 12, eVar 13]))))))
  ((sRet (eC (.bl false))))
  (sNil))
def lp_law_2 : Mst :=
  (sFz 3 (sFor (itV (eVar 3)) (tgTup [(tgName 12), (tgName 13)])
  (lb_law_2)))
def st_law_10 : Mst :=
  (sIf ((bNot ((eT ((eCall0 m__law_deep_right []))))))
  ((sRet (eC (.bl false))))
  (sNil))
def st_law_11 : Mst :=
  (sSet 1 ((eCall m__law_names [] [(eCall m__law_number [] [eVar 0, eC (.int 0)]), eC (.int 9)])))
def st_law_12 : Mst :=
  (sPar [5, 6] [(eMake "Diners" m_Diners___init__ [] []), (eMake "Diners" m_Diners___init__ [] [])])
def st_law_13 : Mst :=
  (sIf ((bOr ((bNot ((eT ((eCall m__law_stands [] [eVar 6, eC (.nd (.dct .own []) [])])))))) ((bNot ((eT ((eCall m__law_none_there [] [eVar 6, (ePr pIx [eVar 1, eC (.int 0)])]))))))))
  ((sRet (eC (.bl false))))
  (sNil))
def st_law_14 : Mst :=
  (sRet ((eAnd ((eCall m__law_stands [] [eVar 5, eVar 2])) ((eCall m__law_none_there [] [eVar 5, eC (.str "zzzzzzzzzzzz")])))))
def g_law : Mst :=
  (sSeq (st_law_10)
  ((sSeq (st_law_11)
  ((sSeq (st_law_12)
  ((sSeq ((sSet 2 (eC (.nd (.dct .own []) []))))
  ((sSeq ((sSet 3 ((ePr pLst []))))
  ((sSeq (lp_law_1)
  ((sSeq (lp_law_2)
  ((sSeq (st_law_13)
  (st_law_14))))))))))))))))
def m_law : List D → Ot D := bodyM 14 g_law
end
structure Txt (K : PySem.W.Frag) (mg : Str → Option Value) (cm : Cm) : Prop where
  c_MOST_LETTERS : ∃ t, mg "MOST_LETTERS" = some (.int 12 t)
  c_LETTERS : ∃ t, mg "LETTERS" = some (.str "abcdefghijklmnopqrstuvwxyz" t)
  c_MOST_DINERS : ∃ t, mg "MOST_DINERS" = some (.int 6 t)
  c_MOST_AVOIDED : ∃ t, mg "MOST_AVOIDED" = some (.int 6 t)
  n_isinstance : mg "isinstance" = none
  n_sorted : mg "sorted" = none
  n_len : mg "len" = none
  n_ValueError : mg "ValueError" = none
  n_all : mg "all" = none
  n_str : mg "str" = none
  n_list : mg "list" = none
  n_set : mg "set" = none
  n_bool : mg "bool" = none
  n_range : mg "range" = none
  n_tuple : mg "tuple" = none
  n_dict : mg "dict" = none
  n_min : mg "min" = none
  f_known : ∀ c ∈ (["Diners"] : List Str), Cls K (cm c) ∧ NoAttr K (cm c) "known"
  f_name : ∀ c ∈ ([] : List Str), Cls K (cm c) ∧ NoAttr K (cm c) "name"
  g_BadName : mg "BadName" = some (.ref (cm "BadName"))
  g_Twice : mg "Twice" = some (.ref (cm "Twice"))
  g_TooMany : mg "TooMany" = some (.ref (cm "TooMany"))
  g_NoDiner : mg "NoDiner" = some (.ref (cm "NoDiner"))
  g_BadAmount : mg "BadAmount" = some (.ref (cm "BadAmount"))
  g_BadDay : mg "BadDay" = some (.ref (cm "BadDay"))
  g_BadLine : mg "BadLine" = some (.ref (cm "BadLine"))
  g_BadWish : mg "BadWish" = some (.ref (cm "BadWish"))
  g_FromNothing : mg "FromNothing" = some (.ref (cm "FromNothing"))
  g_Lacking : mg "Lacking" = some (.ref (cm "Lacking"))
  g_NoDeed : mg "NoDeed" = some (.ref (cm "NoDeed"))
  g_NoGood : mg "NoGood" = some (.ref (cm "NoGood"))
  g_NoMeasure : mg "NoMeasure" = some (.ref (cm "NoMeasure"))
  g_NoRecipe : mg "NoRecipe" = some (.ref (cm "NoRecipe"))
  g_NoSwap : mg "NoSwap" = some (.ref (cm "NoSwap"))
  g_LarderError : mg "LarderError" = some (.ref (cm "LarderError"))
  x0_BadName : Xc0 K (cm "BadName")
  x0_Twice : Xc0 K (cm "Twice")
  x0_TooMany : Xc0 K (cm "TooMany")
  bi_LarderError : BaseI K (cm "LarderError")
  xb_BadName : ∀ c b, xb_BadName c = some b → PySem.W.kitOne K (.ref (cm c)) (.ref (cm "BadName")) = some b ∧ XcI K (cm c)
  nb_BadName : ∀ n b, nbNone false n = some b → PySem.W.kitOne K (.type n) (.ref (cm "BadName")) = some b
  xb_Twice : ∀ c b, xb_Twice c = some b → PySem.W.kitOne K (.ref (cm c)) (.ref (cm "Twice")) = some b ∧ XcI K (cm c)
  nb_Twice : ∀ n b, nbNone false n = some b → PySem.W.kitOne K (.type n) (.ref (cm "Twice")) = some b
  xb_TooMany : ∀ c b, xb_TooMany c = some b → PySem.W.kitOne K (.ref (cm c)) (.ref (cm "TooMany")) = some b ∧ XcI K (cm c)
  nb_TooMany : ∀ n b, nbNone false n = some b → PySem.W.kitOne K (.type n) (.ref (cm "TooMany")) = some b
  xb_NoDiner : ∀ c b, xb_NoDiner c = some b → PySem.W.kitOne K (.ref (cm c)) (.ref (cm "NoDiner")) = some b ∧ XcI K (cm c)
  nb_NoDiner : ∀ n b, nbNone false n = some b → PySem.W.kitOne K (.type n) (.ref (cm "NoDiner")) = some b
  xb_BadAmount : ∀ c b, xb_BadAmount c = some b → PySem.W.kitOne K (.ref (cm c)) (.ref (cm "BadAmount")) = some b ∧ XcI K (cm c)
  nb_BadAmount : ∀ n b, nbNone false n = some b → PySem.W.kitOne K (.type n) (.ref (cm "BadAmount")) = some b
  xb_BadDay : ∀ c b, xb_BadDay c = some b → PySem.W.kitOne K (.ref (cm c)) (.ref (cm "BadDay")) = some b ∧ XcI K (cm c)
  nb_BadDay : ∀ n b, nbNone false n = some b → PySem.W.kitOne K (.type n) (.ref (cm "BadDay")) = some b
  xb_BadLine : ∀ c b, xb_BadLine c = some b → PySem.W.kitOne K (.ref (cm c)) (.ref (cm "BadLine")) = some b ∧ XcI K (cm c)
  nb_BadLine : ∀ n b, nbNone false n = some b → PySem.W.kitOne K (.type n) (.ref (cm "BadLine")) = some b
  xb_BadWish : ∀ c b, xb_BadWish c = some b → PySem.W.kitOne K (.ref (cm c)) (.ref (cm "BadWish")) = some b ∧ XcI K (cm c)
  nb_BadWish : ∀ n b, nbNone false n = some b → PySem.W.kitOne K (.type n) (.ref (cm "BadWish")) = some b
  xb_FromNothing : ∀ c b, xb_FromNothing c = some b → PySem.W.kitOne K (.ref (cm c)) (.ref (cm "FromNothing")) = some b ∧ XcI K (cm c)
  nb_FromNothing : ∀ n b, nbNone false n = some b → PySem.W.kitOne K (.type n) (.ref (cm "FromNothing")) = some b
  xb_Lacking : ∀ c b, xb_Lacking c = some b → PySem.W.kitOne K (.ref (cm c)) (.ref (cm "Lacking")) = some b ∧ XcI K (cm c)
  nb_Lacking : ∀ n b, nbNone false n = some b → PySem.W.kitOne K (.type n) (.ref (cm "Lacking")) = some b
  xb_NoDeed : ∀ c b, xb_NoDeed c = some b → PySem.W.kitOne K (.ref (cm c)) (.ref (cm "NoDeed")) = some b ∧ XcI K (cm c)
  nb_NoDeed : ∀ n b, nbNone false n = some b → PySem.W.kitOne K (.type n) (.ref (cm "NoDeed")) = some b
  xb_NoGood : ∀ c b, xb_NoGood c = some b → PySem.W.kitOne K (.ref (cm c)) (.ref (cm "NoGood")) = some b ∧ XcI K (cm c)
  nb_NoGood : ∀ n b, nbNone false n = some b → PySem.W.kitOne K (.type n) (.ref (cm "NoGood")) = some b
  xb_NoMeasure : ∀ c b, xb_NoMeasure c = some b → PySem.W.kitOne K (.ref (cm c)) (.ref (cm "NoMeasure")) = some b ∧ XcI K (cm c)
  nb_NoMeasure : ∀ n b, nbNone false n = some b → PySem.W.kitOne K (.type n) (.ref (cm "NoMeasure")) = some b
  xb_NoRecipe : ∀ c b, xb_NoRecipe c = some b → PySem.W.kitOne K (.ref (cm c)) (.ref (cm "NoRecipe")) = some b ∧ XcI K (cm c)
  nb_NoRecipe : ∀ n b, nbNone false n = some b → PySem.W.kitOne K (.type n) (.ref (cm "NoRecipe")) = some b
  xb_NoSwap : ∀ c b, xb_NoSwap c = some b → PySem.W.kitOne K (.ref (cm c)) (.ref (cm "NoSwap")) = some b ∧ XcI K (cm c)
  nb_NoSwap : ∀ n b, nbNone false n = some b → PySem.W.kitOne K (.type n) (.ref (cm "NoSwap")) = some b
  xb_ValueError : ∀ c b, xb_ValueError c = some b → PySem.W.kitOne K (.ref (cm c)) (.type "ValueError") = some b ∧ XcI K (cm c)
  m_LarderError : ∀ d b, xb_m_LarderError d = some b → PySem.W.exmOne K (.ref (cm d)) (.ref (cm "LarderError")) = some b
  fx_name : ∀ c ∈ x_name, XcI K (cm c) ∧ PySem.W.findIn K (.ref (cm c)) "name" = some none
  dig : PySem.W.nsIn K cStatics "sys.int_max_str_digits" = some none
section
variable {w : World} {K : PySem.W.Frag} {mg : Str → Option Value} {base : Heap} {cm : Cm} {f : Addr} {fd : FuncData} {dvs : List V} {kws : List (Str × V)}
abbrev s_NoDiner___init__ : Stmt := (clsB (top 11)).getD 0 (.Pass ⟨0, 0, 0, 0⟩)
abbrev N_NoDiner___init__ : List Str := ["self", "name"]
theorem sc_NoDiner___init__ : FnScope N_NoDiner___init__ ["self", "name"] (defScope s_NoDiner___init__) := ⟨rfl, rfl, rfl, by decide +kernel, rfl, by decide +kernel, by decide +kernel⟩
theorem ok_NoDiner___init__ (T : Txt K mg cm) (F : FunD K "__init__" "NoDiner.__init__" (defArgs s_NoDiner___init__) (defBody s_NoDiner___init__) (defScope s_NoDiner___init__) dvs kws f fd) : FnOk P0 w K mg base (L2.CX P0 w) 1 f fd ["self", "name"] (spXI K (cm "NoDiner") "name" gId) := by
  refine fn_xinit F sc_NoDiner___init__ rfl fun cdv A outer s H E hr => ?_
  exact xi_body gId_mono (pe_baseI (by rfl) T.g_LarderError T.bi_LarderError (pa_cons (pv 0) (pa_cons pe_str pa_nil))) (pv 0) (PE.imp (pv 1) fun σ H Q h => h)
abbrev s_Diners___init__ : Stmt := (clsB (top 26)).getD 0 (.Pass ⟨0, 0, 0, 0⟩)
abbrev N_Diners___init__ : List Str := ["self"]
theorem sc_Diners___init__ : FnScope N_Diners___init__ ["self"] (defScope s_Diners___init__) := ⟨rfl, rfl, rfl, by decide +kernel, rfl, by decide +kernel, by decide +kernel⟩
theorem ok_Diners___init__ (T : Txt K mg cm) (F : FunD K "__init__" "Diners.__init__" (defArgs s_Diners___init__) (defBody s_Diners___init__) (defScope s_Diners___init__) dvs kws f fd) : FnOk P0 w K mg base (L2.CX P0 w) 1 f fd ["self"] (spM K cm 1 [0] m_Diners___init__) := by
  refine fn_mut (N := N_Diners___init__) (g := g_Diners___init__) F sc_Diners___init__ (by decide) (by decide) fun cdv A outer s H E hr => ?_
  exact (sb_one (ss_fld T.f_known (sp2_name (pv 0)) s_dict0))
abbrev s__law_word : Stmt := top 30
abbrev N__law_word : List Str := ["_law_error", "_law_some", "_law_others", "_law_found", "_law_word_here"]
theorem sc__law_word : FnScope N__law_word ["_law_error"] (defScope s__law_word) := ⟨rfl, rfl, rfl, by decide +kernel, rfl, by decide +kernel, by decide +kernel⟩
theorem ok__law_word (T : Txt K mg cm) (F : Fun K "_law_word" "_law_word" s__law_word f fd) : FnOk P0 w K mg base (L2.CX P0 w) 1 f fd ["_law_error"] (spP K cm 1 m__law_word) := by
  refine fn_pure (N := N__law_word) (g := g__law_word) F sc__law_word (by decide) fun cdv A outer s H E hr => ?_
  exact (sb_cons (ss_if (st_cmp op_isQ ok_is (s_var (pv 0)) s_non (nomark _))
    (sb_one (ss_ret s_str))
    sb_nil)
    (sb_cons (ss_set (by rfl) (ps_set (i := 1) sc__law_word.nd rfl (by first | exact Or.inl rfl | exact Or.inr rfl) (s_disp (pps_str (s_isX T.nb_BadName (fun _ _ h => nomatch h) T.xb_BadName (.own (cm "BadName")) (by rfl) T.n_isinstance (by decide +kernel) (s_var (pv 0)) (pe_glob (by rfl) T.g_BadName rfl (by decide))) (pps_str (s_isX T.nb_Twice (fun _ _ h => nomatch h) T.xb_Twice (.own (cm "Twice")) (by rfl) T.n_isinstance (by decide +kernel) (s_var (pv 0)) (pe_glob (by rfl) T.g_Twice rfl (by decide))) (pps_ok rfl rfl))) rfl rfl rfl (by simp) (by decide))))
    (sb_cons (ss_put2 (hu_of hr) (sp2_name (pv 1)) (s_isX T.nb_TooMany (fun _ _ h => nomatch h) T.xb_TooMany (.own (cm "TooMany")) (by rfl) T.n_isinstance (by decide +kernel) (s_var (pv 0)) (pe_glob (by rfl) T.g_TooMany rfl (by decide))) s_str)
    (sb_cons (ss_put2 (hu_of hr) (sp2_name (pv 1)) (s_isX T.nb_NoDiner (fun _ _ h => nomatch h) T.xb_NoDiner (.own (cm "NoDiner")) (by rfl) T.n_isinstance (by decide +kernel) (s_var (pv 0)) (pe_glob (by rfl) T.g_NoDiner rfl (by decide))) s_str)
    (sb_cons (ss_set (by rfl) (ps_set (i := 2) sc__law_word.nd rfl (by first | exact Or.inl rfl | exact Or.inr rfl) (s_lst (sa_cons (s_isX T.nb_BadAmount (fun _ _ h => nomatch h) T.xb_BadAmount (.own (cm "BadAmount")) (by rfl) T.n_isinstance (by decide +kernel) (s_var (pv 0)) (pe_glob (by rfl) T.g_BadAmount rfl (by decide))) (sa_cons (s_isX T.nb_BadDay (fun _ _ h => nomatch h) T.xb_BadDay (.own (cm "BadDay")) (by rfl) T.n_isinstance (by decide +kernel) (s_var (pv 0)) (pe_glob (by rfl) T.g_BadDay rfl (by decide))) (sa_cons (s_isX T.nb_BadLine (fun _ _ h => nomatch h) T.xb_BadLine (.own (cm "BadLine")) (by rfl) T.n_isinstance (by decide +kernel) (s_var (pv 0)) (pe_glob (by rfl) T.g_BadLine rfl (by decide))) sa_nil))))))
    (sb_cons (ss_set (by rfl) (ps_set (i := 2) sc__law_word.nd rfl (by first | exact Or.inl rfl | exact Or.inr rfl) (s_op op_add4 ok_add (s_var (pv 2)) (s_lst (sa_cons (s_isX T.nb_BadWish (fun _ _ h => nomatch h) T.xb_BadWish (.own (cm "BadWish")) (by rfl) T.n_isinstance (by decide +kernel) (s_var (pv 0)) (pe_glob (by rfl) T.g_BadWish rfl (by decide))) (sa_cons (s_isX T.nb_FromNothing (fun _ _ h => nomatch h) T.xb_FromNothing (.own (cm "FromNothing")) (by rfl) T.n_isinstance (by decide +kernel) (s_var (pv 0)) (pe_glob (by rfl) T.g_FromNothing rfl (by decide))) (sa_cons (s_isX T.nb_Lacking (fun _ _ h => nomatch h) T.xb_Lacking (.own (cm "Lacking")) (by rfl) T.n_isinstance (by decide +kernel) (s_var (pv 0)) (pe_glob (by rfl) T.g_Lacking rfl (by decide))) sa_nil)))))))
    (sb_cons (ss_set (by rfl) (ps_set (i := 2) sc__law_word.nd rfl (by first | exact Or.inl rfl | exact Or.inr rfl) (s_op op_add4 ok_add (s_var (pv 2)) (s_lst (sa_cons (s_isX T.nb_NoDeed (fun _ _ h => nomatch h) T.xb_NoDeed (.own (cm "NoDeed")) (by rfl) T.n_isinstance (by decide +kernel) (s_var (pv 0)) (pe_glob (by rfl) T.g_NoDeed rfl (by decide))) (sa_cons (s_isX T.nb_NoGood (fun _ _ h => nomatch h) T.xb_NoGood (.own (cm "NoGood")) (by rfl) T.n_isinstance (by decide +kernel) (s_var (pv 0)) (pe_glob (by rfl) T.g_NoGood rfl (by decide))) (sa_cons (s_isX T.nb_NoMeasure (fun _ _ h => nomatch h) T.xb_NoMeasure (.own (cm "NoMeasure")) (by rfl) T.n_isinstance (by decide +kernel) (s_var (pv 0)) (pe_glob (by rfl) T.g_NoMeasure rfl (by decide))) sa_nil)))))))
    (sb_cons (ss_set (by rfl) (ps_set (i := 2) sc__law_word.nd rfl (by first | exact Or.inl rfl | exact Or.inr rfl) (s_op op_add4 ok_add (s_var (pv 2)) (s_lst (sa_cons (s_isX T.nb_NoRecipe (fun _ _ h => nomatch h) T.xb_NoRecipe (.own (cm "NoRecipe")) (by rfl) T.n_isinstance (by decide +kernel) (s_var (pv 0)) (pe_glob (by rfl) T.g_NoRecipe rfl (by decide))) (sa_cons (s_isX T.nb_NoSwap (fun _ _ h => nomatch h) T.xb_NoSwap (.own (cm "NoSwap")) (by rfl) T.n_isinstance (by decide +kernel) (s_var (pv 0)) (pe_glob (by rfl) T.g_NoSwap rfl (by decide))) sa_nil))))))
    (sb_cons (ss_setC (i := 3) (by rfl) rfl rfl (sw_true rfl rfl rfl (by decide +kernel)) (own := [("_law_word_here", 4)]) (by rfl) sc__law_word.nd (si_val (s_callB (cr_sort (by rfl)) ok_sort (by rfl) T.n_sorted (by decide +kernel) (sa_cons (s_var (pv 1)) sa_nil))) (blkOk_by (N := N__law_word) (sc := defScope s__law_word) (own := [("_law_word_here", 4)]) (by decide +kernel)) (by rfl) okTg_name (fun _ _ _ _ _ => (pg_name (i := 4) sc__law_word.nd rfl (by first | exact Or.inl rfl | exact Or.inr rfl))) (fun _ _ _ _ _ => (pts_one (st_val (s_ix (ix_4 (hu_of hr)) ok_ix (s_var (pv 1)) (s_var (pv 4)))))) (fun _ _ _ h => h) (fun _ _ _ _ _ => (s_var (pv 4))))
    (sb_cons (ss_if (st_w (sw_or (st_cmp (op_neQ hr.units) ok_ne (s_callB call_len2 ok_len (by rfl) T.n_len (by decide +kernel) (sa_cons (s_var (pv 3)) sa_nil)) s_int (nomark _)) (sw_or (st_cmp (op_in3 (hu_of hr)) ok_in s_bl (s_var (pv 2)) rfl) (sw_or1 (st_not (st_val (s_isX nbV_ok (fun _ _ h => nomatch h) T.xb_ValueError (.ty "ValueError") (by rfl) T.n_isinstance (by decide +kernel) (s_var (pv 0)) (pe_bltn (v := .ty "ValueError") (by rfl) T.n_ValueError (by decide +kernel) rfl))))))))
    (sb_one (ss_ret s_str))
    sb_nil)
    (sb_one (ss_retF (s_ix (ix_4 (hu_of hr)) ok_ix (s_var (pv 3)) s_int)))))))))))))
abbrev s_are_signs : Stmt := top 20
abbrev N_are_signs : List Str := ["text", "signs", "sign"]
theorem sc_are_signs : FnScope N_are_signs ["text", "signs"] (defScope s_are_signs) := ⟨rfl, rfl, rfl, by decide +kernel, rfl, by decide +kernel, by decide +kernel⟩
theorem ok_are_signs (T : Txt K mg cm) (F : Fun K "are_signs" "are_signs" s_are_signs f fd) : FnOk P0 w K mg base (L2.CX P0 w) 1 f fd ["text", "signs"] (spP K cm 2 m_are_signs) := by
  refine fn_pure (N := N_are_signs) (g := g_are_signs) F sc_are_signs (by decide) fun cdv A outer s H E hr => ?_
  exact (sb_one (ss_ret (s_callB (cr_all (by rfl)) ok_all (by rfl) T.n_all (by decide +kernel) (sa_cons (s_comp (own := [("sign", 2)]) (by rfl) sc_are_signs.nd (si_val (s_var (pv 0))) (blkOk_by (N := N_are_signs) (sc := defScope s_are_signs) (own := [("sign", 2)]) (by decide +kernel)) (by rfl) okTg_name (fun _ _ _ _ _ => (pg_name (i := 2) sc_are_signs.nd rfl (by first | exact Or.inl rfl | exact Or.inr rfl))) (fun _ _ _ _ _ => pts_nil) yes_T (fun _ _ _ _ _ => (s_cmp (op_in3 (hu_of hr)) ok_in (s_var (pv 2)) (s_var (pv 1)) rfl))) sa_nil))))
abbrev s_is_name : Stmt := top 21
abbrev N_is_name : List Str := ["thing"]
theorem sc_is_name : FnScope N_is_name ["thing"] (defScope s_is_name) := ⟨rfl, rfl, rfl, by decide +kernel, rfl, by decide +kernel, by decide +kernel⟩
theorem ok_is_name (T : Txt K mg cm) (F : Fun K "is_name" "is_name" s_is_name f fd) (G_are_signs : Good P0 w K mg base cm "are_signs" 2 1 m_are_signs) : FnOk P0 w K mg base (L2.CX P0 w) 2 f fd ["thing"] (spP K cm 1 m_is_name) := by
  obtain ⟨_, h_MOST_LETTERS⟩ := T.c_MOST_LETTERS
  obtain ⟨_, h_LETTERS⟩ := T.c_LETTERS
  refine fn_pure (N := N_is_name) (g := g_is_name) F sc_is_name (by decide) fun cdv A outer s H E hr => ?_
  exact (sb_one (ss_ret (s_and (s_isiT (by rfl) T.n_isinstance (by decide +kernel) (s_var (pv 0)) (pe_bltn (v := .ty "str") (by rfl) T.n_str (by decide +kernel) rfl)) (s_and (s_chain op_le op_le ok_le ok_le s_int (s_callB call_len2 ok_len (by rfl) T.n_len (by decide +kernel) (sa_cons (s_var (pv 0)) sa_nil)) (s_globI (by rfl) h_MOST_LETTERS) (fun _ _ _ h => mid_le h)) (s_one (s_callG (takes_of rfl rfl rfl rfl) G_are_signs hr (by decide) (by rfl) (by rfl) (sa_cons (s_var (pv 0)) (sa_cons (s_globS (by rfl) h_LETTERS) sa_nil))))))))
abbrev s_are_names : Stmt := top 25
abbrev N_are_names : List Str := ["thing", "name"]
theorem sc_are_names : FnScope N_are_names ["thing"] (defScope s_are_names) := ⟨rfl, rfl, rfl, by decide +kernel, rfl, by decide +kernel, by decide +kernel⟩
theorem ok_are_names (T : Txt K mg cm) (F : Fun K "are_names" "are_names" s_are_names f fd) (G_is_name : Good P0 w K mg base cm "is_name" 1 2 m_is_name) : FnOk P0 w K mg base (L2.CX P0 w) 3 f fd ["thing"] (spP K cm 1 m_are_names) := by
  refine fn_pure (N := N_are_names) (g := g_are_names) F sc_are_names (by decide) fun cdv A outer s H E hr => ?_
  exact (sb_one (ss_ret (s_and (s_isiT (by rfl) T.n_isinstance (by decide +kernel) (s_var (pv 0)) (pe_bltn (v := .ty "list") (by rfl) T.n_list (by decide +kernel) rfl)) (s_one (s_callB (cr_all (by rfl)) ok_all (by rfl) T.n_all (by decide +kernel) (sa_cons (s_comp (own := [("name", 1)]) (by rfl) sc_are_names.nd (si_val (s_var (pv 0))) (blkOk_by (N := N_are_names) (sc := defScope s_are_names) (own := [("name", 1)]) (by decide +kernel)) (by rfl) okTg_name (fun _ _ _ _ _ => (pg_name (i := 1) sc_are_names.nd rfl (by first | exact Or.inl rfl | exact Or.inr rfl))) (fun _ _ _ _ _ => pts_nil) yes_T (fun _ _ _ _ _ => (s_callG takes0 G_is_name hr (by decide) (by rfl) (by rfl) (sa_cons (s_var (pv 1)) sa_nil)))) sa_nil))))))
abbrev s_Diners_put_diner_R : Stmt := (clsB (top 26)).getD 2 (.Pass ⟨0, 0, 0, 0⟩)
abbrev N_Diners_put_diner_R : List Str := ["self", "name", "avoids"]
theorem sc_Diners_put_diner_R : FnScope N_Diners_put_diner_R ["self", "name", "avoids"] (defScope s_Diners_put_diner_R) := ⟨rfl, rfl, rfl, by decide +kernel, rfl, by decide +kernel, by decide +kernel⟩
theorem ok_Diners_put_diner_R (T : Txt K mg cm) (F : FunD K "put_diner" "Diners.put_diner" (defArgs s_Diners_put_diner_R) (defBody s_Diners_put_diner_R) (defScope s_Diners_put_diner_R) dvs kws f fd) (G_is_name : Good P0 w K mg base cm "is_name" 1 2 m_is_name) (G_are_names : Good P0 w K mg base cm "are_names" 1 3 m_are_names) : FnOk P0 w K mg base (L2.CX P0 w) 4 f fd ["self", "name", "avoids"] (spP K cm 3 m_Diners_put_diner_R) := by
  obtain ⟨_, h_MOST_DINERS⟩ := T.c_MOST_DINERS
  obtain ⟨_, h_MOST_AVOIDED⟩ := T.c_MOST_AVOIDED
  refine fn_pureD (N := N_Diners_put_diner_R) (g := g_Diners_put_diner_R) F sc_Diners_put_diner_R (by decide) fun cdv A outer s H E hr => ?_
  exact (sb_cons (ss_if (st_not (st_val (s_callG (takes_of rfl rfl rfl rfl) G_is_name hr (by decide) (by rfl) (by rfl) (sa_cons (s_var (pv 1)) sa_nil))))
    (sb_one (ss_raise0 rfl (takes_of rfl rfl rfl rfl) T.x0_BadName T.g_BadName (by rfl)))
    sb_nil)
    (sb_cons (ss_if (st_cmp (op_in3 (hu_of hr)) ok_in (s_var (pv 1)) (s_fld T.f_known (s_var (pv 0))) rfl)
    (sb_one (ss_raise0 rfl (takes_of rfl rfl rfl rfl) T.x0_Twice T.g_Twice (by rfl)))
    sb_nil)
    (sb_cons (ss_if (st_cmp (op_eqQ hr.units) ok_eq (s_callB call_len2 ok_len (by rfl) T.n_len (by decide +kernel) (sa_cons (s_fld T.f_known (s_var (pv 0))) sa_nil)) (s_globI (by rfl) h_MOST_DINERS) (nomark _))
    (sb_one (ss_raise0 rfl (takes_of rfl rfl rfl rfl) T.x0_TooMany T.g_TooMany (by rfl)))
    sb_nil)
    (sb_cons (ss_if (st_not (st_val (s_callG (takes_of rfl rfl rfl rfl) G_are_names hr (by decide) (by rfl) (by rfl) (sa_cons (s_var (pv 2)) sa_nil))))
    (sb_one (ss_raise0 rfl (takes_of rfl rfl rfl rfl) T.x0_BadName T.g_BadName (by rfl)))
    sb_nil)
    (sb_cons (ss_if (st_cmp op_lt ok_lt (s_lenSet (by rfl) (by rfl) T.n_len (by rfl) T.n_set (s_var (pv 2))) (s_callB call_len2 ok_len (by rfl) T.n_len (by decide +kernel) (sa_cons (s_var (pv 2)) sa_nil)) (nomark _))
    (sb_one (ss_raise0 rfl (takes_of rfl rfl rfl rfl) T.x0_Twice T.g_Twice (by rfl)))
    sb_nil)
    (sb_cons (ss_if (st_cmp op_gt ok_gt (s_callB call_len2 ok_len (by rfl) T.n_len (by decide +kernel) (sa_cons (s_var (pv 2)) sa_nil)) (s_globI (by rfl) h_MOST_AVOIDED) (nomark _))
    (sb_one (ss_raise0 rfl (takes_of rfl rfl rfl rfl) T.x0_TooMany T.g_TooMany (by rfl)))
    sb_nil)
    (sb_one ss_never)))))))
abbrev s__law_put_R : Stmt := top 35
abbrev N__law_put_R : List Str := ["_law_diners", "_law_name_here", "_law_avoids_here", "_law_error", "e"]
theorem sc__law_put_R : FnScope N__law_put_R ["_law_diners", "_law_name_here", "_law_avoids_here"] (defScope s__law_put_R) := ⟨rfl, rfl, rfl, by decide +kernel, rfl, by decide +kernel, by decide +kernel⟩
theorem ok__law_put_R (T : Txt K mg cm) (F : Fun K "_law_put" "_law_put" s__law_put_R f fd) (Mt_Diners_put_diner_R_0 : GoodMt P0 w K mg base cm "Diners" "put_diner" 4 (spP K cm 3 m_Diners_put_diner_R) []) : FnOk P0 w K mg base (L2.CX P0 w) 5 f fd ["_law_diners", "_law_name_here", "_law_avoids_here"] (spP K cm 3 m__law_put_R) := by
  refine fn_pure (N := N__law_put_R) (g := g__law_put_R) F sc__law_put_R (by decide) fun cdv A outer s H E hr => ?_
  exact (sb_cons (ss_set (by rfl) (ps_set (i := 3) sc__law_put_R.nd rfl (by first | exact Or.inl rfl | exact Or.inr rfl) s_non))
    (sb_cons (ss_tryK (i := 4) (j := 3) rfl rfl rfl sc__law_put_R.nd rfl rfl rfl rfl (by decide) (by rfl) (by rfl) ⟨by rfl, by decide, .inl T.g_LarderError⟩ T.m_LarderError (takes_of rfl rfl rfl rfl) (fun _ _ => pv 4) (by rfl)
    (fun W pn xe tk po => (sb_one (ss_expr (s_meth tk Mt_Diners_put_diner_R_0 hr (by decide) (by rfl) (by rfl) (s_var (pv 0)) (sa_cons (s_var (pv 1)) (sa_cons (s_var (pv 2)) sa_nil)))))))
    (sb_one (ss_retV (by rfl) (pv 3)))))
abbrev s_Diners_avoids_of : Stmt := (clsB (top 26)).getD 3 (.Pass ⟨0, 0, 0, 0⟩)
abbrev N_Diners_avoids_of : List Str := ["self", "name"]
theorem sc_Diners_avoids_of : FnScope N_Diners_avoids_of ["self", "name"] (defScope s_Diners_avoids_of) := ⟨rfl, rfl, rfl, by decide +kernel, rfl, by decide +kernel, by decide +kernel⟩
theorem ok_Diners_avoids_of (T : Txt K mg cm) (F : FunD K "avoids_of" "Diners.avoids_of" (defArgs s_Diners_avoids_of) (defBody s_Diners_avoids_of) (defScope s_Diners_avoids_of) dvs kws f fd) (Xc_NoDiner : GoodXc P0 w K mg base cm "NoDiner" "name" 1 gId) : FnOk P0 w K mg base (L2.CX P0 w) 3 f fd ["self", "name"] (spP K cm 2 m_Diners_avoids_of) := by
  refine fn_pureD (N := N_Diners_avoids_of) (g := g_Diners_avoids_of) F sc_Diners_avoids_of (by decide) fun cdv A outer s H E hr => ?_
  exact (sb_cons (ss_if (st_w (sw_or (st_not (st_val (s_isiT (by rfl) T.n_isinstance (by decide +kernel) (s_var (pv 1)) (pe_bltn (v := .ty "str") (by rfl) T.n_str (by decide +kernel) rfl)))) (sw_or1 (st_cmp (op_notIn3 (hu_of hr)) ok_notIn (s_var (pv 1)) (s_fld T.f_known (s_var (pv 0))) rfl))))
    (sb_one (ss_raise1 rfl (takes_of rfl rfl rfl rfl) Xc_NoDiner okG_id hr (by decide) (by rfl) (s_var (pv 1))))
    sb_nil)
    (sb_one (ss_ret (s_callTy (CallR.or2 (call_listD (by rfl)) call_list_of) (OkPr.alt ok_listD ok_list pList3_alt) (by rfl) T.n_list (by decide +kernel) (sa_cons (s_ix (ix_4 (hu_of hr)) ok_ix (s_fld T.f_known (s_var (pv 0))) (s_var (pv 1))) sa_nil)))))
abbrev s__law_none_there : Stmt := top 36
abbrev N__law_none_there : List Str := ["_law_diners", "_law_name_here", "_law_error", "e"]
theorem sc__law_none_there : FnScope N__law_none_there ["_law_diners", "_law_name_here"] (defScope s__law_none_there) := ⟨rfl, rfl, rfl, by decide +kernel, rfl, by decide +kernel, by decide +kernel⟩
theorem ok__law_none_there (T : Txt K mg cm) (F : Fun K "_law_none_there" "_law_none_there" s__law_none_there f fd) (G__law_word : Good P0 w K mg base cm "_law_word" 1 1 m__law_word) (Mt_Diners_avoids_of_0 : GoodMt P0 w K mg base cm "Diners" "avoids_of" 3 (spP K cm 2 m_Diners_avoids_of) []) : FnOk P0 w K mg base (L2.CX P0 w) 4 f fd ["_law_diners", "_law_name_here"] (spP K cm 2 m__law_none_there) := by
  refine fn_pure (N := N__law_none_there) (g := g__law_none_there) F sc__law_none_there (by decide) fun cdv A outer s H E hr => ?_
  exact (sb_cons (ss_set (by rfl) (ps_set (i := 2) sc__law_none_there.nd rfl (by first | exact Or.inl rfl | exact Or.inr rfl) s_non))
    (sb_cons (ss_tryK (i := 3) (j := 2) rfl rfl rfl sc__law_none_there.nd rfl rfl rfl rfl (by decide) (by rfl) (by rfl) ⟨by rfl, by decide, .inl T.g_LarderError⟩ T.m_LarderError (takes_of rfl rfl rfl rfl) (fun _ _ => pv 3) (by rfl)
    (fun W pn xe tk po => (sb_one (ss_expr (s_meth tk Mt_Diners_avoids_of_0 hr (by decide) (by rfl) (by rfl) (s_var (pv 0)) (sa_cons (s_var (pv 1)) sa_nil))))))
    (sb_cons (ss_if (st_cmp (op_neQ hr.units) ok_ne (s_callG (takes_of rfl rfl rfl rfl) G__law_word hr (by decide) (by rfl) (by rfl) (sa_cons (s_var (pv 2)) sa_nil)) s_str (nomark _))
    (sb_one (ss_ret s_bl))
    sb_nil)
    (sb_one (ss_ret (s_and (s_cmp (op_eqQ hr.units) ok_eq (s_isiT (by rfl) T.n_isinstance (by decide +kernel) (s_fldX T.f_name T.fx_name (s_var (pv 2))) (pe_bltn (v := .ty "bool") (by rfl) T.n_bool (by decide +kernel) rfl)) (s_isiT (by rfl) T.n_isinstance (by decide +kernel) (s_var (pv 1)) (pe_bltn (v := .ty "bool") (by rfl) T.n_bool (by decide +kernel) rfl)) (nomark _)) (s_one (s_cmp (op_eq2 hr.eq2) ok_eq2 (s_fldX T.f_name T.fx_name (s_var (pv 2))) (s_var (pv 1)) (nomark _)))))))))
abbrev s_Diners_all_diners : Stmt := (clsB (top 26)).getD 1 (.Pass ⟨0, 0, 0, 0⟩)
abbrev N_Diners_all_diners : List Str := ["self"]
theorem sc_Diners_all_diners : FnScope N_Diners_all_diners ["self"] (defScope s_Diners_all_diners) := ⟨rfl, rfl, rfl, by decide +kernel, rfl, by decide +kernel, by decide +kernel⟩
theorem ok_Diners_all_diners (T : Txt K mg cm) (F : FunD K "all_diners" "Diners.all_diners" (defArgs s_Diners_all_diners) (defBody s_Diners_all_diners) (defScope s_Diners_all_diners) dvs kws f fd) : FnOk P0 w K mg base (L2.CX P0 w) 1 f fd ["self"] (spP K cm 1 m_Diners_all_diners) := by
  refine fn_pureD (N := N_Diners_all_diners) (g := g_Diners_all_diners) F sc_Diners_all_diners (by decide) fun cdv A outer s H E hr => ?_
  exact (sb_one (ss_ret (s_callTy (CallR.or2 (call_listD (by rfl)) call_list_of) (OkPr.alt ok_listD ok_list pList3_alt) (by rfl) T.n_list (by decide +kernel) (sa_cons (s_fld T.f_known (s_var (pv 0))) sa_nil))))
abbrev s__law_deep_right : Stmt := top 39
abbrev N__law_deep_right : List Str := ["_law_turn", "_law_some", "_law_words", "_law_deep", "_law_diners", "_law_name_here", "_law_avoids_here"]
theorem sc__law_deep_right : FnScope N__law_deep_right [] (defScope s__law_deep_right) := ⟨rfl, rfl, rfl, by decide +kernel, rfl, by decide +kernel, by decide +kernel⟩
theorem ok__law_deep_right (T : Txt K mg cm) (F : Fun K "_law_deep_right" "_law_deep_right" s__law_deep_right f fd) (G__law_word : Good P0 w K mg base cm "_law_word" 1 1 m__law_word) (G__law_put_R : Good P0 w K mg base cm "_law_put" 3 5 m__law_put_R) (G__law_none_there : Good P0 w K mg base cm "_law_none_there" 2 4 m__law_none_there) (Mt_Diners_all_diners_0 : GoodMt P0 w K mg base cm "Diners" "all_diners" 1 (spP K cm 1 m_Diners_all_diners) []) (Mk_Diners : GoodMk P0 w K mg base cm "Diners" 1 (spM K cm 1 [0] m_Diners___init__) []) : FnOk P0 w K mg base (L2.CX P0 w) 6 f fd [] (spP K cm 0 m__law_deep_right) := by
  refine fn_pure (N := N__law_deep_right) (g := g__law_deep_right) F sc__law_deep_right (by decide) fun cdv A outer s H E hr => ?_
  exact (sb_cons (ss_tgt (S := [3, 4]) (by rfl) (s_tup (sa_cons (s_lst sa_nil) (sa_cons (s_make0 (takes_of rfl rfl rfl rfl) Mk_Diners hr (by decide) (by rfl) (by rfl) (by rfl)) sa_nil))) (pg_tup (by rfl) (pgs_cons (pg_name (i := 3) sc__law_deep_right.nd rfl (by first | exact Or.inl rfl | exact Or.inr rfl)) (pgs_cons (pg_name (i := 4) sc__law_deep_right.nd rfl (by first | exact Or.inl rfl | exact Or.inr rfl)) pgs_nil))) (okTg_tup (n := 2) rfl (okTgs_cons okTg_name (okTgs_cons okTg_name okTgs_nil))))
    (sb_cons (ss_for (S := [0]) (passes_of rfl) rfl (si_r1 (by rfl) T.n_range (sa_cons s_int sa_nil)) (pg_name (i := 0) sc__law_deep_right.nd rfl (by first | exact Or.inl rfl | exact Or.inr rfl)) okTg_name (by rfl)
    (sb_one (ss_fzP 3 pHere (ss_set (by rfl) (ps_set (i := 3) sc__law_deep_right.nd rfl (by first | exact Or.inl rfl | exact Or.inr rfl) (s_lst (sa_cons (s_var (pv 3)) sa_nil)))))))
    (sb_fz 3 (sb_forget 3 (sb_cons (ss_set (by rfl) (ps_set (i := 1) sc__law_deep_right.nd rfl (by first | exact Or.inl rfl | exact Or.inr rfl) (s_lst (sa_cons (s_tup (sa_cons (s_var (pv 3)) (sa_cons (s_lst sa_nil) sa_nil))) (sa_cons (s_tup (sa_cons s_str (sa_cons (s_var (pv 3)) sa_nil))) (sa_cons (s_tup (sa_cons s_str (sa_cons (s_lst (sa_cons s_str (sa_cons (s_var (pv 3)) sa_nil))) sa_nil))) sa_nil))))))
    (sb_cons (ss_setC (i := 2) (by rfl) rfl rfl (sw_true rfl rfl rfl (by decide +kernel)) (own := [("_law_name_here", 5), ("_law_avoids_here", 6)]) (by rfl) sc__law_deep_right.nd (si_val (s_var (pv 1))) (blkOk_by (N := N__law_deep_right) (sc := defScope s__law_deep_right) (own := [("_law_name_here", 5), ("_law_avoids_here", 6)]) (by decide +kernel)) (by rfl) (okTg_tup (n := 2) rfl (okTgs_cons okTg_name (okTgs_cons okTg_name okTgs_nil))) (fun _ _ _ _ _ => (pg_tup (by rfl) (pgs_cons (pg_name (i := 5) sc__law_deep_right.nd rfl (by first | exact Or.inl rfl | exact Or.inr rfl)) (pgs_cons (pg_name (i := 6) sc__law_deep_right.nd rfl (by first | exact Or.inl rfl | exact Or.inr rfl)) pgs_nil)))) (fun _ _ _ _ _ => pts_nil) yes_T (fun _ _ _ _ _ => (s_callG takes0 G__law_word hr (by decide) (by rfl) (by rfl) (sa_cons (s_callG takes0 G__law_put_R hr (by decide) (by rfl) (by rfl) (sa_cons (s_var (pv 4)) (sa_cons (s_var (pv 5)) (sa_cons (s_var (pv 6)) sa_nil)))) sa_nil))))
    (sb_one (ss_ret (s_and (s_cmp (op_eqQ hr.units) ok_eq (s_var (pv 2)) (s_op op_mul3 ok_mul (s_lst (sa_cons s_str sa_nil)) s_int) (nomark _)) (s_and (s_callG (takes_of rfl rfl rfl rfl) G__law_none_there hr (by decide) (by rfl) (by rfl) (sa_cons (s_var (pv 4)) (sa_cons (s_var (pv 3)) sa_nil))) (s_one (s_cmp (op_eqQ hr.units) ok_eq (s_meth0 (takes_of rfl rfl rfl rfl) Mt_Diners_all_diners_0 hr (by decide) (by rfl) (by rfl) (s_var (pv 4))) (s_lst sa_nil) (nomark _)))))))))))))
abbrev s__law_names : Stmt := top 29
abbrev N__law_names : List Str := ["_law_number_here", "_law_many", "_law_letters", "_law_step", "_law_base", "_law_border", "_law_at", "_law_signs", "_law_k", "_law_sign", "_law_j"]
theorem sc__law_names : FnScope N__law_names ["_law_number_here", "_law_many"] (defScope s__law_names) := ⟨rfl, rfl, rfl, by decide +kernel, rfl, by decide +kernel, by decide +kernel⟩
theorem ok__law_names (T : Txt K mg cm) (F : Fun K "_law_names" "_law_names" s__law_names f fd) : FnOk P0 w K mg base (L2.CX P0 w) 1 f fd ["_law_number_here", "_law_many"] (spP K cm 2 m__law_names) := by
  refine fn_pure (N := N__law_names) (g := g__law_names) F sc__law_names (by decide) fun cdv A outer s H E hr => ?_
  exact (sb_cons (ss_set (by rfl) (ps_set (i := 2) sc__law_names.nd rfl (by first | exact Or.inl rfl | exact Or.inr rfl) s_str))
    (sb_cons (ss_set (by rfl) (ps_set (i := 3) sc__law_names.nd rfl (by first | exact Or.inl rfl | exact Or.inr rfl) (s_op op_add4 ok_add s_int (s_op op_modD ok_mod (s_var (pv 0)) s_int))))
    (sb_cons (ss_set (by rfl) (ps_set (i := 4) sc__law_names.nd rfl (by first | exact Or.inl rfl | exact Or.inr rfl) (s_bm PySem.F.plainAttrs_str PySem.F.slot_str_join PySem.F.type_str_join mt_join ok_join s_str (sa_cons (s_comp (own := [("_law_j", 10)]) (by rfl) sc__law_names.nd (si_r1 (by rfl) T.n_range (sa_cons s_int sa_nil)) (blkOk_by (N := N__law_names) (sc := defScope s__law_names) (own := [("_law_j", 10)]) (by decide +kernel)) (by rfl) okTg_name (fun _ _ _ _ _ => (pg_name (i := 10) sc__law_names.nd rfl (by first | exact Or.inl rfl | exact Or.inr rfl))) (fun _ _ _ _ _ => pts_nil) yes_T (fun _ _ _ _ _ => (s_ix (ix_4 (hu_of hr)) ok_ix (s_var (pv 2)) (s_op op_modD ok_mod (s_op op_add4 ok_add (s_op op_divD ok_div (s_var (pv 0)) s_int) (s_op op_mul3 ok_mul (s_var (pv 3)) (s_var (pv 10)))) s_int)))) sa_nil))))
    (sb_cons (ss_if (st_cmp (op_eqQ hr.units) ok_eq (s_op op_modD ok_mod (s_op op_divD ok_div (s_var (pv 0)) s_int) s_int) s_int (nomark _))
    (sb_one (ss_ret (s_comp (own := [("_law_k", 8)]) (by rfl) sc__law_names.nd (si_r1 (by rfl) T.n_range (sa_cons (s_var (pv 1)) sa_nil)) (blkOk_by (N := N__law_names) (sc := defScope s__law_names) (own := [("_law_k", 8)]) (by decide +kernel)) (by rfl) okTg_name (fun _ _ _ _ _ => (pg_name (i := 8) sc__law_names.nd rfl (by first | exact Or.inl rfl | exact Or.inr rfl))) (fun _ _ _ _ _ => pts_nil) yes_T (fun _ _ _ _ _ => (s_slice sl_3 ok_sl (s_var (pv 4)) so_none (so_some (s_op op_add4 ok_add (s_var (pv 8)) s_int)))))))
    sb_nil)
    (sb_cons (ss_set (by rfl) (ps_set (i := 5) sc__law_names.nd rfl (by first | exact Or.inl rfl | exact Or.inr rfl) (s_slice sl_3 ok_sl (s_var (pv 4)) so_none (so_some (s_op op_modD ok_mod (s_var (pv 0)) s_int)))))
    (sb_cons (ss_set (by rfl) (ps_set (i := 6) sc__law_names.nd rfl (by first | exact Or.inl rfl | exact Or.inr rfl) (s_op op_modD ok_mod (s_op op_divD ok_div (s_var (pv 0)) s_int) (s_op op_add4 ok_add (s_callB call_len2 ok_len (by rfl) T.n_len (by decide +kernel) (sa_cons (s_var (pv 5)) sa_nil)) s_int))))
    (sb_cons (ss_setC (i := 7) (by rfl) rfl rfl (sw_true rfl rfl rfl (by decide +kernel)) (own := [("_law_k", 8)]) (by rfl) sc__law_names.nd (si_r1 (by rfl) T.n_range (sa_cons (s_var (pv 1)) sa_nil)) (blkOk_by (N := N__law_names) (sc := defScope s__law_names) (own := [("_law_k", 8)]) (by decide +kernel)) (by rfl) okTg_name (fun _ _ _ _ _ => (pg_name (i := 8) sc__law_names.nd rfl (by first | exact Or.inl rfl | exact Or.inr rfl))) (fun _ _ _ _ _ => pts_nil) yes_T (fun _ _ _ _ _ => (s_ix (ix_4 (hu_of hr)) ok_ix (s_var (pv 2)) (s_op op_modD ok_mod (s_op op_add4 ok_add (s_op op_divD ok_div (s_var (pv 0)) s_int) (s_op op_mul3 ok_mul s_int (s_var (pv 8)))) s_int))))
    (sb_one (ss_ret (s_comp (own := [("_law_sign", 9)]) (by rfl) sc__law_names.nd (si_val (s_var (pv 7))) (blkOk_by (N := N__law_names) (sc := defScope s__law_names) (own := [("_law_sign", 9)]) (by decide +kernel)) (by rfl) okTg_name (fun _ _ _ _ _ => (pg_name (i := 9) sc__law_names.nd rfl (by first | exact Or.inl rfl | exact Or.inr rfl))) (fun _ _ _ _ _ => pts_nil) yes_T (fun _ _ _ _ _ => (s_op op_add4 ok_add (s_op op_add4 ok_add (s_slice sl_3 ok_sl (s_var (pv 5)) so_none (so_some (s_var (pv 6)))) (s_var (pv 9))) (s_slice sl_3 ok_sl (s_var (pv 5)) (so_some (s_var (pv 6))) so_none)))))))))))))
abbrev s__law_number : Stmt := top 28
abbrev N__law_number : List Str := ["_law_script", "_law_k", "_law_cell", "_law_more"]
theorem sc__law_number : FnScope N__law_number ["_law_script", "_law_k"] (defScope s__law_number) := ⟨rfl, rfl, rfl, by decide +kernel, rfl, by decide +kernel, by decide +kernel⟩
theorem ok__law_number (T : Txt K mg cm) (F : Fun K "_law_number" "_law_number" s__law_number f fd) : FnOk P0 w K mg base (L2.CX P0 w) 1 f fd ["_law_script", "_law_k"] (spP K cm 2 m__law_number) := by
  refine fn_pure (N := N__law_number) (g := g__law_number) F sc__law_number (by decide) fun cdv A outer s H E hr => ?_
  exact (sb_cons (ss_set (by rfl) (ps_set (i := 2) sc__law_number.nd rfl (by first | exact Or.inl rfl | exact Or.inr rfl) s_int))
    (sb_cons (ss_if (st_cmp op_gt ok_gt (s_callB call_len2 ok_len (by rfl) T.n_len (by decide +kernel) (sa_cons (s_var (pv 0)) sa_nil)) s_int (nomark _))
    (sb_one (ss_set (by rfl) (ps_set (i := 2) sc__law_number.nd rfl (by first | exact Or.inl rfl | exact Or.inr rfl) (s_ix (ix_4 (hu_of hr)) ok_ix (s_var (pv 0)) (s_op op_modD ok_mod (s_var (pv 1)) (s_callB call_len2 ok_len (by rfl) T.n_len (by decide +kernel) (sa_cons (s_var (pv 0)) sa_nil)))))))
    sb_nil)
    (sb_cons (ss_set (by rfl) (ps_set (i := 3) sc__law_number.nd rfl (by first | exact Or.inl rfl | exact Or.inr rfl) (s_op op_add4 ok_add (s_var (pv 1)) s_int)))
    (sb_one (ss_ret (s_op op_modD ok_mod (s_op op_mul3 ok_mul (s_op op_modD ok_mod (s_op op_add4 ok_add (s_op op_mul3 ok_mul (s_op op_modD ok_mod (s_var (pv 2)) s_int) s_int) (s_op op_mul3 ok_mul (s_op op_mul3 ok_mul (s_var (pv 3)) (s_var (pv 3))) s_int)) s_int) s_int) s_int))))))
abbrev s__law_name : Stmt := top 34
abbrev N__law_name : List Str := ["_law_number_here", "_law_names_here", "_law_odd"]
theorem sc__law_name : FnScope N__law_name ["_law_number_here", "_law_names_here"] (defScope s__law_name) := ⟨rfl, rfl, rfl, by decide +kernel, rfl, by decide +kernel, by decide +kernel⟩
theorem ok__law_name (T : Txt K mg cm) (F : Fun K "_law_name" "_law_name" s__law_name f fd) : FnOk P0 w K mg base (L2.CX P0 w) 1 f fd ["_law_number_here", "_law_names_here"] (spP K cm 2 m__law_name) := by
  refine fn_pure (N := N__law_name) (g := g__law_name) F sc__law_name (by decide) fun cdv A outer s H E hr => ?_
  exact (sb_cons (ss_set (by rfl) (ps_set (i := 2) sc__law_name.nd rfl (by first | exact Or.inl rfl | exact Or.inr rfl) (s_lst (sa_cons s_non (sa_cons s_str (sa_cons s_str (sa_cons s_int (sa_cons s_bl (sa_cons (s_lst (sa_cons s_str sa_nil)) (sa_cons s_str (sa_cons s_str (sa_cons (s_tup (sa_cons s_str sa_nil)) (sa_cons s_dict0 sa_nil)))))))))))))
    (sb_one (ss_retF (s_ifExp (st_cmp (op_eqQ hr.units) ok_eq (s_op op_modD ok_mod (s_var (pv 0)) s_int) s_int (nomark _)) (s_ix (ix_4 (hu_of hr)) ok_ix (s_var (pv 2)) (s_op op_modD ok_mod (s_op op_divD ok_div (s_var (pv 0)) s_int) s_int)) (s_ix (ix_4 (hu_of hr)) ok_ix (s_var (pv 1)) (s_op op_modD ok_mod (s_op op_divD ok_div (s_var (pv 0)) s_int) (s_callB call_len2 ok_len (by rfl) T.n_len (by decide +kernel) (sa_cons (s_var (pv 1)) sa_nil))))))))
abbrev s__law_avoids : Stmt := top 33
abbrev N__law_avoids : List Str := ["_law_number_here", "_law_names_here", "_law_at", "_law_some", "_law_odd"]
theorem sc__law_avoids : FnScope N__law_avoids ["_law_number_here", "_law_names_here"] (defScope s__law_avoids) := ⟨rfl, rfl, rfl, by decide +kernel, rfl, by decide +kernel, by decide +kernel⟩
theorem ok__law_avoids (T : Txt K mg cm) (F : Fun K "_law_avoids" "_law_avoids" s__law_avoids f fd) : FnOk P0 w K mg base (L2.CX P0 w) 1 f fd ["_law_number_here", "_law_names_here"] (spP K cm 2 m__law_avoids) := by
  refine fn_pure (N := N__law_avoids) (g := g__law_avoids) F sc__law_avoids (by decide) fun cdv A outer s H E hr => ?_
  exact (sb_cons (ss_set (by rfl) (ps_set (i := 2) sc__law_avoids.nd rfl (by first | exact Or.inl rfl | exact Or.inr rfl) (s_op op_modD ok_mod (s_op op_divD ok_div (s_var (pv 0)) s_int) s_int)))
    (sb_cons (ss_set (by rfl) (ps_set (i := 3) sc__law_avoids.nd rfl (by first | exact Or.inl rfl | exact Or.inr rfl) (s_slice sl_3 ok_sl (s_op op_add4 ok_add (s_slice sl_3 ok_sl (s_var (pv 1)) (so_some (s_var (pv 2))) so_none) (s_slice sl_3 ok_sl (s_var (pv 1)) so_none (so_some (s_var (pv 2))))) so_none (so_some (s_op op_modD ok_mod (s_op op_divD ok_div (s_var (pv 0)) s_int) s_int)))))
    (sb_cons (ss_set (by rfl) (ps_set (i := 4) sc__law_avoids.nd rfl (by first | exact Or.inl rfl | exact Or.inr rfl) (s_lst (sa_cons s_non (sa_cons s_int (sa_cons s_str (sa_cons (s_callTy call_tuple_of ok_tupL (by rfl) T.n_tuple (by decide +kernel) (sa_cons (s_var (pv 3)) sa_nil)) (sa_cons s_dict0 (sa_cons s_bl (sa_cons (s_op op_add4 ok_add (s_var (pv 3)) (s_lst (sa_cons s_str sa_nil))) (sa_cons (s_op op_add4 ok_add (s_var (pv 3)) (s_lst (sa_cons s_str sa_nil))) (sa_cons (s_op op_add4 ok_add (s_var (pv 3)) (s_lst (sa_cons s_int sa_nil))) (sa_cons (s_op op_add4 ok_add (s_var (pv 3)) (s_lst (sa_cons (s_lst (sa_cons s_str sa_nil)) sa_nil))) (sa_cons (s_op op_add4 ok_add (s_var (pv 3)) (s_lst (sa_cons s_non sa_nil))) sa_nil))))))))))))))
    (sb_cons (ss_fzP 4 pHere (ss_set (by rfl) (ps_set (i := 4) sc__law_avoids.nd rfl (by first | exact Or.inl rfl | exact Or.inr rfl) (s_op op_add4 ok_add (s_var (pv 4)) (s_lst (sa_cons (s_op op_add4 ok_add (s_var (pv 3)) (s_lst (sa_cons s_str sa_nil))) (sa_cons (s_op op_add4 ok_add (s_var (pv 3)) (s_slice sl_3 ok_sl (s_var (pv 3)) so_none (so_some s_int))) (sa_cons (s_op op_add4 ok_add (s_var (pv 3)) (s_slice sl_3 ok_sl (s_var (pv 3)) so_none (so_some s_int))) sa_nil))))))))
    (sb_one (ss_retF (s_ifExp (st_cmp (op_eqQ hr.units) ok_eq (s_op op_modD ok_mod (s_var (pv 0)) s_int) s_int (nomark _)) (s_ix (ix_4 (hu_of hr)) ok_ix (s_var (pv 4)) (s_op op_modD ok_mod (s_op op_divD ok_div (s_var (pv 0)) s_int) s_int)) (s_var (pv 3)))))))))
abbrev s_Diners_copied : Stmt := (clsB (top 26)).getD 4 (.Pass ⟨0, 0, 0, 0⟩)
abbrev N_Diners_copied : List Str := ["self", "found"]
theorem sc_Diners_copied : FnScope N_Diners_copied ["self"] (defScope s_Diners_copied) := ⟨rfl, rfl, rfl, by decide +kernel, rfl, by decide +kernel, by decide +kernel⟩
theorem ok_Diners_copied (T : Txt K mg cm) (F : FunD K "copied" "Diners.copied" (defArgs s_Diners_copied) (defBody s_Diners_copied) (defScope s_Diners_copied) dvs kws f fd) (Mk_Diners : GoodMk P0 w K mg base cm "Diners" 1 (spM K cm 1 [0] m_Diners___init__) []) : FnOk P0 w K mg base (L2.CX P0 w) 3 f fd ["self"] (spP K cm 1 m_Diners_copied) := by
  refine fn_pureD (N := N_Diners_copied) (g := g_Diners_copied) F sc_Diners_copied (by decide) fun cdv A outer s H E hr => ?_
  exact (sb_cons (ss_set (by rfl) (ps_set (i := 1) sc_Diners_copied.nd rfl (by first | exact Or.inl rfl | exact Or.inr rfl) (s_make0 (takes_of rfl rfl rfl rfl) Mk_Diners hr (by decide) (by rfl) (by rfl) (by rfl))))
    (sb_cons (ss_fld T.f_known (sp2_name (pv 1)) (s_callTy call_dictD ok_dictD (by rfl) T.n_dict (by decide +kernel) (sa_cons (s_fld T.f_known (s_var (pv 0))) sa_nil)))
    (sb_one (ss_retV (by rfl) (pv 1)))))
abbrev s__law_is_name : Stmt := top 31
abbrev N__law_is_name : List Str := ["_law_thing", "_law_sign"]
theorem sc__law_is_name : FnScope N__law_is_name ["_law_thing"] (defScope s__law_is_name) := ⟨rfl, rfl, rfl, by decide +kernel, rfl, by decide +kernel, by decide +kernel⟩
theorem ok__law_is_name (T : Txt K mg cm) (F : Fun K "_law_is_name" "_law_is_name" s__law_is_name f fd) : FnOk P0 w K mg base (L2.CX P0 w) 1 f fd ["_law_thing"] (spP K cm 1 m__law_is_name) := by
  refine fn_pure (N := N__law_is_name) (g := g__law_is_name) F sc__law_is_name (by decide) fun cdv A outer s H E hr => ?_
  exact (sb_cons (ss_if (st_w (sw_or (st_not (st_val (s_isiT (by rfl) T.n_isinstance (by decide +kernel) (s_var (pv 0)) (pe_bltn (v := .ty "str") (by rfl) T.n_str (by decide +kernel) rfl)))) (sw_or1 (st_not (st_chain op_le op_le ok_le ok_le s_int (s_callB call_len2 ok_len (by rfl) T.n_len (by decide +kernel) (sa_cons (s_var (pv 0)) sa_nil)) s_int (fun _ _ _ h => mid_le h))))))
    (sb_one (ss_ret s_bl))
    sb_nil)
    (sb_one (ss_ret (s_cmp (op_eqQ hr.units) ok_eq (s_comp (own := [("_law_sign", 1)]) (by rfl) sc__law_is_name.nd (si_val (s_var (pv 0))) (blkOk_by (N := N__law_is_name) (sc := defScope s__law_is_name) (own := [("_law_sign", 1)]) (by decide +kernel)) (by rfl) okTg_name (fun _ _ _ _ _ => (pg_name (i := 1) sc__law_is_name.nd rfl (by first | exact Or.inl rfl | exact Or.inr rfl))) (fun _ _ _ _ _ => (pts_one (st_cmp (op_notIn3 (hu_of hr)) ok_notIn (s_var (pv 1)) s_str rfl))) (fun _ _ _ h => h) (fun _ _ _ _ _ => (s_var (pv 1)))) (s_lst sa_nil) (nomark _)))))
abbrev s__law_due : Stmt := top 32
abbrev N__law_due : List Str := ["_law_own", "_law_name_here", "_law_avoids_here", "_law_mark"]
theorem sc__law_due : FnScope N__law_due ["_law_own", "_law_name_here", "_law_avoids_here"] (defScope s__law_due) := ⟨rfl, rfl, rfl, by decide +kernel, rfl, by decide +kernel, by decide +kernel⟩
theorem ok__law_due (T : Txt K mg cm) (F : Fun K "_law_due" "_law_due" s__law_due f fd) (G__law_is_name : Good P0 w K mg base cm "_law_is_name" 1 1 m__law_is_name) : FnOk P0 w K mg base (L2.CX P0 w) 2 f fd ["_law_own", "_law_name_here", "_law_avoids_here"] (spP K cm 3 m__law_due) := by
  refine fn_pure (N := N__law_due) (g := g__law_due) F sc__law_due (by decide) fun cdv A outer s H E hr => ?_
  exact (sb_cons (ss_if (st_not (st_val (s_callG (takes_of rfl rfl rfl rfl) G__law_is_name hr (by decide) (by rfl) (by rfl) (sa_cons (s_var (pv 1)) sa_nil))))
    (sb_one (ss_ret s_str))
    sb_nil)
    (sb_cons (ss_if (st_cmp (op_in3 (hu_of hr)) ok_in (s_var (pv 1)) (s_var (pv 0)) rfl)
    (sb_one (ss_ret s_str))
    sb_nil)
    (sb_cons (ss_if (st_cmp (op_eqQ hr.units) ok_eq (s_callB call_len2 ok_len (by rfl) T.n_len (by decide +kernel) (sa_cons (s_var (pv 0)) sa_nil)) s_int (nomark _))
    (sb_one (ss_ret s_str))
    sb_nil)
    (sb_cons (ss_if (st_w (sw_or (st_not (st_val (s_isiT (by rfl) T.n_isinstance (by decide +kernel) (s_var (pv 2)) (pe_bltn (v := .ty "list") (by rfl) T.n_list (by decide +kernel) rfl)))) (sw_or1 (st_cmp (op_neQ hr.units) ok_ne (s_comp (own := [("_law_mark", 3)]) (by rfl) sc__law_due.nd (si_val (s_var (pv 2))) (blkOk_by (N := N__law_due) (sc := defScope s__law_due) (own := [("_law_mark", 3)]) (by decide +kernel)) (by rfl) okTg_name (fun _ _ _ _ _ => (pg_name (i := 3) sc__law_due.nd rfl (by first | exact Or.inl rfl | exact Or.inr rfl))) (fun _ _ _ _ _ => (pts_one (st_not (st_val (s_callG takes0 G__law_is_name hr (by decide) (by rfl) (by rfl) (sa_cons (s_var (pv 3)) sa_nil)))))) (fun _ _ _ h => h) (fun _ _ _ _ _ => (s_var (pv 3)))) (s_lst sa_nil) (nomark _)))))
    (sb_one (ss_ret s_str))
    sb_nil)
    (sb_cons (ss_if (st_cmp op_lt ok_lt (s_lenSet (by rfl) (by rfl) T.n_len (by rfl) T.n_set (s_var (pv 2))) (s_callB call_len2 ok_len (by rfl) T.n_len (by decide +kernel) (sa_cons (s_var (pv 2)) sa_nil)) (nomark _))
    (sb_one (ss_ret s_str))
    sb_nil)
    (sb_one (ss_retF (s_ifExp (st_cmp op_gt ok_gt (s_callB call_len2 ok_len (by rfl) T.n_len (by decide +kernel) (sa_cons (s_var (pv 2)) sa_nil)) s_int (nomark _)) s_str s_str))))))))
abbrev s_Diners_put_diner : Stmt := (clsB (top 26)).getD 2 (.Pass ⟨0, 0, 0, 0⟩)
abbrev N_Diners_put_diner : List Str := ["self", "name", "avoids"]
theorem sc_Diners_put_diner : FnScope N_Diners_put_diner ["self", "name", "avoids"] (defScope s_Diners_put_diner) := ⟨rfl, rfl, rfl, by decide +kernel, rfl, by decide +kernel, by decide +kernel⟩
theorem ok_Diners_put_diner (T : Txt K mg cm) (F : FunD K "put_diner" "Diners.put_diner" (defArgs s_Diners_put_diner) (defBody s_Diners_put_diner) (defScope s_Diners_put_diner) dvs kws f fd) (G_is_name : Good P0 w K mg base cm "is_name" 1 2 m_is_name) (G_are_names : Good P0 w K mg base cm "are_names" 1 3 m_are_names) : FnOk P0 w K mg base (L2.CX P0 w) 4 f fd ["self", "name", "avoids"] (spM K cm 3 [0] m_Diners_put_diner) := by
  obtain ⟨_, h_MOST_DINERS⟩ := T.c_MOST_DINERS
  obtain ⟨_, h_MOST_AVOIDED⟩ := T.c_MOST_AVOIDED
  refine fn_mut (N := N_Diners_put_diner) (g := g_Diners_put_diner) F sc_Diners_put_diner (by decide) (by decide) fun cdv A outer s H E hr => ?_
  exact (sb_cons (ss_if (st_not (st_val (s_callG (takes_of rfl rfl rfl rfl) G_is_name hr (by decide) (by rfl) (by rfl) (sa_cons (s_var (pv 1)) sa_nil))))
    (sb_one (ss_raise0 rfl (takes_of rfl rfl rfl rfl) T.x0_BadName T.g_BadName (by rfl)))
    sb_nil)
    (sb_cons (ss_if (st_cmp (op_in3 (hu_of hr)) ok_in (s_var (pv 1)) (s_fld T.f_known (s_var (pv 0))) rfl)
    (sb_one (ss_raise0 rfl (takes_of rfl rfl rfl rfl) T.x0_Twice T.g_Twice (by rfl)))
    sb_nil)
    (sb_cons (ss_if (st_cmp (op_eqQ hr.units) ok_eq (s_callB call_len2 ok_len (by rfl) T.n_len (by decide +kernel) (sa_cons (s_fld T.f_known (s_var (pv 0))) sa_nil)) (s_globI (by rfl) h_MOST_DINERS) (nomark _))
    (sb_one (ss_raise0 rfl (takes_of rfl rfl rfl rfl) T.x0_TooMany T.g_TooMany (by rfl)))
    sb_nil)
    (sb_cons (ss_if (st_not (st_val (s_callG (takes_of rfl rfl rfl rfl) G_are_names hr (by decide) (by rfl) (by rfl) (sa_cons (s_var (pv 2)) sa_nil))))
    (sb_one (ss_raise0 rfl (takes_of rfl rfl rfl rfl) T.x0_BadName T.g_BadName (by rfl)))
    sb_nil)
    (sb_cons (ss_if (st_cmp op_lt ok_lt (s_lenSet (by rfl) (by rfl) T.n_len (by rfl) T.n_set (s_var (pv 2))) (s_callB call_len2 ok_len (by rfl) T.n_len (by decide +kernel) (sa_cons (s_var (pv 2)) sa_nil)) (nomark _))
    (sb_one (ss_raise0 rfl (takes_of rfl rfl rfl rfl) T.x0_Twice T.g_Twice (by rfl)))
    sb_nil)
    (sb_cons (ss_if (st_cmp op_gt ok_gt (s_callB call_len2 ok_len (by rfl) T.n_len (by decide +kernel) (sa_cons (s_var (pv 2)) sa_nil)) (s_globI (by rfl) h_MOST_AVOIDED) (nomark _))
    (sb_one (ss_raise0 rfl (takes_of rfl rfl rfl rfl) T.x0_TooMany T.g_TooMany (by rfl)))
    sb_nil)
    (sb_one (ss_put2 (hu_of hr) (sp2_fld (sp2_name (pv 0)) T.f_known) (s_callTy (CallR.or2 (call_listD (by rfl)) call_list_of) (OkPr.alt ok_listD ok_list pList3_alt) (by rfl) T.n_list (by decide +kernel) (sa_cons (s_var (pv 2)) sa_nil)) (s_var (pv 1))))))))))
abbrev s__law_put : Stmt := top 35
abbrev N__law_put : List Str := ["_law_diners", "_law_name_here", "_law_avoids_here", "_law_error", "e"]
theorem sc__law_put : FnScope N__law_put ["_law_diners", "_law_name_here", "_law_avoids_here"] (defScope s__law_put) := ⟨rfl, rfl, rfl, by decide +kernel, rfl, by decide +kernel, by decide +kernel⟩
theorem ok__law_put (T : Txt K mg cm) (F : FunD K "_law_put" "_law_put" (defArgs s__law_put) (defBody s__law_put) (defScope s__law_put) dvs kws f fd) (Mt_Diners_put_diner_0 : GoodMt P0 w K mg base cm "Diners" "put_diner" 4 (spM K cm 3 [0] m_Diners_put_diner) []) : FnOk P0 w K mg base (L2.CX P0 w) 5 f fd ["_law_diners", "_law_name_here", "_law_avoids_here"] (spM K cm 3 [0] m__law_put) := by
  refine fn_mut (N := N__law_put) (g := g__law_put) F sc__law_put (by decide) (by decide) fun cdv A outer s H E hr => ?_
  exact (sb_cons (ss_set (by rfl) (ps_set (i := 3) sc__law_put.nd rfl (by first | exact Or.inl rfl | exact Or.inr rfl) s_non))
    (sb_cons (ss_tryK (i := 4) (j := 3) rfl rfl rfl sc__law_put.nd rfl rfl rfl rfl (by decide) (by rfl) (by rfl) ⟨by rfl, by decide, .inl T.g_LarderError⟩ T.m_LarderError (takes_of rfl rfl rfl rfl) (fun _ _ => pv 4) (by rfl)
    (fun W pn xe tk po => (sb_one (ss_exprX (x_meth tk Mt_Diners_put_diner_0 hr (by decide) (by rfl) (by rfl) (by rfl) (sp2_name (pv 0)) (as_hd (s_var (pv 1)) (as_hd (s_var (pv 2)) as_nil)))))))
    (sb_one (ss_retV (by rfl) (pv 3)))))
abbrev s__law_stands : Stmt := top 37
abbrev N__law_stands : List Str := ["_law_diners", "_law_own", "_law_turn", "_law_found", "_law_name_here", "_law_marks"]
theorem sc__law_stands : FnScope N__law_stands ["_law_diners", "_law_own"] (defScope s__law_stands) := ⟨rfl, rfl, rfl, by decide +kernel, rfl, by decide +kernel, by decide +kernel⟩
theorem ok__law_stands (T : Txt K mg cm) (F : Fun K "_law_stands" "_law_stands" s__law_stands f fd) (Mt_Diners_all_diners_0 : GoodMt P0 w K mg base cm "Diners" "all_diners" 1 (spP K cm 1 m_Diners_all_diners) []) (Mt_Diners_avoids_of_0 : GoodMt P0 w K mg base cm "Diners" "avoids_of" 3 (spP K cm 2 m_Diners_avoids_of) []) : FnOk P0 w K mg base (L2.CX P0 w) 4 f fd ["_law_diners", "_law_own"] (spP K cm 2 m__law_stands) := by
  refine fn_pure (N := N__law_stands) (g := g__law_stands) F sc__law_stands (by decide) fun cdv A outer s H E hr => ?_
  exact (sb_cons (ss_for (S := [2]) (passes_of rfl) rfl (si_r1 (by rfl) T.n_range (sa_cons s_int sa_nil)) (pg_name (i := 2) sc__law_stands.nd rfl (by first | exact Or.inl rfl | exact Or.inr rfl)) okTg_name (by rfl)
    (sb_cons (ss_set (by rfl) (ps_set (i := 3) sc__law_stands.nd rfl (by first | exact Or.inl rfl | exact Or.inr rfl) (s_meth0 (takes_of rfl rfl rfl rfl) Mt_Diners_all_diners_0 hr (by decide) (by rfl) (by rfl) (s_var (pv 0)))))
    (sb_cons (ss_if (st_w (sw_or (st_not (st_val (s_isiT (by rfl) T.n_isinstance (by decide +kernel) (s_var (pv 3)) (pe_bltn (v := .ty "list") (by rfl) T.n_list (by decide +kernel) rfl)))) (sw_or1 (st_cmp (op_neQ hr.units) ok_ne (s_var (pv 3)) (s_callTy (CallR.or2 (call_listD (by rfl)) call_list_of) (OkPr.alt ok_listD ok_list pList3_alt) (by rfl) T.n_list (by decide +kernel) (sa_cons (s_var (pv 1)) sa_nil)) (nomark _)))))
    (sb_one (ss_ret s_bl))
    sb_nil)
    (sb_cons (ss_mut PySem.F.slot_list_append PySem.F.type_list_append mt_append mut_append (sp_name (pv 3)) (sa_cons s_str sa_nil))
    (sb_one (ss_forK (S := [4]) (passes_of rfl) rfl (spp_name (pv 1)) (pg_name (i := 4) sc__law_stands.nd rfl (by first | exact Or.inl rfl | exact Or.inr rfl)) okTg_name (by rfl)
    (sb_cons (ss_set (by rfl) (ps_set (i := 5) sc__law_stands.nd rfl (by first | exact Or.inl rfl | exact Or.inr rfl) (s_meth (takes_of rfl rfl rfl rfl) Mt_Diners_avoids_of_0 hr (by decide) (by rfl) (by rfl) (s_var (pv 0)) (sa_cons (s_var (pv 4)) sa_nil))))
    (sb_cons (ss_if (st_w (sw_or (st_not (st_val (s_isiT (by rfl) T.n_isinstance (by decide +kernel) (s_var (pv 5)) (pe_bltn (v := .ty "list") (by rfl) T.n_list (by decide +kernel) rfl)))) (sw_or1 (st_cmp (op_neQ hr.units) ok_ne (s_var (pv 5)) (s_ix (ix_4 (hu_of hr)) ok_ix (s_var (pv 1)) (s_var (pv 4))) (nomark _)))))
    (sb_one (ss_ret s_bl))
    sb_nil)
    (sb_one (ss_mut PySem.F.slot_list_append PySem.F.type_list_append mt_append mut_append (sp_name (pv 5)) (sa_cons s_str sa_nil)))))))))))
    (sb_one (ss_ret s_bl)))
abbrev s__law_odd_diner : Stmt := top 38
abbrev N__law_odd_diner : List Str := ["_law_number_here", "_law_names_here", "_law_own", "_law_free", "_law_name_here"]
theorem sc__law_odd_diner : FnScope N__law_odd_diner ["_law_number_here", "_law_names_here", "_law_own"] (defScope s__law_odd_diner) := ⟨rfl, rfl, rfl, by decide +kernel, rfl, by decide +kernel, by decide +kernel⟩
theorem ok__law_odd_diner (T : Txt K mg cm) (F : Fun K "_law_odd_diner" "_law_odd_diner" s__law_odd_diner f fd) : FnOk P0 w K mg base (L2.CX P0 w) 1 f fd ["_law_number_here", "_law_names_here", "_law_own"] (spP K cm 3 m__law_odd_diner) := by
  refine fn_pure (N := N__law_odd_diner) (g := g__law_odd_diner) F sc__law_odd_diner (by decide) fun cdv A outer s H E hr => ?_
  exact (sb_cons (ss_setC (i := 3) (by rfl) rfl rfl (sw_true rfl rfl rfl (by decide +kernel)) (own := [("_law_name_here", 4)]) (by rfl) sc__law_odd_diner.nd (si_val (s_op op_add4 ok_add (s_var (pv 1)) (s_lst (sa_cons s_str sa_nil)))) (blkOk_by (N := N__law_odd_diner) (sc := defScope s__law_odd_diner) (own := [("_law_name_here", 4)]) (by decide +kernel)) (by rfl) okTg_name (fun _ _ _ _ _ => (pg_name (i := 4) sc__law_odd_diner.nd rfl (by first | exact Or.inl rfl | exact Or.inr rfl))) (fun _ _ _ _ _ => (pts_one (st_cmp (op_notIn3 (hu_of hr)) ok_notIn (s_var (pv 4)) (s_var (pv 2)) rfl))) (fun _ _ _ h => h) (fun _ _ _ _ _ => (s_var (pv 4))))
    (sb_one (ss_retF (s_ix (ix_4 (hu_of hr)) ok_ix (s_lst (sa_cons (s_ix (ix_4 (hu_of hr)) ok_ix (s_var (pv 3)) (s_op op_modD ok_mod (s_op op_divD ok_div (s_var (pv 0)) s_int) (s_callB call_len2 ok_len (by rfl) T.n_len (by decide +kernel) (sa_cons (s_var (pv 3)) sa_nil)))) (sa_cons s_non (sa_cons s_int (sa_cons (s_lst (sa_cons s_str sa_nil)) (sa_cons s_bl (sa_cons s_str (sa_cons (s_tup sa_nil) (sa_cons s_dict0 (sa_cons s_int sa_nil)))))))))) (s_op op_modD ok_mod (s_var (pv 0)) s_int)))))
abbrev s_law : Stmt := top 40
abbrev N_law : List Str := ["_law_script", "_law_names_here", "_law_own", "_law_past", "_law_k", "_law_diners", "_law_beside", "_law_number_here", "_law_name_here", "_law_avoids_here", "_law_handed", "_law_word_here", "_law_elder", "_law_kept"]
theorem sc_law : FnScope N_law ["_law_script"] (defScope s_law) := ⟨rfl, rfl, rfl, by decide +kernel, rfl, by decide +kernel, by decide +kernel⟩
theorem ok_law (T : Txt K mg cm) (F : Fun K "law" "law" s_law f fd) (G__law_deep_right : Good P0 w K mg base cm "_law_deep_right" 0 6 m__law_deep_right) (G__law_names : Good P0 w K mg base cm "_law_names" 2 1 m__law_names) (G__law_number : Good P0 w K mg base cm "_law_number" 2 1 m__law_number) (G__law_name : Good P0 w K mg base cm "_law_name" 2 1 m__law_name) (G__law_avoids : Good P0 w K mg base cm "_law_avoids" 2 1 m__law_avoids) (G__law_due : Good P0 w K mg base cm "_law_due" 3 2 m__law_due) (G__law_word : Good P0 w K mg base cm "_law_word" 1 1 m__law_word) (G__law_stands : Good P0 w K mg base cm "_law_stands" 2 4 m__law_stands) (G__law_none_there : Good P0 w K mg base cm "_law_none_there" 2 4 m__law_none_there) (G__law_odd_diner : Good P0 w K mg base cm "_law_odd_diner" 3 1 m__law_odd_diner) (Mt_Diners_copied_0 : GoodMt P0 w K mg base cm "Diners" "copied" 3 (spP K cm 1 m_Diners_copied) []) (Gf__law_put_0 : GoodF P0 w K mg base "_law_put" 5 (spM K cm 3 [0] m__law_put) []) (Mk_Diners : GoodMk P0 w K mg base cm "Diners" 1 (spM K cm 1 [0] m_Diners___init__) []) : FnOk P0 w K mg base (L2.CX P0 w) 7 f fd ["_law_script"] (spP K cm 1 m_law) := by
  refine fn_pure (N := N_law) (g := g_law) F sc_law (by decide) fun cdv A outer s H E hr => ?_
  exact (sb_cons (ss_if (st_not (st_val (s_callG0 G__law_deep_right hr (by decide) (by rfl))))
    (sb_one (ss_ret s_bl))
    sb_nil)
    (sb_cons (ss_set (by rfl) (ps_set (i := 1) sc_law.nd rfl (by first | exact Or.inl rfl | exact Or.inr rfl) (s_callG (takes_of rfl rfl rfl rfl) G__law_names hr (by decide) (by rfl) (by rfl) (sa_cons (s_callG (takes_of rfl rfl rfl rfl) G__law_number hr (by decide) (by rfl) (by rfl) (sa_cons (s_var (pv 0)) (sa_cons s_int sa_nil))) (sa_cons s_int sa_nil)))))
    (sb_cons (ss_par (i := 5) (j := 6) (by rfl) rfl sc_law.nd rfl rfl (by decide) rfl rfl (sa_cons (s_make0 (takes_of rfl rfl rfl rfl) Mk_Diners hr (by decide) (by rfl) (by rfl) (by rfl)) (sa_cons (s_make0 (takes_of rfl rfl rfl rfl) Mk_Diners hr (by decide) (by rfl) (by rfl) (by rfl)) sa_nil)))
    (sb_cons (ss_set (by rfl) (ps_set (i := 2) sc_law.nd rfl (by first | exact Or.inl rfl | exact Or.inr rfl) s_dict0))
    (sb_cons (ss_set (by rfl) (ps_set (i := 3) sc_law.nd rfl (by first | exact Or.inl rfl | exact Or.inr rfl) (s_lst sa_nil)))
    (sb_cons (ss_for (S := [4]) (passes_of rfl) rfl (si_r1 (by rfl) T.n_range (sa_cons (s_callB (call_min2 (by rfl)) ok_min (by rfl) T.n_min (by decide +kernel) (sa_cons s_int (sa_cons (s_callB call_len2 ok_len (by rfl) T.n_len (by decide +kernel) (sa_cons (s_var (pv 0)) sa_nil)) sa_nil))) sa_nil)) (pg_name (i := 4) sc_law.nd rfl (by first | exact Or.inl rfl | exact Or.inr rfl)) okTg_name (by rfl)
    (sb_cons (ss_set (by rfl) (ps_set (i := 7) sc_law.nd rfl (by first | exact Or.inl rfl | exact Or.inr rfl) (s_callG (takes_of rfl rfl rfl rfl) G__law_number hr (by decide) (by rfl) (by rfl) (sa_cons (s_var (pv 0)) (sa_cons (s_op op_add4 ok_add (s_var (pv 4)) s_int) sa_nil)))))
    (sb_cons (ss_set (by rfl) (ps_set (i := 8) sc_law.nd rfl (by first | exact Or.inl rfl | exact Or.inr rfl) (s_callG (takes_of rfl rfl rfl rfl) G__law_name hr (by decide) (by rfl) (by rfl) (sa_cons (s_op op_divD ok_div (s_var (pv 7)) s_int) (sa_cons (s_var (pv 1)) sa_nil)))))
    (sb_cons (ss_set (by rfl) (ps_set (i := 9) sc_law.nd rfl (by first | exact Or.inl rfl | exact Or.inr rfl) (s_callG (takes_of rfl rfl rfl rfl) G__law_avoids hr (by decide) (by rfl) (by rfl) (sa_cons (s_op op_divD ok_div (s_var (pv 7)) s_int) (sa_cons (s_var (pv 1)) sa_nil)))))
    (sb_cons (ss_if (st_cmp (op_eqQ hr.units) ok_eq (s_op op_modD ok_mod (s_var (pv 7)) s_int) s_int (nomark _))
    (sb_cons (ss_fzD 2 (ss_fzP 5 pHere (ss_mut PySem.F.slot_list_append PySem.F.type_list_append mt_append mut_append (sp_name (pv 3)) (sa_cons (s_tup (sa_cons (s_var (pv 5)) (sa_cons (s_callTy call_dictD ok_dictD (by rfl) T.n_dict (by decide +kernel) (sa_cons (s_var (pv 2)) sa_nil)) sa_nil))) sa_nil))))
    (sb_one (ss_set (by rfl) (ps_set (i := 5) sc_law.nd rfl (by first | exact Or.inl rfl | exact Or.inr rfl) (s_meth0 (takes_of rfl rfl rfl rfl) Mt_Diners_copied_0 hr (by decide) (by rfl) (by rfl) (s_var (pv 5)))))))
    sb_nil)
    (sb_cons (ss_set (by rfl) (ps_set (i := 10) sc_law.nd rfl (by first | exact Or.inl rfl | exact Or.inr rfl) (s_ifExp (st_val (s_isiT (by rfl) T.n_isinstance (by decide +kernel) (s_var (pv 9)) (pe_bltn (v := .ty "list") (by rfl) T.n_list (by decide +kernel) rfl))) (s_callTy (CallR.or2 (call_listD (by rfl)) call_list_of) (OkPr.alt ok_listD ok_list pList3_alt) (by rfl) T.n_list (by decide +kernel) (sa_cons (s_var (pv 9)) sa_nil)) (s_var (pv 9)))))
    (sb_cons (ss_set (by rfl) (ps_set (i := 11) sc_law.nd rfl (by first | exact Or.inl rfl | exact Or.inr rfl) (s_callG (takes_of rfl rfl rfl rfl) G__law_due hr (by decide) (by rfl) (by rfl) (sa_cons (s_var (pv 2)) (sa_cons (s_var (pv 8)) (sa_cons (s_var (pv 9)) sa_nil))))))
    (sb_cons (ss_ifX (xt_w (xw_or (xt_cmp (op_neQ hr.units) ok_ne (x_c1 (takes_of rfl rfl rfl rfl) G__law_word hr (by decide) (by rfl) (x_call (takes_of rfl rfl rfl rfl) Gf__law_put_0 hr (by decide) (by rfl) (by rfl) (by rfl) (by rfl) (as_pl (sp2_name (pv 5)) (as_hd (s_var (pv 8)) (as_hd (s_var (pv 10)) as_nil))))) (s_var (pv 11)) (nomark _)) (xw_or1 (xt_st (st_cmp (op_ne2 hr.eq2) ok_ne2 (s_var (pv 10)) (s_var (pv 9)) (nomark _))))))
    (sb_one (ss_ret s_bl))
    sb_nil)
    (sb_cons (ss_if (st_val (s_isiT (by rfl) T.n_isinstance (by decide +kernel) (s_var (pv 10)) (pe_bltn (v := .ty "list") (by rfl) T.n_list (by decide +kernel) rfl)))
    (sb_one (ss_mut PySem.F.slot_list_append PySem.F.type_list_append mt_append mut_append (sp_name (pv 10)) (sa_cons s_str sa_nil)))
    sb_nil)
    (sb_cons (ss_if (st_cmp (op_eqQ hr.units) ok_eq (s_var (pv 11)) s_str (nomark _))
    (sb_one (ss_put2 (hu_of hr) (sp2_name (pv 2)) (s_callTy (CallR.or2 (call_listD (by rfl)) call_list_of) (OkPr.alt ok_listD ok_list pList3_alt) (by rfl) T.n_list (by decide +kernel) (sa_cons (s_var (pv 9)) sa_nil)) (s_var (pv 8))))
    sb_nil)
    (sb_one (ss_if (st_w (sw_or (st_not (st_val (s_callG (takes_of rfl rfl rfl rfl) G__law_stands hr (by decide) (by rfl) (by rfl) (sa_cons (s_var (pv 5)) (sa_cons (s_var (pv 2)) sa_nil))))) (sw_or1 (st_not (st_val (s_callG (takes_of rfl rfl rfl rfl) G__law_none_there hr (by decide) (by rfl) (by rfl) (sa_cons (s_var (pv 5)) (sa_cons (s_callG (takes_of rfl rfl rfl rfl) G__law_odd_diner hr (by decide) (by rfl) (by rfl) (sa_cons (s_op op_divD ok_div (s_var (pv 7)) s_int) (sa_cons (s_var (pv 1)) (sa_cons (s_var (pv 2)) sa_nil)))) sa_nil))))))))
    (sb_one (ss_ret s_bl))
    sb_nil))))))))))))
    (sb_cons (ss_fz 3 (ss_for (S := [12, 13]) (passes_of rfl) rfl (si_val (s_var (pv 3))) (pg_tup (by rfl) (pgs_cons (pg_name (i := 12) sc_law.nd rfl (by first | exact Or.inl rfl | exact Or.inr rfl)) (pgs_cons (pg_name (i := 13) sc_law.nd rfl (by first | exact Or.inl rfl | exact Or.inr rfl)) pgs_nil))) (okTg_tup (n := 2) rfl (okTgs_cons okTg_name (okTgs_cons okTg_name okTgs_nil))) (by rfl)
    (sb_one (ss_if (st_not (st_val (s_callG (takes_of rfl rfl rfl rfl) G__law_stands hr (by decide) (by rfl) (by rfl) (sa_cons (s_var (pv 12)) (sa_cons (s_var (pv 13)) sa_nil)))))
    (sb_one (ss_ret s_bl))
    sb_nil))))
    (sb_cons (ss_if (st_w (sw_or (st_not (st_val (s_callG (takes_of rfl rfl rfl rfl) G__law_stands hr (by decide) (by rfl) (by rfl) (sa_cons (s_var (pv 6)) (sa_cons s_dict0 sa_nil))))) (sw_or1 (st_not (st_val (s_callG (takes_of rfl rfl rfl rfl) G__law_none_there hr (by decide) (by rfl) (by rfl) (sa_cons (s_var (pv 6)) (sa_cons (s_ix (ix_4 (hu_of hr)) ok_ix (s_var (pv 1)) s_int) sa_nil))))))))
    (sb_one (ss_ret s_bl))
    sb_nil)
    (sb_one (ss_ret (s_and (s_callG (takes_of rfl rfl rfl rfl) G__law_stands hr (by decide) (by rfl) (by rfl) (sa_cons (s_var (pv 5)) (sa_cons (s_var (pv 2)) sa_nil))) (s_one (s_callG (takes_of rfl rfl rfl rfl) G__law_none_there hr (by decide) (by rfl) (by rfl) (sa_cons (s_var (pv 5)) (sa_cons s_str sa_nil)))))))))))))))
end
end OB

namespace OB
open PySem PySem.Spec PyProof.Rows L2 PySem.NumText PySem.StrLaws Builtin.Str
theorem are_signs_eq {s z : Str} (h : s.length ≤ 16777216) : m_are_signs [.str s, .str z] = .ok (.bl (among s z)) := by
  have hl : ((sgs s).map fun c => D.bl (decide (c ∈ sgs z))).length ≤ sizeLine := by rw [List.length_map, sgs_len]; exact h
  have e1 : cp_are_signs_1 [some (.str s), some (.str z), none] = .ok (.nd (.lst .own) ((sgs s).map fun c => D.bl (decide (c ∈ sgs z)))) := by
    unfold cp_are_signs_1 ce_are_signs_1
    refine eComp_ok (p := ((sgs s).map fun c => D.str (sg c), true)) rfl ?_ hl
    have := compL_map (tg := tgName 2) (f := ePr pIn [eVar 2, eVar 1]) (ρ := wipeE [some (.str s), some (.str z), none] [2]) (fun d => match d with | .str a => .bl (match sgs a with | [c] => decide (c ∈ sgs z) | _ => false) | _ => .non) ((sgs s).map fun c => D.str (sg c)) fun d hd => by
      obtain ⟨c, hc, rfl⟩ := List.mem_map.mp hd
      exact ⟨[some (.str s), some (.str z), some (.str (sg c))], rfl, by simp [in_sg]; rfl⟩
    rw [this, List.map_map]
    rfl
  have e3 : pAll [.nd (.lst .own) ((sgs s).map fun c => D.bl (decide (c ∈ sgs z)))] = some (.bl (among s z)) := by
    have := blsD_map ((sgs s).map fun c => decide (c ∈ sgs z))
    rw [List.map_map] at this
    show Option.map _ (blsD _) = _
    rw [show (fun c => D.bl (decide (c ∈ sgs z))) = D.bl ∘ fun c => decide (c ∈ sgs z) from rfl, this]
    unfold among
    simp
  unfold m_are_signs g_are_signs
  simp [e1, e3]
abbrev az : Str := "abcdefghijklmnopqrstuvwxyz"
structure Nm (s : Str) : Prop where
  lo : 1 ≤ s.length
  hi : s.length ≤ 12
  ab : among s az = true
theorem is_name_eq {s : Str} (h : Nm s) : m_is_name [.str s] = .ok (.bl true) := by
  have h1 := h.lo
  have h2 := h.hi
  have e := are_signs_eq (s := s) (z := az) (by omega)
  have hz : s.length ≤ 16777216 := by omega
  have g1 : (1 : Int) ≤ s.length := by omega
  have g2 : (s.length : Int) ≤ 12 := by omega
  rw [h.ab] at e
  unfold m_is_name g_is_name
  simp (decide := true) [isiD, tyN, nbTy, hz, e, g1, g2]
theorem Nm.ok {s : Str} (h : Nm s) : OkS s 12 := by
  refine ⟨h.hi, fun c hc => ?_⟩
  have := List.all_eq_true.mp h.ab c hc
  have hm : c ∈ sgs az := of_decide_eq_true this
  exact (lit_ok "abcdefghijklmnopqrstuvwxyz").ok c hm
theorem cut_nat {xs : List D} {k : Nat} : cutD xs none (some (k : Int)) = xs.take k := by
  unfold cutD
  rw [HT.sIx_none, HT.sIx_nat]
  simp
theorem sl_lst {f : Fl} {xs : List D} {lo hi : Option Int} : pSl (.nd (.lst f) xs) lo hi = some (.nd (.lst .own) (cutD xs lo hi)) := rfl
theorem cat_lst {f g : Fl} {xs ys : List D} (h : xs.length + ys.length ≤ 16777216) : pAdd [.nd (.lst f) xs, .nd (.lst g) ys] = some (.nd (.lst .own) (xs ++ ys)) := by
  unfold pAdd
  exact if_pos h
theorem any_strs {x : Str} {ss : List Str} : ((ss.map D.str).any fun y => eqA y (.str x)) = decide (x ∈ ss) := by
  induction ss with
  | nil => rfl
  | cons s ss ih =>
    rw [List.map_cons, List.any_cons, ih]
    by_cases h : s = x
    · subst h; simp [eqA]
    · have h2 : ¬ x = s := fun q => h q.symm
      simp [eqA, h, h2]
theorem all_at_strs {ss : List Str} : (ss.map D.str).all isAt = true := by
  induction ss with
  | nil => rfl
  | cons s ss ih => rw [List.map_cons, List.all_cons, ih]; rfl
@[simp] theorem in_lstS {x : Str} {f : Fl} {ss : List Str} : pIn [.str x, .nd (.lst f) (ss.map .str)] = some (.bl (decide (x ∈ ss))) := by
  show ((if isAt (.str x) && (ss.map D.str).all isAt then some ((ss.map D.str).any fun y => eqA y (.str x)) else none) : Option Bool).map D.bl = _
  rw [all_at_strs, any_strs]
  rfl
@[simp] theorem notIn_lstS {x : Str} {f : Fl} {ss : List Str} : pNotIn [.str x, .nd (.lst f) (ss.map .str)] = some (.bl (!decide (x ∈ ss))) := by
  show ((if isAt (.str x) && (ss.map D.str).all isAt then some ((ss.map D.str).any fun y => eqA y (.str x)) else none) : Option Bool).map (fun b => D.bl (!b)) = _
  rw [all_at_strs, any_strs]
  rfl
theorem comp_rngD {f : En → Ot D} {ρ : En} {i n : Nat} (y : Nat → D) (hf : ∀ j, j < n → f (ρ.set i (some (.int j))) = .ok (y j)) : compL (tgName i) cYes f ρ (rngD 0 n) = some ((List.range n).map y) := by
  have := compL_map (tg := tgName i) (f := f) (ρ := ρ) (fun d => match d with | .int k => y k.toNat | _ => .non) (rngD 0 n) fun d hd => by
    unfold rngD at hd
    rw [rng_len] at hd
    obtain ⟨j, hj, rfl⟩ := List.mem_map.mp hd
    refine ⟨_, rfl, ?_⟩
    have := hf j (List.mem_range.mp hj)
    simpa using this
  rw [this]
  unfold rngD
  rw [rng_len, List.map_map]
  congr 1
  apply List.map_congr_left
  intro j hj
  simp
def tx (l : List Nat) : Str := ⟨l.toArray⟩
theorem sgs_tx (l : List Nat) : sgs (tx l) = l := rfl
theorem tx_len (l : List Nat) : (tx l).length = l.length := by rw [← sgs_len]; rfl
theorem tx_inj {l l' : List Nat} (h : tx l = tx l') : l = l' := by rw [← sgs_tx l, ← sgs_tx l', h]
theorem tx_app (u v : List Nat) : tx u ++ tx v = tx (u ++ v) := by
  show Str.mk (u.toArray ++ v.toArray) = Str.mk (u ++ v).toArray
  rw [List.append_toArray]
theorem sg_tx (c : Nat) : sg c = tx [c] := rfl
theorem add_tx {u v : List Nat} (h : u.length + v.length ≤ 16777216) : pAdd [.str (tx u), .str (tx v)] = some (.str (tx (u ++ v))) := by
  show (if (tx u).length + (tx v).length ≤ sizeLine then some (D.str (tx u ++ tx v)) else none) = _
  rw [tx_len, tx_len, if_pos (show u.length + v.length ≤ sizeLine from h), tx_app]
theorem sl_tx0 {l : List Nat} {k : Nat} (h : l.length ≤ 16777216) : pSl (.str (tx l)) none (some (k : Int)) = some (.str (tx (l.take k))) := by
  show (if (tx l).length ≤ sizeLine then some (D.str (cutS (tx l) none (some (k : Int)))) else none) = _
  rw [tx_len, if_pos (show l.length ≤ sizeLine from h)]
  unfold cutS
  rw [HT.sIx_none, HT.sIx_nat, tx_len]
  congr 2
  simp [tx]
theorem sl_tx1 {l : List Nat} {a b : Nat} (h : l.length ≤ 16777216) (ha : a ≤ l.length) : pSl (.str (tx l)) (some (a : Int)) (some (b : Int)) = some (.str (tx ((l.drop a).take (min b l.length - a)))) := by
  show (if (tx l).length ≤ sizeLine then some (D.str (cutS (tx l) (some (a : Int)) (some (b : Int)))) else none) = _
  rw [tx_len, if_pos (show l.length ≤ sizeLine from h)]
  unfold cutS
  rw [HT.sIx_nat, HT.sIx_nat, tx_len, Nat.min_eq_left ha]
  congr 2
def Lt (l : List Nat) : Prop := ∀ c ∈ l, 97 ≤ c ∧ c ≤ 122
theorem az_sgs : sgs az = (List.range 26).map (97 + ·) := by decide +kernel
theorem nm_tx {l : List Nat} (h1 : 1 ≤ l.length) (h2 : l.length ≤ 12) (h : Lt l) : Nm (tx l) := by
  refine ⟨by rw [tx_len]; exact h1, by rw [tx_len]; exact h2, List.all_eq_true.mpr fun c hc => decide_eq_true ?_⟩
  rw [az_sgs]
  obtain ⟨a, b⟩ := h c hc
  exact List.mem_map.mpr ⟨c - 97, List.mem_range.mpr (by omega), by omega⟩
theorem az_at {k : Int} (h0 : 0 ≤ k) (h1 : k < 26) : pIx [.str az, .int k] = some (.str (tx [97 + k.toNat])) := by
  have e : atI az.cps.toList k = some (97 + k.toNat) := by
    unfold atI ixN
    have hl : az.cps.toList.length = 26 := by decide +kernel
    rw [if_pos h0, if_pos (by rw [hl]; exact h1)]
    show (sgs az)[k.toNat]? = _
    rw [az_sgs, List.getElem?_map, List.getElem?_range (by omega)]
    rfl
  show (if az.length ≤ sizeLine then (atI az.cps.toList k).map (fun c => D.str ⟨#[c]⟩) else none) = _
  rw [if_pos (by decide +kernel), e]
  rfl
theorem join_tx {f : Fl} (cs : List Nat) (h : cs.length ≤ 1000) : pJoin [.str "", .nd (.lst f) (cs.map fun c => D.str (tx [c]))] = some (.str (tx cs)) := by
  have hs : strsD (cs.map fun c => D.str (tx [c])) = some (cs.map sg) := by
    clear h
    induction cs with
    | nil => rfl
    | cons y ys ih => rw [List.map_cons, strsD, ih]; rfl
  have e0 : (Str.ofString "").length = 0 := by decide +kernel
  have e1 : ((cs.map sg).map Str.length).sum = cs.length := by
    clear h hs
    induction cs with
    | nil => rfl
    | cons y ys ih => rw [List.map_cons, List.map_cons, List.sum_cons, ih, List.length_cons]; show 1 + _ = _; omega
  show (strsD (cs.map fun c => D.str (tx [c]))).bind (fun ys => if (ys.map Str.length).sum + ys.length * (Str.ofString "").length ≤ 16777216 then some (D.str (Txt.join "" ys)) else none) = _
  rw [hs, Option.bind_some, e0, e1, if_pos (by omega), join_sg]
  rfl
theorem Lt.app {u v : List Nat} (h : Lt u) (g : Lt v) : Lt (u ++ v) := fun c hc => (List.mem_append.mp hc).elim (h c) (g c)
theorem Lt.sub {u v : List Nat} (h : Lt u) (s : v.Sublist u) : Lt v := fun c hc => h c (s.subset hc)
theorem mod26 (x : Int) : 0 ≤ x % 26 ∧ x % 26 < 26 := ⟨Int.emod_nonneg _ (by decide), Int.emod_lt_of_pos _ (by decide)⟩
theorem map_range_nodup {α : Type} {f : Nat → α} {k : Nat} (h : ∀ i j, i < k → j < k → f i = f j → i = j) : ((List.range k).map f).Nodup := by
  rw [List.nodup_iff_pairwise_ne]
  rw [List.pairwise_map]
  exact List.Pairwise.imp_of_mem (fun {a b} ha hb hab e => absurd (h a b (List.mem_range.mp ha) (List.mem_range.mp hb) e) (Nat.ne_of_lt hab)) List.pairwise_lt_range
theorem fold_nd : ∀ (ys acc : List Str), (acc ++ ys).Nodup → ys.foldl stepS acc = acc ++ ys
  | [], acc, _ => by simp
  | y :: ys, acc, h => by
    have n : y ∉ acc := fun q => (List.nodup_append.mp h).2.2 y q y List.mem_cons_self rfl
    have e : stepS acc y = acc ++ [y] := by
      unfold stepS
      rw [if_neg]
      intro q
      rw [List.any_eq_true] at q
      obtain ⟨z, hz, e⟩ := q
      have : z = y := by simpa using e
      exact n (this ▸ hz)
    rw [List.foldl_cons, e, fold_nd ys (acc ++ [y]) (by simpa using h)]
    simp
theorem lenSet_nd {f : Fl} {ys : List Str} (nd : ys.Nodup) (h : ys.length ≤ 1000) : pLenSet [.nd (.lst f) (ys.map D.str)] = some (.int ys.length) := by
  have hs : strsD (ys.map D.str) = some ys := by
    clear nd h
    induction ys with
    | nil => rfl
    | cons y ys ih => rw [List.map_cons, strsD, ih]; rfl
  show (strsD (ys.map D.str)).bind (fun ys => if ys.length + 1 < 4096 then some (D.int ((ys.foldl stepS []).length : Nat)) else none) = _
  rw [hs, Option.bind_some, if_pos (by omega), fold_nd ys [] (by simpa using nd)]
  simp
theorem all_bls {α : Type} (l : List α) : pAll [.nd (.lst .own) (l.map fun _ => D.bl true)] = some (.bl true) := by
  have : blsD (l.map fun _ => D.bl true) = some (l.map fun _ => true) := by
    have := blsD_map (l.map fun _ => true)
    rw [List.map_map] at this
    exact this
  show (blsD _).map _ = _
  rw [this]
  simp
end OB

namespace OB
open PySem PySem.Spec PyProof.Rows L2 PySem.NumText PySem.StrLaws Builtin.Str
theorem number_eq (ns : List Int) (k : Int) [Bd k 20] (hk : 0 ≤ k) : ∃ n : Int, (0 ≤ n ∧ n < 2147483629) ∧ ∀ f : Fl, m__law_number [.nd (.lst f) (ns.map D.int), .int k] = .ok (.int n) := by
  obtain ⟨c, hc⟩ : ∃ c : Int, ∀ f : Fl, sIf (eT (ePr pGt [ePr pLen [eVar 0], eC (.int 0)])) (sSet 2 (ePr pIx [eVar 0, ePr pMod [eVar 1, ePr pLen [eVar 0]]])) sNil [some (.nd (.lst f) (ns.map D.int)), some (.int k), some (.int 1), none] = some (.nx, [some (.nd (.lst f) (ns.map D.int)), some (.int k), some (.int c), none]) := by
    have mi : ∀ g : Fl → Fl, (ns.map D.int).map (mapF g) = ns.map D.int := fun g => by rw [List.map_map]; rfl
    by_cases h : 0 < ns.length
    · have h0 := Int.emod_nonneg k (show (ns.length : Int) ≠ 0 by omega)
      have h1 := Int.emod_lt_of_pos k (show (0 : Int) < ns.length by omega)
      have hj : (k % ns.length).toNat < ns.length := by omega
      refine ⟨ns[(k % ns.length).toNat], fun f => ?_⟩
      have e : ∀ f, pIx [.nd (.lst f) (ns.map D.int), .int (k % ns.length)] = some (.int ns[(k % ns.length).toNat]) := fun f => by
        have := ixL (f := f) (ds := ns.map D.int) (k := (k % ns.length).toNat) (d := .int ns[(k % ns.length).toNat]) (by rw [List.getElem?_map, List.getElem?_eq_getElem hj]; rfl)
        rwa [Int.toNat_of_nonneg h0] at this
      simp [mi, e, h]
    · refine ⟨1, fun f => ?_⟩
      simp [mi, h]
  refine ⟨(c % 2147483629 * 48271 + (k + 3) * (k + 3) * 69621) % 2147483647 * 16807 % 2147483629, ⟨Int.emod_nonneg _ (by decide), Int.emod_lt_of_pos _ (by decide)⟩, fun f => ?_⟩
  have hc := hc f
  unfold m__law_number
  rw [bodyM_eq]
  unfold g__law_number
  have ei : initE 4 [.nd (.lst f) (ns.map D.int), .int k] = [some (.nd (.lst f) (ns.map D.int)), some (.int k), none, none] := rfl
  rw [ei, sSeq_nx (ρ1 := [some (.nd (.lst f) (ns.map D.int)), some (.int k), some (.int 1), none]) (by simp), sSeq_nx hc]
  simp (decide := true)
/-! ### the names -/
def bs (n : Int) : List Nat := (List.range 12).map fun (j : Nat) => 97 + ((n / 7 + (3 + n % 5) * j) % 26).toNat
def sn (n : Int) (j : Nat) : Nat := 97 + ((n / 2000 + 5 * j) % 26).toNat
theorem bs_len (n : Int) : (bs n).length = 12 := by unfold bs; simp
theorem bs_lt (n : Int) : Lt (bs n) := fun c hc => by
  obtain ⟨j, _, rfl⟩ := List.mem_map.mp hc
  have := Int.emod_lt_of_pos (n / 7 + (3 + n % 5) * j) (show (0 : Int) < 26 by decide)
  have := Int.emod_nonneg (n / 7 + (3 + n % 5) * j) (show (26 : Int) ≠ 0 by decide)
  omega
theorem sn_lt (n : Int) (j : Nat) : 97 ≤ sn n j ∧ sn n j ≤ 122 := by
  have := Int.emod_lt_of_pos (n / 2000 + 5 * j) (show (0 : Int) < 26 by decide)
  have := Int.emod_nonneg (n / 2000 + 5 * j) (show (26 : Int) ≠ 0 by decide)
  unfold sn
  omega
def nmB (n : Int) (j : Nat) : List Nat := ((bs n).take (n % 8).toNat).take (n / 200 % (n % 8 + 1)).toNat ++ [sn n j] ++ ((bs n).take (n % 8).toNat).drop (n / 200 % (n % 8 + 1)).toNat
theorem sl_txd {l : List Nat} {a : Nat} (h : l.length ≤ 16777216) (ha : a ≤ l.length) : pSl (.str (tx l)) (some (a : Int)) none = some (.str (tx (l.drop a))) := by
  show (if (tx l).length ≤ sizeLine then some (D.str (cutS (tx l) (some (a : Int)) none)) else none) = _
  rw [tx_len, if_pos (show l.length ≤ sizeLine from h)]
  unfold cutS
  rw [HT.sIx_nat, tx_len, Nat.min_eq_left ha, HT.sIx_none]
  congr 2
  show Str.mk _ = Str.mk _
  congr 1
  simp [tx]
  rw [List.take_of_length_le (by simp)]
section
variable {c n : Int} (h0 : 0 ≤ n) (h1 : n < 2147483629)
include h0 h1
theorem cp1_eq {x4 x5 x6 x7 x8 x9 x10 : Option D} : cp__law_names_1 [some (.int n), some (.int 9), some (.str az), some (.int (3 + n % 5)), x4, x5, x6, x7, x8, x9, x10] = .ok (.nd (.lst .own) ((bs n).map fun c => D.str (tx [c]))) := by
  haveI : Bd n 31 := bd_range (c := 2147483629) (by omega) (by decide)
  unfold cp__law_names_1
  have e := comp_rngD (f := ce__law_names_1) (ρ := wipeE [some (.int n), some (.int 9), some (.str az), some (.int (3 + n % 5)), x4, x5, x6, x7, x8, x9, x10] [10]) (i := 10) (n := 12) (fun j => D.str (tx [97 + ((n / 7 + (3 + n % 5) * j) % 26).toNat])) fun j hj => by
    haveI : Bd (j : Int) 20 := bd_range (c := 1000) (by omega) (by decide)
    obtain ⟨a, b⟩ := mod26 (n / 7 + (3 + n % 5) * j)
    have e := az_at a b
    unfold ce__law_names_1
    simp (decide := true) [e]
  refine eComp_ok (p := (rngD 0 12, true)) rfl (e.trans ?_) (by rw [List.length_map, bs_len]; decide)
  unfold bs
  rw [List.map_map]
  rfl
theorem cp2_eq {x2 x3 x5 x6 x7 x8 x9 x10 : Option D} : cp__law_names_2 [some (.int n), some (.int 9), x2, x3, some (.str (tx (bs n))), x5, x6, x7, x8, x9, x10] = .ok (.nd (.lst .own) (((List.range 9).map fun j => tx ((bs n).take (j + 1))).map D.str)) := by
  unfold cp__law_names_2
  have e := comp_rngD (f := ce__law_names_2) (ρ := wipeE [some (.int n), some (.int 9), x2, x3, some (.str (tx (bs n))), x5, x6, x7, x8, x9, x10] [8]) (i := 8) (n := 9) (fun j => D.str (tx ((bs n).take (j + 1)))) fun j hj => by
    have e1 := sl_tx0 (l := bs n) (k := j + 1) (by rw [bs_len]; decide)
    rw [show (((j + 1 : Nat) : Int)) = (j : Int) + 1 by omega] at e1
    unfold ce__law_names_2
    simp (decide := true) [e1]
  refine eComp_ok (p := (rngD 0 9, true)) rfl (e.trans ?_) (by simp; decide)
  rw [List.map_map]
  rfl
theorem cp3_eq {x3 x4 x5 x6 x7 x8 x9 x10 : Option D} : cp__law_names_3 [some (.int n), some (.int 9), some (.str az), x3, x4, x5, x6, x7, x8, x9, x10] = .ok (.nd (.lst .own) (((List.range 9).map fun j => tx [sn n j]).map D.str)) := by
  haveI : Bd n 31 := bd_range (c := 2147483629) (by omega) (by decide)
  unfold cp__law_names_3
  have e := comp_rngD (f := ce__law_names_3) (ρ := wipeE [some (.int n), some (.int 9), some (.str az), x3, x4, x5, x6, x7, x8, x9, x10] [8]) (i := 8) (n := 9) (fun j => D.str (tx [sn n j])) fun j hj => by
    haveI : Bd (j : Int) 20 := bd_range (c := 1000) (by omega) (by decide)
    obtain ⟨a, b⟩ := mod26 (n / 2000 + 5 * j)
    have e := az_at a b
    unfold ce__law_names_3 sn
    simp (decide := true) [e]
  refine eComp_ok (p := (rngD 0 9, true)) rfl (e.trans ?_) (by simp; decide)
  rw [List.map_map]
  rfl
theorem cp4_eq {x0 x1 x2 x3 x4 x8 x9 x10 : Option D} : cp__law_names_4 [x0, x1, x2, x3, x4, some (.str (tx ((bs n).take (n % 8).toNat))), some (.int (n / 200 % (n % 8 + 1))), some (.nd (.lst .own) (((List.range 9).map fun j => tx [sn n j]).map D.str)), x8, x9, x10] = .ok (.nd (.lst .own) (((List.range 9).map fun j => tx (nmB n j)).map D.str)) := by
  unfold cp__law_names_4
  have ei : ∃ q, itV (eVar 7) [x0, x1, x2, x3, x4, some (.str (tx ((bs n).take (n % 8).toNat))), some (.int (n / 200 % (n % 8 + 1))), some (.nd (.lst .own) (((List.range 9).map fun j => tx [sn n j]).map D.str)), x8, x9, x10] = .ok (((List.range 9).map fun j => tx [sn n j]).map D.str, q) := by
    refine ⟨false && ((((List.range 9).map fun j => tx [sn n j]).map D.str).all noT), ?_⟩
    generalize ((List.range 9).map fun j => tx [sn n j]) = L
    unfold itV
    simp [itemsD]
  obtain ⟨q, ei⟩ := ei
  have a0 : 0 ≤ n / 200 % (n % 8 + 1) := Int.emod_nonneg _ (by omega)
  have a1 : n / 200 % (n % 8 + 1) < n % 8 + 1 := Int.emod_lt_of_pos _ (by omega)
  have b0 : 0 ≤ n % 8 := Int.emod_nonneg _ (by decide)
  have b1 : n % 8 < 8 := Int.emod_lt_of_pos _ (by decide)
  have hL : ((bs n).take (n % 8).toNat).length = (n % 8).toNat := by rw [List.length_take, bs_len]; omega
  unfold nmB
  generalize n % 8 = b at a0 a1 b0 b1 hL ⊢
  generalize n / 200 % (b + 1) = a at a0 a1 ⊢
  generalize (bs n).take b.toNat = L at hL ⊢
  have e1 := sl_tx0 (l := L) (k := a.toNat) (by omega)
  have e2 := sl_txd (l := L) (a := a.toNat) (by omega) (by omega)
  rw [Int.toNat_of_nonneg a0] at e1 e2
  have e := compL_map (tg := tgName 9) (f := ce__law_names_4) (ρ := wipeE [x0, x1, x2, x3, x4, some (.str (tx L)), some (.int a), some (.nd (.lst .own) (((List.range 9).map fun j => tx [sn n j]).map D.str)), x8, x9, x10] [9])
    (fun d => match d with | .str s => .str (tx (L.take a.toNat ++ sgs s ++ L.drop a.toNat)) | _ => .non) (((List.range 9).map fun j => tx [sn n j]).map D.str) fun d hd => by
    obtain ⟨s, hs, rfl⟩ := List.mem_map.mp hd
    obtain ⟨j, hj, rfl⟩ := List.mem_map.mp hs
    refine ⟨_, rfl, ?_⟩
    have l1 : (L.take a.toNat).length ≤ 11 := by rw [List.length_take]; omega
    have l2 : (L.drop a.toNat).length ≤ 11 := by rw [List.length_drop]; omega
    have e3 := add_tx (u := L.take a.toNat) (v := [sn n j]) (by simp; omega)
    have e4 := add_tx (u := L.take a.toNat ++ [sn n j]) (v := L.drop a.toNat) (by rw [List.length_append]; simp only [List.length_singleton]; omega)
    unfold ce__law_names_4
    generalize L.take a.toNat = u at e1 e3 e4 ⊢
    generalize L.drop a.toNat = v at e2 e4 ⊢
    have e5 : pAdd [.str (tx (u ++ [sn n j])), .str (tx v)] = some (.str (tx (u ++ sn n j :: v))) := by simpa using e4
    simp (decide := true) [e1, e2, e3, e5, sgs_tx]
  refine eComp_ok ei (e.trans ?_) (by simp; decide)
  rw [List.map_map, List.map_map, List.map_map]
  congr 1
end
structure Pool (l : List Str) : Prop where
  len : l.length = 9
  nm : ∀ x ∈ l, Nm x
  sh : ∀ x ∈ l, x.length ≤ 9
theorem poolA (n : Int) : Pool ((List.range 9).map fun j => tx ((bs n).take (j + 1))) := by
  have h : ∀ x ∈ ((List.range 9).map fun j => tx ((bs n).take (j + 1))), Nm x ∧ x.length ≤ 9 := fun x hx => by
    obtain ⟨j, hj, rfl⟩ := List.mem_map.mp hx
    have hj := List.mem_range.mp hj
    exact ⟨nm_tx (by rw [List.length_take, bs_len]; omega) (by rw [List.length_take, bs_len]; omega) ((bs_lt n).sub (List.take_sublist _ _)), by rw [tx_len, List.length_take, bs_len]; omega⟩
  exact ⟨by simp, fun x hx => (h x hx).1, fun x hx => (h x hx).2⟩
theorem poolB {n : Int} (b0 : 0 ≤ n) : Pool ((List.range 9).map fun j => tx (nmB n j)) := by
  have h : ∀ x ∈ ((List.range 9).map fun j => tx (nmB n j)), Nm x ∧ x.length ≤ 9 := fun x hx => by
    obtain ⟨j, hj, rfl⟩ := List.mem_map.mp hx
    have c1 : n % 8 < 8 := Int.emod_lt_of_pos _ (by decide)
    have hl : ((bs n).take (n % 8).toNat).length ≤ 7 := by rw [List.length_take]; omega
    have ht : Lt ((bs n).take (n % 8).toNat) := (bs_lt n).sub (List.take_sublist _ _)
    unfold nmB
    generalize (n / 200 % (n % 8 + 1)).toNat = a
    generalize (bs n).take (n % 8).toNat = L at hl ht
    have hn : (L.take a ++ [sn n j] ++ L.drop a).length ≤ 9 := by
      rw [List.length_append, List.length_append, List.length_take, List.length_drop, List.length_singleton]
      omega
    refine ⟨nm_tx (by simp; omega) (by omega) (Lt.app (Lt.app (ht.sub (List.take_sublist _ _)) fun c hc => ?_) (ht.sub (List.drop_sublist _ _))), by rw [tx_len]; exact hn⟩
    have : c = sn n j := by simpa using hc
    rw [this]; exact sn_lt n j
  exact ⟨by simp, fun x hx => (h x hx).1, fun x hx => (h x hx).2⟩
theorem names_eq {n : Int} (h0 : 0 ≤ n) (h1 : n < 2147483629) : ∃ names, m__law_names [.int n, .int 9] = .ok (.nd (.lst .own) (names.map D.str)) ∧ Pool names := by
  haveI : Bd n 31 := bd_range (c := 2147483629) (by omega) (by decide)
  have ej := fun f => join_tx (f := f) (bs n) (by rw [bs_len]; decide)
  have b0 : 0 ≤ n % 8 := Int.emod_nonneg _ (by decide)
  have b1 : n % 8 < 8 := Int.emod_lt_of_pos _ (by decide)
  by_cases k1 : n / 9 % 3 = 1
  · refine ⟨_, ?_, poolA n⟩
    unfold m__law_names g__law_names st__law_names_1 st__law_names_2
    simp (decide := true) [cp1_eq h0 h1, cp2_eq h0 h1, ej, k1]
  · refine ⟨_, ?_, poolB h0⟩
    have es := sl_tx0 (l := bs n) (k := (n % 8).toNat) (by rw [bs_len]; decide)
    rw [Int.toNat_of_nonneg b0] at es
    have hL : ((tx ((bs n).take (n % 8).toNat)).length : Int) = n % 8 := by rw [tx_len, List.length_take, bs_len]; omega
    have hz : (tx ((bs n).take (n % 8).toNat)).length ≤ 16777216 := by omega
    have c3 : 0 < n % 8 + 1 := by omega
    have c4 := fun x0 x1 x2 x3 x4 x8 x9 x10 => cp4_eq (x0 := x0) (x1 := x1) (x2 := x2) (x3 := x3) (x4 := x4) (x8 := x8) (x9 := x9) (x10 := x10) h0 h1
    simp only [List.map_map] at c4
    unfold m__law_names g__law_names st__law_names_1 st__law_names_2 st__law_names_3 st__law_names_4
    simp (decide := true) [cp1_eq h0 h1, ej, k1, es, hL, hz, c3, cp3_eq h0 h1, c4]
    try rfl
end OB

namespace OB
open PySem PySem.Spec PyProof.Rows L2 PySem.NumText PySem.StrLaws Builtin.Str
theorem tyN_mapF {g : Fl → Fl} {d : D} : tyN (mapF g d) = tyN d := by
  cases d with
  | nd k ds => cases k <;> (rw [mapF, mapFL_eq]; rfl)
  | _ => rfl
theorem objN_mapF {g : Fl → Fl} {d : D} : objN (mapF g d) = objN d := by
  cases d with
  | nd k ds => cases k <;> (rw [mapF, mapFL_eq]; rfl)
  | _ => rfl
theorem isiD_mapF {g : Fl → Fl} {nb : String → Option Bool} {ob : Str → Option Bool} {d : D} : isiD nb ob (mapF g d) = isiD nb ob d := by
  unfold isiD
  rw [tyN_mapF, objN_mapF]
/-- a thing that is no text -/
def NS (d : D) : Prop := isiD (nbTy "str") (fun _ => none) d = some false
theorem NS.map {d : D} (g : Fl → Fl) (h : NS d) : NS (mapF g d) := by unfold NS; rw [isiD_mapF]; exact h
/-- a fitting name -/
def nmQ : D → Bool
  | .str s => decide ((1 : Int) ≤ s.length) && (decide ((s.length : Int) ≤ 12) && among s az)
  | _ => false
inductive El : D → Prop
  | s {s : Str} (h : OkS s 13) : El (.str s)
  | o {d : D} (h : NS d) : El d
theorem NS.not {d : D} (h : NS d) : nmQ d = false := by
  cases d with
  | str s => exact absurd h (by unfold NS; simp [isiD, tyN, nbTy])
  | _ => rfl
theorem mapF_isStr {g : Fl → Fl} {d : D} : nmQ (mapF g d) = nmQ d := by
  cases d with
  | nd k ds => rw [mapF]; rfl
  | _ => rfl
theorem El.map {d : D} (g : Fl → Fl) (h : El d) : El (mapF g d) := by
  cases h with
  | s h => exact .s h
  | o h => exact .o (h.map g)
theorem nmQ_nm {d : D} (h : nmQ d = true) : ∃ s, d = .str s ∧ Nm s := by
  cases d with
  | str s =>
    unfold nmQ at h
    rw [Bool.and_eq_true, Bool.and_eq_true] at h
    have h1 := of_decide_eq_true h.1
    have h2 := of_decide_eq_true h.2.1
    exact ⟨s, rfl, by omega, by omega, h.2.2⟩
  | _ => cases h
theorem nm_nmQ {s : Str} (h : Nm s) : nmQ (.str s) = true := by
  have h1 := h.lo
  have h2 := h.hi
  show (decide ((1 : Int) ≤ s.length) && (decide ((s.length : Int) ≤ 12) && among s az)) = true
  rw [h.ab, decide_eq_true (by omega), decide_eq_true (by omega)]
  rfl
theorem is_name_el {d : D} (h : El d) : m_is_name [d] = .ok (.bl (nmQ d)) := by
  cases h with
  | s h =>
    rename_i s
    have hz : s.length ≤ 16777216 := Nat.le_trans h.len (by decide)
    have e := are_signs_eq (s := s) (z := az) hz
    unfold m_is_name g_is_name nmQ
    by_cases h1 : (1 : Int) ≤ s.length <;> by_cases h2 : (s.length : Int) ≤ 12 <;> simp [isiD, tyN, nbTy, hz, e, h1, h2]
  | o h =>
    rw [h.not]
    have h2 := h.map Fl.toTmp
    unfold NS at h2
    unfold m_is_name g_is_name
    simp [h2]
theorem law_is_name_el {d : D} (h : El d) : m__law_is_name [d] = .ok (.bl (nmQ d)) := by
  cases h with
  | s o =>
    rename_i s
    have h : s.length ≤ 16777216 := Nat.le_trans o.len (by decide)
    have e := comp_notIn (i := 1) (s := s) (z := az) (ρ := [some (.str s), none]) (fz := eC (.str az)) h (by simp) (by simp) (fun d => rfl)
    have e2 := pEq_nil (f := .own) (g := .own) (n := 1) (ss := ((sgs s).filter fun c => !decide (c ∈ sgs az)).map sg) fun t ht => by
      obtain ⟨c, hc, rfl⟩ := List.mem_map.mp ht
      exact sg_ok o ((List.mem_filter.mp hc).1)
    rw [List.map_map] at e2
    have e3 : (((sgs s).filter fun c => !decide (c ∈ sgs az)).map sg).isEmpty = among s az := by
      rw [List.isEmpty_map]
      exact odd_sgs
    rw [e3] at e2
    have e2 : pEq [.nd (.lst .own) (((sgs s).filter fun c => !decide (c ∈ sgs az)).map fun c => .str (sg c)), .nd (.lst .own) []] = some (.bl (among s az)) := e2
    have e : cp__law_is_name_1 [some (.str s), none] = .ok (.nd (.lst .own) (((sgs s).filter fun c => !decide (c ∈ sgs az)).map fun c => .str (sg c))) := e
    unfold m__law_is_name g__law_is_name nmQ
    generalize (((sgs s).filter fun c => !decide (c ∈ sgs az)).map fun c => D.str (sg c)) = L at e e2
    by_cases h1 : (1 : Int) ≤ s.length <;> by_cases h2 : (s.length : Int) ≤ 12 <;> simp [isiD, tyN, nbTy, len_str h, le_int, h1, h2, e, e2, pLst, sizeLine]
  | o h =>
    rw [h.not]
    have h2 := h.map Fl.toTmp
    unfold NS at h2
    unfold m__law_is_name g__law_is_name
    simp [h2]
theorem all_bl (bs : List Bool) : pAll [.nd (.lst .own) (bs.map D.bl)] = some (.bl (bs.all id)) := by
  show Option.map _ (blsD _) = _
  rw [blsD_map]
  rfl
theorem are_names_lst {f : Fl} {ds : List D} (h : ∀ d ∈ ds, El d) (hl : ds.length ≤ 1000) : m_are_names [.nd (.lst f) ds] = .ok (.bl (ds.all nmQ)) := by
  have e1 : cp_are_names_1 [some (.nd (.lst f) ds), none] = .ok (.nd (.lst .own) ((ds.map nmQ).map D.bl)) := by
    have ei : ∃ p, itV (eVar 0) [some (.nd (.lst f) ds), none] = .ok ((ds.map (mapF Fl.toTmp)).map toFrz, p) := by
      refine ⟨(Fl.toTmp f != .tmp) && (ds.map (mapF Fl.toTmp)).all noT, ?_⟩
      unfold itV
      simp [itemsD]
    obtain ⟨p, ei⟩ := ei
    unfold cp_are_names_1
    have e := compL_map (tg := tgName 1) (f := ce_are_names_1) (ρ := wipeE [some (.nd (.lst f) ds), none] [1]) (fun d => D.bl (nmQ d)) ((ds.map (mapF Fl.toTmp)).map toFrz) fun d hd => by
      obtain ⟨d1, hd1, rfl⟩ := List.mem_map.mp hd
      obtain ⟨d2, hd2, rfl⟩ := List.mem_map.mp hd1
      refine ⟨_, rfl, ?_⟩
      have en := is_name_el ((((h d2 hd2).map Fl.toTmp).map Fl.toFrz |>.map Fl.toTmp).map Fl.toArg)
      simp only [mapF_isStr] at en
      unfold ce_are_names_1
      simp (decide := true) [en, mapF_isStr]
    refine eComp_ok ei (e.trans ?_) (by rw [List.length_map, List.length_map]; exact Nat.le_trans hl (by decide))
    rw [List.map_map, List.map_map, List.map_map]
    congr 1
    apply List.map_congr_left
    intro d _
    simp [mapF_isStr]
  have e3 := all_bl (ds.map nmQ)
  rw [List.all_map] at e3
  have e3 : pAll [.nd (.lst .own) ((ds.map nmQ).map D.bl)] = some (.bl (ds.all nmQ)) := e3
  generalize (ds.map nmQ).map D.bl = L at e1 e3
  unfold m_are_names g_are_names
  simp (decide := true) [e1, e3, isiD, tyN, nbTy]
/-- a thing that is no list -/
def NL (d : D) : Prop := isiD (nbTy "list") (fun _ => none) d = some false
theorem NL.map {d : D} (g : Fl → Fl) (h : NL d) : NL (mapF g d) := by unfold NL; rw [isiD_mapF]; exact h
theorem are_names_odd {d : D} (h : NL d) : m_are_names [d] = .ok (.bl false) := by
  have h2 := h.map Fl.toTmp
  unfold NL at h2
  unfold m_are_names g_are_names
  simp [h2]
end OB

namespace OB
open PySem PySem.Spec PyProof.Rows L2 PySem.NumText PySem.StrLaws Builtin.Str
abbrev Rw := Str × List Str × Bool
def fi (f : Fl) (b : Bool) : Fl := if b then f else .frz
theorem fi_map {g : Fl → Fl} {f : Fl} {b : Bool} (hg : g .frz = .frz) : g (fi f b) = fi (g f) b := by
  cases b
  · exact hg
  · rfl
def keyR (rows : List Rw) : List Key := rows.map fun r => .inr r.1
def valR (f : Fl) (rows : List Rw) : List D := rows.map fun r => .nd (.lst (fi f r.2.2)) (r.2.1.map .str)
def kD (f : Fl) (rows : List Rw) : D := .nd (.dct f (keyR rows)) (valR f rows)
def dn (f : Fl) (rows : List Rw) : D := .nd (.obj f "Diners" ["known"]) [kD f rows]
section
variable {g : Fl → Fl} {f : Fl} {rows : List Rw}
theorem mapF_valR (hg : g .frz = .frz) : (valR f rows).map (mapF g) = valR (g f) rows := by
  unfold valR
  rw [List.map_map]
  apply List.map_congr_left
  intro r _
  simp [fi_map hg]
theorem mapF_kD (hg : g .frz = .frz) : mapF g (kD f rows) = kD (g f) rows := by
  show mapF g (.nd (.dct f (keyR rows)) (valR f rows)) = _
  rw [mapF_dct, mapF_valR hg]; rfl
theorem mapF_dn (hg : g .frz = .frz) : mapF g (dn f rows) = dn (g f) rows := by
  show mapF g (.nd (.obj f "Diners" ["known"]) [kD f rows]) = _
  rw [mapF, mapFL_eq, List.map_cons, mapF_kD hg]; rfl
@[simp] theorem mapF_valR_toTmp : (valR f rows).map (mapF Fl.toTmp) = valR (f.toTmp) rows := mapF_valR rfl
@[simp] theorem mapF_valR_toArg : (valR f rows).map (mapF Fl.toArg) = valR (f.toArg) rows := mapF_valR rfl
@[simp] theorem mapF_valR_toFrz : (valR f rows).map (mapF Fl.toFrz) = valR (f.toFrz) rows := mapF_valR rfl
@[simp] theorem mapF_valR_tmpFrz : (valR f rows).map (mapF Fl.tmpFrz) = valR (f.tmpFrz) rows := mapF_valR rfl
@[simp] theorem mapF_kD_toTmp : mapF Fl.toTmp (kD f rows) = kD (f.toTmp) rows := mapF_kD rfl
@[simp] theorem mapF_kD_toArg : mapF Fl.toArg (kD f rows) = kD (f.toArg) rows := mapF_kD rfl
@[simp] theorem mapF_kD_toFrz : mapF Fl.toFrz (kD f rows) = kD (f.toFrz) rows := mapF_kD rfl
@[simp] theorem mapF_kD_tmpFrz : mapF Fl.tmpFrz (kD f rows) = kD (f.tmpFrz) rows := mapF_kD rfl
@[simp] theorem mapF_dn_toTmp : mapF Fl.toTmp (dn f rows) = dn (f.toTmp) rows := mapF_dn rfl
@[simp] theorem mapF_dn_toArg : mapF Fl.toArg (dn f rows) = dn (f.toArg) rows := mapF_dn rfl
@[simp] theorem mapF_dn_toFrz : mapF Fl.toFrz (dn f rows) = dn (f.toFrz) rows := mapF_dn rfl
@[simp] theorem mapF_dn_tmpFrz : mapF Fl.tmpFrz (dn f rows) = dn (f.tmpFrz) rows := mapF_dn rfl
@[simp] theorem fld_dn : pFld ["Diners"] "known" [dn f rows] = some (kD f rows) := rfl
theorem allF_valR {p : Fl → Bool} (hp : p f = true) (hq : p .frz = true) : (valR f rows).all (allF p) = true := by
  rw [List.all_eq_true]
  intro d hd
  obtain ⟨r, _, rfl⟩ := List.mem_map.mp hd
  have hr : p (fi f r.2.2) = true := by
    unfold fi
    split
    · exact hp
    · exact hq
  simp only [allF, allFL_eq, Kd.fl, hr, Bool.true_and, List.all_map]
  exact List.all_eq_true.mpr fun _ _ => rfl
theorem allF_kD {p : Fl → Bool} (hp : p f = true) (hq : p .frz = true) : allF p (kD f rows) = true := by
  unfold kD
  simp only [allF, allFL_eq, Kd.fl, hp, Bool.true_and]
  exact allF_valR hp hq
theorem allF_dn {p : Fl → Bool} (hp : p f = true) (hq : p .frz = true) : allF p (dn f rows) = true := by
  unfold dn
  simp only [allF, allFL, Kd.fl, hp, Bool.true_and, Bool.and_true]
  exact allF_kD hp hq
end
@[simp] theorem noB_kD {rows : List Rw} : noB (kD .own rows) = true := allF_kD rfl rfl
@[simp] theorem noB_kDf {rows : List Rw} : noB (kD .frz rows) = true := allF_kD rfl rfl
@[simp] theorem noB_dn {rows : List Rw} : noB (dn .own rows) = true := allF_dn rfl rfl
@[simp] theorem noB_dnf {rows : List Rw} : noB (dn .frz rows) = true := allF_dn rfl rfl
@[simp] theorem noT_kD {rows : List Rw} : noT (kD .own rows) = true := allF_kD rfl rfl
@[simp] theorem noT_dn {rows : List Rw} : noT (dn .own rows) = true := allF_dn rfl rfl
@[simp] theorem noT_kDf {rows : List Rw} : noT (kD .frz rows) = true := allF_kD rfl rfl
@[simp] theorem noT_dnf {rows : List Rw} : noT (dn .frz rows) = true := allF_dn rfl rfl
theorem objHas_dn {f : Fl} {rows : List Rw} {n : Str} (h : ¬ n = ("known" : Str)) : objHas "Diners" n (dn f rows) = true := by
  unfold dn objHas
  simp [h]
@[simp] theorem lenK {f : Fl} {rows : List Rw} : pLen [kD f rows] = some (.int rows.length) := by
  unfold kD
  rw [lenD]
  simp [keyR]
theorem look_R {v : Rw → D} {n : Str} {a : List Str × Bool} : ∀ {rows : List Rw}, (rows.map (·.1)).Nodup → (n, a) ∈ rows → look (keyR rows) (rows.map v) (.inr n) = some (v (n, a))
  | [], _, h => nomatch h
  | g :: st, nd, h => by
    rw [List.map_cons] at nd
    obtain ⟨n1, n2⟩ := List.nodup_cons.mp nd
    unfold keyR
    rw [List.map_cons, List.map_cons]
    unfold look
    by_cases e : g.1 = n
    · rw [if_pos (by rw [e])]
      rcases List.mem_cons.mp h with h | h
      · rw [← h]
      · exact absurd (List.mem_map.mpr ⟨_, h, e.symm⟩) n1
    · rw [if_neg (fun q => e (by injection q))]
      rcases List.mem_cons.mp h with h | h
      · exact absurd (by rw [← h]) e
      · exact look_R n2 h
theorem look_R0 {v : Rw → D} {n : Str} : ∀ {rows : List Rw}, n ∉ rows.map (·.1) → look (keyR rows) (rows.map v) (.inr n) = none
  | [], _ => rfl
  | g :: st, h => by
    rw [List.map_cons, List.mem_cons, not_or] at h
    unfold keyR
    rw [List.map_cons, List.map_cons]
    unfold look
    rw [if_neg (fun q => h.1 (by injection q with q; exact q.symm))]
    exact look_R0 h.2
theorem look_in {v : Rw → D} {n : Str} {rows : List Rw} : (look (keyR rows) (rows.map v) (.inr n)).isSome = decide (n ∈ rows.map (·.1)) := by
  induction rows with
  | nil => rfl
  | cons g st ih =>
    unfold keyR at ih ⊢
    rw [List.map_cons, List.map_cons, List.map_cons]
    unfold look
    by_cases e : g.1 = n
    · rw [if_pos (by rw [e])]
      simp [e]
    · rw [if_neg (fun q => e (by injection q)), ih]
      have : ¬ n = g.1 := fun q => e q.symm
      simp [this]
@[simp] theorem in_kD {f : Fl} {n : Str} {rows : List Rw} : pIn [.str n, kD f rows] = some (.bl (decide (n ∈ rows.map (·.1)))) := by
  show some (D.bl (look (keyR rows) (valR f rows) (.inr n)).isSome) = _
  unfold valR
  rw [look_in]
@[simp] theorem notIn_kD {f : Fl} {n : Str} {rows : List Rw} : pNotIn [.str n, kD f rows] = some (.bl (!decide (n ∈ rows.map (·.1)))) := by
  show some (D.bl (!(look (keyR rows) (valR f rows) (.inr n)).isSome)) = _
  unfold valR
  rw [look_in]
theorem ix_kD {f : Fl} {n : Str} {a : List Str} {b : Bool} {rows : List Rw} (nd : (rows.map (·.1)).Nodup) (h : (n, a, b) ∈ rows) : pIx [kD f rows, .str n] = some (.nd (.lst (fi f b)) (a.map .str)) := look_R (v := fun r => .nd (.lst (fi f r.2.2)) (r.2.1.map .str)) nd h
/-! ### what the law makes of errors -/
theorem word_none : m__law_word [.non] = .ok (.str "") := by
  unfold m__law_word g__law_word st__law_word_1
  simp
theorem word_name : m__law_word [.nd (.exc .frz "BadName" []) []] = .ok (.str "name") := rfl
theorem word_twice : m__law_word [.nd (.exc .frz "Twice" []) []] = .ok (.str "twice") := rfl
theorem word_many : m__law_word [.nd (.exc .frz "TooMany" []) []] = .ok (.str "many") := rfl
theorem word_diner {d : D} : m__law_word [.nd (.exc .frz "NoDiner" ["name"]) [d]] = .ok (.str "diner") := rfl
end OB

namespace OB
open PySem PySem.Spec PyProof.Rows L2 PySem.NumText PySem.StrLaws Builtin.Str
@[simp] theorem oh_put {f : Fl} {rows : List Rw} : objHas "Diners" "put_diner" (dn f rows) = true := objHas_dn (by decide)
@[simp] theorem oh_av {f : Fl} {rows : List Rw} : objHas "Diners" "avoids_of" (dn f rows) = true := objHas_dn (by decide)
@[simp] theorem oh_all {f : Fl} {rows : List Rw} : objHas "Diners" "all_diners" (dn f rows) = true := objHas_dn (by decide)
@[simp] theorem oh_cop {f : Fl} {rows : List Rw} : objHas "Diners" "copied" (dn f rows) = true := objHas_dn (by decide)
/-! ### reading -/
theorem all_diners_eq {f : Fl} {rows : List Rw} (hf : f = .bor ∨ f = .frz) : m_Diners_all_diners [dn f rows] = .ok (.nd (.lst .own) ((rows.map (·.1)).map .str)) := by
  have hp : pList3 [kD f rows] = some (.nd (.lst .own) ((rows.map (·.1)).map .str)) := by
    have e : (keyR rows).map keyDat = (rows.map (·.1)).map D.str := by
      unfold keyR
      rw [List.map_map, List.map_map]
      rfl
    show pListD [kD f rows] = _
    unfold kD pListD
    simp only [e]
    try rfl
  unfold m_Diners_all_diners g_Diners_all_diners
  rcases hf with rfl | rfl <;> simp [hp]
theorem avoids_eq {f : Fl} {n : Str} {a : List Str} {b : Bool} {rows : List Rw} (hf : f = .bor ∨ f = .frz) (nd : (rows.map (·.1)).Nodup) (h : (n, a, b) ∈ rows) : m_Diners_avoids_of [dn f rows, .str n] = .ok (.nd (.lst .own) (a.map .str)) := by
  have hm : n ∈ rows.map (·.1) := List.mem_map.mpr ⟨_, h, rfl⟩
  have e := ix_kD (f := f) nd h
  have hp : ∀ f, pList3 [.nd (.lst f) (a.map D.str)] = some (.nd (.lst .own) (a.map .str)) := fun _ => rfl
  unfold m_Diners_avoids_of g_Diners_avoids_of
  rcases hf with rfl | rfl <;> simp (decide := true) [isiD, tyN, nbTy, hm, e, hp]
theorem avoids_no {f : Fl} {n : Str} {rows : List Rw} (hf : f = .bor ∨ f = .frz) (h : n ∉ rows.map (·.1)) : m_Diners_avoids_of [dn f rows, .str n] = .ex ⟨"NoDiner", some ("name", .str n)⟩ := by
  unfold m_Diners_avoids_of g_Diners_avoids_of
  rcases hf with rfl | rfl <;> simp (decide := true) [isiD, tyN, nbTy, h, zId]
theorem avoids_odd {f : Fl} {d : D} {rows : List Rw} (hf : f = .bor ∨ f = .frz) (h : NS d) (hd : ∀ g : Fl → Fl, g .frz = .frz → mapF g d = d) (nb : noB d = true) : m_Diners_avoids_of [dn f rows, d] = .ex ⟨"NoDiner", some ("name", d)⟩ := by
  have h1 := hd Fl.toTmp rfl
  have h2 := hd Fl.toFrz rfl
  unfold NS at h
  unfold m_Diners_avoids_of g_Diners_avoids_of
  rcases hf with rfl | rfl <;> simp (decide := true) [h, h1, h2, zId, nb]
@[simp] theorem back_ex {x : XD} : back (.ex x) = .ex x := rfl
@[simp] theorem xb_nd : xb_m_LarderError "NoDiner" = some true := by decide
@[simp] theorem xb_bn : xb_m_LarderError "BadName" = some true := by decide
@[simp] theorem xb_tm : xb_m_LarderError "TooMany" = some true := by decide
@[simp] theorem xb_tw : xb_m_LarderError "Twice" = some true := by decide
/-- none there: texts -/
theorem none_there_str {f : Fl} {n : Str} {rows : List Rw} (hf : f = .bor ∨ f = .frz) (h : n ∉ rows.map (·.1)) : m__law_none_there [dn f rows, .str n] = .ok (.bl true) := by
  have e := avoids_no (f := f) hf h
  have w := word_diner (d := .str n)
  have hx : pFldX [] x_name "name" [.nd (.exc .frz "NoDiner" ["name"]) [.str n]] = some (.str n) := rfl
  have q : pEq2 [.str n, .str n] = some (.bl true) := by
    unfold pEq2 eqX
    simp [atEq]
  have t : isiD (nbTy "bool") (fun _ => none) (.str n) = some false := rfl
  unfold m__law_none_there g__law_none_there
  rcases hf with rfl | rfl <;> simp (decide := true) [e, w, hx, q, t]
theorem none_there_odd {f : Fl} {d : D} {rows : List Rw} (hf : f = .bor ∨ f = .frz) (h : NS d) (hd : ∀ g : Fl → Fl, g .frz = .frz → mapF g d = d) (nb : noB d = true) (hx : pFldX [] x_name "name" [.nd (.exc .frz "NoDiner" ["name"]) [d]] = some d) (q : pEq2 [d, d] = some (.bl true)) (t : ∃ b, isiD (nbTy "bool") (fun _ => none) d = some b) : m__law_none_there [dn f rows, d] = .ok (.bl true) := by
  have e := avoids_odd (f := f) (rows := rows) hf h hd nb
  have w := word_diner (d := d)
  have h1 := hd Fl.toTmp rfl
  have h2 := hd Fl.toFrz rfl
  have h3 := hd Fl.toArg rfl
  obtain ⟨b, t⟩ := t
  unfold m__law_none_there g__law_none_there
  rcases hf with rfl | rfl <;> simp (decide := true) [e, w, hx, q, h1, h2, h3, t]
end OB

namespace OB
open PySem PySem.Spec PyProof.Rows L2 PySem.NumText PySem.StrLaws Builtin.Str
structure RwOk (rows : List Rw) : Prop where
  nd : (rows.map (·.1)).Nodup
  len : rows.length ≤ 6
  nm : ∀ r ∈ rows, Nm r.1
  av : ∀ r ∈ rows, ∀ x ∈ r.2.1, Nm x
  al : ∀ r ∈ rows, r.2.1.length ≤ 6
abbrev STN (f g : Fl) (rows : List Rw) (x2 x3 x4 x5 : Option D) : En := [some (dn f rows), some (kD g rows), x2, x3, x4, x5]
theorem noT_kDg {g : Fl} {rows : List Rw} (h : g = .bor ∨ g = .frz) : noT (kD g rows) = true := by rcases h with rfl | rfl <;> exact allF_kD rfl rfl
theorem more_eq {f : Fl} {a : List Str} : (a.map D.str) ++ [D.str "more"] = (a ++ [("more" : Str)]).map D.str := by simp
section
variable {f g : Fl} {rows : List Rw} (hf : f = .bor ∨ f = .frz) (hg : g = .bor ∨ g = .frz) (ok : RwOk rows)
include hf hg ok
theorem st_turn {n : Str} {a : List Str} {b : Bool} {x2 x3 x4 x5 : Option D} (h : (n, a, b) ∈ rows) : ∃ z, lb__law_stands_1 (STN f g rows x2 x3 (some (.str n)) x5) = some (.nx, STN f g rows x2 x3 (some (.str n)) z) := by
  have e1 := avoids_eq hf ok.nd h
  have e2 := ix_kD (f := g) ok.nd h
  have hl := ok.al _ h
  have hl : a.length < 16777216 := Nat.lt_of_le_of_lt hl (by decide)
  have q := fun k : Fl => pNe_refl (f := .tmp) (g := k) (ss := a) fun s hs => (ok.av _ h s hs).ok
  have t : ∀ ds, isiD (nbTy "list") (fun _ => none) (.nd (.lst .tmp) ds) = some true := fun _ => rfl
  have e3 : sSet 5 (eMeth "Diners" "avoids_of" m_Diners_avoids_of [] (eVar 0) [eVar 4]) (STN f g rows x2 x3 (some (.str n)) x5) = some (.nx, STN f g rows x2 x3 (some (.str n)) (some (.nd (.lst .own) (a.map .str)))) := by
    rcases hf with rfl | rfl <;> simp (decide := true) [e1]
  have hp : isiD (nbTy "list") (fun _ => none) (.nd (.lst .tmp) (a.map D.str)) = some true := rfl
  have hz : a.length < sizeLine := hl
  have e4 : sMut 5 pHere mApp (eL [eC (.str "more")]) (STN f g rows x2 x3 (some (.str n)) (some (.nd (.lst .own) (a.map .str)))) = some (.nx, STN f g rows x2 x3 (some (.str n)) (some (.nd (.lst .own) (a.map .str ++ [.str "more"])))) := by
    simp (decide := true) [sMut, placeOf, Kd.isOwn, Kd.fl, mApp, putAt, hz]
  refine ⟨some (.nd (.lst .own) (a.map .str ++ [.str "more"])), ?_⟩
  unfold lb__law_stands_1
  rw [sSeq_nx e3]
  rw [sSeq_nx (ρ1 := STN f g rows x2 x3 (some (.str n)) (some (.nd (.lst .own) (a.map .str)))) (by rcases hg with rfl | rfl <;> simp (decide := true) [hp, e2, q])]
  exact e4
theorem st_names {x2 x3 x4 x5 : Option D} : ∃ z4 z5, lp__law_stands_1 (STN f g rows x2 x3 x4 x5) = some (.nx, STN f g rows x2 x3 z4 z5) := by
  obtain ⟨ρ', e, z4, z5, hρ⟩ := forL_inv (tg := tgName 4) (b := lb__law_stands_1) (fun j ρ => ∃ z4 z5, ρ = STN f g rows x2 x3 z4 z5) (rows.map fun r => D.str r.1) 0 (STN f g rows x2 x3 x4 x5) (fun j d ρ hd ⟨z4, z5, hρ⟩ => by
    subst hρ
    rw [List.getElem?_map] at hd
    cases hr : rows[j]? with
    | none => rw [hr] at hd; cases hd
    | some r =>
      rw [hr] at hd
      cases hd
      obtain ⟨z, e⟩ := st_turn hf hg ok (n := r.1) (a := r.2.1) (b := r.2.2) (x2 := x2) (x3 := x3) (x4 := z4) (x5 := z5) (List.mem_of_getElem? hr)
      exact ⟨_, _, rfl, e, _, _, rfl⟩) ⟨x4, x5, rfl⟩
  refine ⟨z4, z5, ?_⟩
  subst hρ
  unfold lp__law_stands_1
  rw [sForK_eq]
  have es : subD (STN f g rows x2 x3 x4 x5) 1 pHere = some (kD g rows, [], kD g rows) := by
    rw [subD_row]
    rfl
  have ha : allF (fun f => f != .own) (kD g rows) = true := allF_kD (by rcases hg with rfl | rfl <;> rfl) rfl
  have hb : (g != .own) = true := by rcases hg with rfl | rfl <;> rfl
  rw [es]
  have ek : (keyR rows).map keyDat = rows.map fun r => D.str r.1 := by
    unfold keyR
    rw [List.map_map]
    rfl
  show (if allF (fun f => f != .own) (kD g rows) && g != .own then noEx (forL (tgName 4) lb__law_stands_1 ((keyR rows).map keyDat) _) else none) = _
  rw [ha, hb, ek, e]
  rfl
theorem st_round {x2 x3 x4 x5 : Option D} : ∃ z3 z4 z5, lb__law_stands_2 (STN f g rows x2 x3 x4 x5) = some (.nx, STN f g rows x2 z3 z4 z5) := by
  have e1 := all_diners_eq (rows := rows) hf
  have q := fun k : Fl => pNe_refl (f := .tmp) (g := k) (ss := rows.map (·.1)) fun s hs => by
    obtain ⟨r, hr, rfl⟩ := List.mem_map.mp hs
    exact (ok.nm r hr).ok
  have e2 : ∀ k : Fl, pList3 [kD k rows] = some (.nd (.lst .own) ((rows.map (·.1)).map .str)) := fun k => by
    have e : (keyR rows).map keyDat = (rows.map (·.1)).map D.str := by
      unfold keyR
      rw [List.map_map, List.map_map]
      rfl
    show pListD [kD k rows] = _
    unfold kD pListD
    simp only [e]
  have hl : (rows.map (·.1)).length < 16777216 := by rw [List.length_map]; exact Nat.lt_of_le_of_lt ok.len (by decide)
  generalize rows.map (·.1) = L at e1 q e2 hl
  have e3 : sSet 3 (eMeth "Diners" "all_diners" m_Diners_all_diners [] (eVar 0) []) (STN f g rows x2 x3 x4 x5) = some (.nx, STN f g rows x2 (some (.nd (.lst .own) (L.map .str))) x4 x5) := by
    rcases hf with rfl | rfl <;> simp (decide := true) [e1]
  have hp : isiD (nbTy "list") (fun _ => none) (.nd (.lst .tmp) (L.map D.str)) = some true := rfl
  have e4 : sMut 3 pHere mApp (eL [eC (.str "more")]) (STN f g rows x2 (some (.nd (.lst .own) (L.map .str))) x4 x5) = some (.nx, STN f g rows x2 (some (.nd (.lst .own) (L.map .str ++ [.str "more"]))) x4 x5) := by
    have hz : L.length < sizeLine := hl
    simp (decide := true) [sMut, placeOf, Kd.isOwn, Kd.fl, mApp, putAt, hz]
  obtain ⟨z4, z5, e5⟩ := st_names hf hg ok (x2 := x2) (x3 := some (.nd (.lst .own) (L.map .str ++ [.str "more"]))) (x4 := x4) (x5 := x5)
  refine ⟨some (.nd (.lst .own) (L.map .str ++ [.str "more"])), z4, z5, ?_⟩
  unfold lb__law_stands_2
  rw [sSeq_nx e3]
  rw [sSeq_nx (ρ1 := STN f g rows x2 (some (.nd (.lst .own) (L.map .str))) x4 x5) (by rcases hg with rfl | rfl <;> simp (decide := true) [hp, e2, q])]
  rw [sSeq_nx e4]
  exact e5
theorem stands_eq : m__law_stands [dn f rows, kD g rows] = .ok (.bl true) := by
  have ei : itR1 [eC (.int 2)] (STN f g rows none none none none) = .ok (rngD 0 2, true) := rfl
  obtain ⟨ρ', e, z2, z3, z4, z5, hρ⟩ := sFor_ok (tg := tgName 2) (b := lb__law_stands_2) ei (fun j ρ => ∃ z2 z3 z4 z5, ρ = STN f g rows z2 z3 z4 z5) ⟨_, _, _, _, rfl⟩ (fun j d ρ hd ⟨z2, z3, z4, z5, hρ⟩ => by
    subst hρ
    obtain ⟨y3, y4, y5, e⟩ := st_round hf hg ok (x2 := some d) (x3 := z3) (x4 := z4) (x5 := z5)
    exact ⟨_, _, rfl, e, _, _, _, _, rfl⟩)
  subst hρ
  have e : lp__law_stands_2 (STN f g rows none none none none) = some (.nx, STN f g rows z2 z3 z4 z5) := e
  unfold m__law_stands
  rw [bodyM_eq]
  unfold g__law_stands
  have i0 : initE 6 [dn f rows, kD g rows] = STN f g rows none none none none := rfl
  rw [i0, sSeq_nx e]
  rfl
end
end OB

namespace OB
open PySem PySem.Spec PyProof.Rows L2 PySem.NumText PySem.StrLaws Builtin.Str
/-- plain data, flat enough for == -/
def Sh (d : D) : Prop := ∀ g : Fl → Fl, ∃ p, toPy (mapF g d) = some p ∧ PyData.canLay0 p = true ∧ PyData.depth p ≤ 1 ∧ PyData.eqv p p = true
theorem Sh.map {d : D} (k : Fl → Fl) (h : Sh d) : Sh (mapF k d) := fun g => by
  have e : ∀ d : D, toPy (mapF g (mapF k d)) = toPy (mapF k d) := by
    intro d
    have key : ∀ (n : Nat) (d : D), sizeOf d < n → toPy (mapF g d) = toPy d := by
      intro n
      induction n with
      | zero => exact fun _ h => absurd h (Nat.not_lt_zero _)
      | succ n ih =>
        intro d hd
        cases d with
        | nd kk ds =>
          have hL : ∀ es : List D, (∀ e ∈ es, toPy (mapF g e) = toPy e) → toPyL (es.map (mapF g)) = toPyL es := by
            intro es
            induction es with
            | nil => exact fun _ => rfl
            | cons e es ih2 =>
              intro he
              rw [List.map_cons, toPyL, toPyL, he e List.mem_cons_self, ih2 fun x hx => he x (List.mem_cons_of_mem _ hx)]
          have hh := hL ds fun e he => ih e (by
            have := List.sizeOf_lt_of_mem he
            simp at hd
            omega)
          rw [mapF, mapFL_eq]
          cases kk with
          | tup => show (toPyL (ds.map (mapF g))).map _ = (toPyL ds).map _; rw [hh]
          | lst f => show (toPyL (ds.map (mapF g))).map _ = (toPyL ds).map _; rw [hh]
          | _ => rfl
        | _ => rfl
    exact key _ _ (Nat.lt_succ_self _)
  rw [e]
  exact h k
theorem sh_strs {L : List D} (h : ∀ d ∈ L, Sh d) : ∃ ps, toPyL L = some ps ∧ PyData.canLayAll0 ps = true ∧ PyData.depthAll ps ≤ 1 ∧ PyData.eqvAll ps ps = true ∧ ps.length = L.length := by
  have mid : ∀ d : D, mapF id d = d := by
    intro d
    have key : ∀ (n : Nat) (d : D), sizeOf d < n → mapF id d = d := by
      intro n
      induction n with
      | zero => exact fun _ h => absurd h (Nat.not_lt_zero _)
      | succ n ih =>
        intro d hd
        cases d with
        | nd kk ds =>
          rw [mapF, mapFL_eq]
          have hh : ds.map (mapF id) = ds := by
            rw [show ds = ds.map id from (List.map_id ds).symm]
            rw [List.map_map]
            apply List.map_congr_left
            intro e he
            have he : e ∈ ds := by simpa using he
            exact ih e (by
              have := List.sizeOf_lt_of_mem he
              simp at hd
              omega)
          rw [hh]
          cases kk <;> rfl
        | _ => rfl
    exact key _ _ (Nat.lt_succ_self _)
  induction L with
  | nil => exact ⟨[], rfl, rfl, Nat.zero_le _, by simp [PyData.eqvAll], rfl⟩
  | cons d L ih =>
    obtain ⟨ps, e1, e2, e3, e5, e4⟩ := ih fun x hx => h x (List.mem_cons_of_mem _ hx)
    obtain ⟨p, f1, f2, f3, f4⟩ := h d List.mem_cons_self id
    rw [mid] at f1
    refine ⟨p :: ps, by rw [toPyL, f1, e1]; rfl, by rw [PyData.canLayAll0, f2, e2]; rfl, by rw [PyData.depthAll]; omega, by rw [PyData.eqvAll, f4, e5]; rfl, by rw [List.length_cons, List.length_cons, e4]⟩
theorem pNe_odd {f g : Fl} {L : List D} (h : ∀ d ∈ L, Sh d) : pNe [.nd (.lst f) L, .nd (.lst g) []] = some (.bl (!L.isEmpty)) := by
  obtain ⟨ps, e1, e2, e3, _, e4⟩ := sh_strs h
  unfold pNe
  simp only [atEq, Option.none_or]
  have : deepEq (.nd (.lst f) L) (.nd (.lst g) []) = some L.isEmpty := by
    unfold deepEq
    rw [toPy, toPy, e1]
    have hs : SeqAt.shaped (.list ps) = true := by
      unfold SeqAt.shaped
      rw [PyData.canLay0, e2, PyData.depth, Bool.true_and]
      exact decide_eq_true (by omega)
    have hs2 : SeqAt.shaped (.list []) = true := by decide +kernel
    simp only [Option.map_some, Option.bind_some, toPyL, hs, hs2, Bool.and_self, if_true, PyData.eqv]
    cases ps with
    | nil =>
      cases L with
      | nil => simp [PyData.eqvAll]
      | cons a L => cases e4
    | cons p ps =>
      cases L with
      | nil => cases e4
      | cons a L => simp [PyData.eqvAll]
  rw [this]
  rfl
theorem sh_str {s : Str} (h : OkS s 13) : Sh (.str s) := fun g => ⟨.str s, rfl, h.str, Nat.zero_le _, by simp [PyData.eqv]⟩
theorem deep_same {L : List D} (h : ∀ d ∈ L, Sh d) (f g : Fl) : deepEq (.nd (.lst f) L) (.nd (.lst g) L) = some true ∧ deepEq (.nd .tup L) (.nd .tup L) = some true := by
  obtain ⟨ps, e1, e2, e3, e5, _⟩ := sh_strs h
  have hs : SeqAt.shaped (.list ps) = true := by
    unfold SeqAt.shaped
    rw [PyData.canLay0, e2, PyData.depth, Bool.true_and]
    exact decide_eq_true (by omega)
  have hs2 : SeqAt.shaped (.tuple ps) = true := by
    unfold SeqAt.shaped
    rw [PyData.canLay0, e2, PyData.depth, Bool.true_and]
    exact decide_eq_true (by omega)
  constructor
  · unfold deepEq
    rw [toPy, toPy, e1]
    simp only [Option.map_some, Option.bind_some, hs, Bool.and_self, if_true, PyData.eqv, e5]
  · unfold deepEq
    rw [toPy, e1]
    simp only [Option.map_some, Option.bind_some, hs2, Bool.and_self, if_true, PyData.eqv, e5]
theorem pNe2_lst {f g : Fl} {L : List D} (h : ∀ d ∈ L, Sh d) : pNe2 [.nd (.lst f) L, .nd (.lst g) L] = some (.bl false) := by
  simp only [pNe2, atEq, Option.none_or, (deep_same h f g).1]
  rfl
theorem pNe2_tup {L : List D} (h : ∀ d ∈ L, Sh d) : pNe2 [.nd .tup L, .nd .tup L] = some (.bl false) := by
  simp only [pNe2, atEq, Option.none_or, (deep_same h .own .own).2]
  rfl
end OB

namespace OB
open PySem PySem.Spec PyProof.Rows L2 PySem.NumText PySem.StrLaws Builtin.Str
def Fz (d : D) : Prop := ∀ g : Fl → Fl, g .frz = .frz → mapF g d = d
/-- what is handed on for a thing: a list of its own, or the thing -/
def hnd : D → D
  | .nd (.lst _) ds => .nd (.lst .bor) ds
  | d => d
theorem hnd_odd {d : D} (h : NL d) : hnd d = d := by
  cases d with
  | nd k ds => cases k with
    | lst f => exact absurd h (by unfold NL; simp [isiD, tyN, nbTy])
    | _ => rfl
  | _ => rfl
inductive Av : D → Prop
  | odd {d : D} (h : NL d) (z : Fz d) (n : noT d = true) (q : noB d = true) (e : pNe2 [d, d] = some (.bl false)) : Av d
  | lst {ds : List D} (h1 : ∀ d ∈ ds, El d) (h2 : ∀ d ∈ ds, Sh d) (h3 : ∀ d ∈ ds, Fz d) (hl : ds.length ≤ 20) (n : ds.all noT = true) (q : ds.all noB = true) : Av (.nd (.lst .frz) ds)
theorem mapF_fz {g : Fl → Fl} {ds : List D} (hg : g .frz = .frz) (h : ∀ d ∈ ds, Fz d) : ds.map (mapF g) = ds := by
  rw [show ds = ds.map id from (List.map_id ds).symm, List.map_map]
  apply List.map_congr_left
  intro d hd
  exact h d (by simpa using hd) g hg
theorem fz_lst {ds : List D} (h : ∀ d ∈ ds, Fz d) : Fz (.nd (.lst .frz) ds) := fun g hg => by rw [mapF_lst, hg, mapF_fz hg h]
theorem all_nm {ds : List D} (h : ds.all nmQ = true) : ∃ l : List Str, ds = l.map D.str ∧ ∀ s ∈ l, Nm s := by
  induction ds with
  | nil => exact ⟨[], rfl, fun _ h => nomatch h⟩
  | cons d ds ih =>
    rw [List.all_cons, Bool.and_eq_true] at h
    obtain ⟨l, rfl, hl⟩ := ih h.2
    obtain ⟨s, rfl, hs⟩ := nmQ_nm h.1
    exact ⟨s :: l, rfl, fun x hx => by
      rcases List.mem_cons.mp hx with e | e
      · rw [e]; exact hs
      · exact hl x e⟩
theorem strsD_map (l : List Str) : strsD (l.map D.str) = some l := by
  induction l with
  | nil => rfl
  | cons y ys ih => rw [List.map_cons, strsD, ih]; rfl
theorem lenSet_strs {f : Fl} {l : List Str} (h : l.length ≤ 1000) : pLenSet [.nd (.lst f) (l.map D.str)] = some (.int ((l.foldl stepS []).length : Nat)) := by
  show (strsD (l.map D.str)).bind (fun ys => if ys.length + 1 < 4096 then some (D.int ((ys.foldl stepS []).length : Nat)) else none) = _
  rw [strsD_map, Option.bind_some, if_pos (by omega)]
abbrev P3 (rows : List Rw) (nm av : D) : En := [some (dn .own rows), some nm, some av]
section
variable {rows : List Rw} {nm av : D}
theorem p1f (hn : El nm) (z : Fz nm) (h : nmQ nm = false) : st_Diners_put_diner_1 (P3 rows nm av) = some (.ex ⟨"BadName", none⟩, P3 rows nm av) := by
  have e := is_name_el hn
  rw [h] at e
  unfold st_Diners_put_diner_1
  simp [z Fl.toTmp rfl, z Fl.toArg rfl, e]
theorem p1t (hn : El nm) (z : Fz nm) (h : nmQ nm = true) : st_Diners_put_diner_1 (P3 rows nm av) = some (.nx, P3 rows nm av) := by
  have e := is_name_el hn
  rw [h] at e
  unfold st_Diners_put_diner_1
  simp [z Fl.toTmp rfl, z Fl.toArg rfl, e]
theorem p2f {s : Str} (h : s ∈ rows.map (·.1)) : st_Diners_put_diner_2 (P3 rows (.str s) av) = some (.ex ⟨"Twice", none⟩, P3 rows (.str s) av) := by
  have e : ∀ f, pIn [.str s, kD f rows] = some (.bl true) := fun f => by rw [in_kD, decide_eq_true h]
  unfold st_Diners_put_diner_2
  simp [-in_kD, e]
theorem p2t {s : Str} (h : s ∉ rows.map (·.1)) : st_Diners_put_diner_2 (P3 rows (.str s) av) = some (.nx, P3 rows (.str s) av) := by
  have e : ∀ f, pIn [.str s, kD f rows] = some (.bl false) := fun f => by rw [in_kD, decide_eq_false h]
  unfold st_Diners_put_diner_2
  simp [-in_kD, e]
theorem p3f (h : rows.length = 6) : st_Diners_put_diner_3 (P3 rows nm av) = some (.ex ⟨"TooMany", none⟩, P3 rows nm av) := by
  unfold st_Diners_put_diner_3
  simp [h]
theorem p3t (h : ¬ rows.length = 6) : st_Diners_put_diner_3 (P3 rows nm av) = some (.nx, P3 rows nm av) := by
  have h : ¬ ((rows.length : Int) = 6) := by omega
  unfold st_Diners_put_diner_3
  simp [h]
theorem p4o (h : NL av) (z : Fz av) : st_Diners_put_diner_4 (P3 rows nm av) = some (.ex ⟨"BadName", none⟩, P3 rows nm av) := by
  have e := are_names_odd h
  unfold st_Diners_put_diner_4
  simp [z Fl.toTmp rfl, z Fl.toArg rfl, e]
theorem p4 {ds : List D} (h : ∀ d ∈ ds, El d) (z : ∀ d ∈ ds, Fz d) (hl : ds.length ≤ 20) : st_Diners_put_diner_4 (P3 rows nm (.nd (.lst .bor) ds)) = if ds.all nmQ then some (.nx, P3 rows nm (.nd (.lst .bor) ds)) else some (.ex ⟨"BadName", none⟩, P3 rows nm (.nd (.lst .bor) ds)) := by
  have e := are_names_lst (f := .bor) h (by omega)
  have m1 := mapF_fz (g := Fl.toTmp) rfl z
  have m2 := mapF_fz (g := Fl.toArg) rfl z
  unfold st_Diners_put_diner_4
  generalize ds.all nmQ = b at e
  cases b <;> simp [m1, m2, e]
theorem p5 {l : List Str} (hl : l.length ≤ 20) : st_Diners_put_diner_5 (P3 rows nm (.nd (.lst .bor) (l.map .str))) = if (l.foldl stepS []).length < l.length then some (.ex ⟨"Twice", none⟩, P3 rows nm (.nd (.lst .bor) (l.map .str))) else some (.nx, P3 rows nm (.nd (.lst .bor) (l.map .str))) := by
  have e := fun f => lenSet_strs (f := f) (l := l) (by omega)
  unfold st_Diners_put_diner_5
  generalize (l.foldl stepS []).length = k at e
  by_cases h : k < l.length
  · simp [e, h]
  · simp [e, h]
theorem p6 {l : List Str} : st_Diners_put_diner_6 (P3 rows nm (.nd (.lst .bor) (l.map .str))) = if 6 < l.length then some (.ex ⟨"TooMany", none⟩, P3 rows nm (.nd (.lst .bor) (l.map .str))) else some (.nx, P3 rows nm (.nd (.lst .bor) (l.map .str))) := by
  unfold st_Diners_put_diner_6
  by_cases h : 6 < l.length
  · have : (6 : Int) < l.length := by omega
    simp [h, this]
  · have : ¬ (6 : Int) < l.length := by omega
    simp [h, this]
theorem p7 {s : Str} {l : List Str} (h : s ∉ rows.map (·.1)) (hl : rows.length ≤ 6) : st_Diners_put_diner_7 (P3 rows (.str s) (.nd (.lst .bor) (l.map .str))) = some (.nx, P3 (rows ++ [(s, l, true)]) (.str s) (.nd (.lst .bor) (l.map .str))) := by
  have fn : (keyR rows).findIdx? (fun q => decide (q = (.inr s : Key))) = none := by
    rw [List.findIdx?_eq_none_iff]
    intro k hk
    obtain ⟨p, hp, rfl⟩ := List.mem_map.mp hk
    have : ¬ p.1 = s := fun e => h (List.mem_map.mpr ⟨p, hp, e⟩)
    simpa using this
  have hk : (keyR rows).length < sizeLine := by
    unfold keyR
    rw [List.length_map]
    exact Nat.lt_of_le_of_lt hl (by decide)
  have pd : putD2 (.dct .own (keyR rows)) (valR .own rows) (.str s) (.nd (.lst .own) (l.map .str)) = some (.dct .own (keyR rows ++ [.inr s]), valR .own rows ++ [.nd (.lst .own) (l.map .str)]) := by
    unfold putD2
    show (some (Sum.inr s : Key)).bind _ = _
    rw [Option.bind_some, fn]
    dsimp only
    rw [if_pos hk]
  have hp : pList3 [.nd (.lst .bor) (l.map D.str)] = some (.nd (.lst .own) (l.map .str)) := rfl
  unfold st_Diners_put_diner_7
  have sd : subD (P3 rows (.str s) (.nd (.lst .bor) (l.map .str))) 0 (πFld 0 pHere ["Diners"] "known") = some (dn .own rows, [0], kD .own rows) := rfl
  have pg : putP (dn .own rows) [0] (.nd (.dct .own (keyR rows ++ [.inr s])) (valR .own rows ++ [.nd (.lst .own) (l.map .str)])) = dn .own (rows ++ [(s, l, true)]) := by
    show D.nd (.obj .own "Diners" ["known"]) [.nd (.dct .own (keyR rows ++ [.inr s])) (valR .own rows ++ [.nd (.lst .own) (l.map .str)])] = _
    unfold dn kD keyR valR
    simp [fi]
  rw [sPut2_eq, sd]
  unfold kD
  simp (decide := true) [-subD_row, Kd.isOwn, Kd.fl, pd, pg, hp]
end
end OB

namespace OB
open PySem PySem.Spec PyProof.Rows L2 PySem.NumText PySem.StrLaws Builtin.Str
theorem sSeq_ex {a b : Mst} {ρ ρ1 : En} {x : XD} (e : a ρ = some (.ex x, ρ1)) : sSeq a b ρ = some (.ex x, ρ1) := by unfold sSeq; rw [e]
abbrev D4 (g : Fl) (rows : List Rw) (nm av : D) : En := [some (kD g rows), some nm, some av, none]
section
variable {rows : List Rw} {nm av : D} {g : Fl} (hg : g = .bor ∨ g = .frz)
theorem d1 (hn : El nm) (z : Fz nm) : st__law_due_1 (D4 g rows nm av) = if nmQ nm then some (.nx, D4 g rows nm av) else some (.ret (.str "name"), D4 g rows nm av) := by
  have e := law_is_name_el hn
  unfold st__law_due_1
  generalize nmQ nm = b at e
  cases b <;> simp [z Fl.toTmp rfl, z Fl.toArg rfl, e]
theorem d2f {s : Str} (h : s ∈ rows.map (·.1)) : st__law_due_2 (D4 g rows (.str s) av) = some (.ret (.str "twice"), D4 g rows (.str s) av) := by
  have e : ∀ f, pIn [.str s, kD f rows] = some (.bl true) := fun f => by rw [in_kD, decide_eq_true h]
  unfold st__law_due_2
  simp [-in_kD, e]
theorem d2t {s : Str} (h : s ∉ rows.map (·.1)) : st__law_due_2 (D4 g rows (.str s) av) = some (.nx, D4 g rows (.str s) av) := by
  have e : ∀ f, pIn [.str s, kD f rows] = some (.bl false) := fun f => by rw [in_kD, decide_eq_false h]
  unfold st__law_due_2
  simp [-in_kD, e]
theorem d3f (h : rows.length = 6) : st__law_due_3 (D4 g rows nm av) = some (.ret (.str "many"), D4 g rows nm av) := by
  unfold st__law_due_3
  simp [h]
theorem d3t (h : ¬ rows.length = 6) : st__law_due_3 (D4 g rows nm av) = some (.nx, D4 g rows nm av) := by
  have h : ¬ ((rows.length : Int) = 6) := by omega
  unfold st__law_due_3
  simp [h]
theorem d4o (h : NL av) (z : Fz av) : st__law_due_4 (D4 g rows nm av) = some (.ret (.str "name"), D4 g rows nm av) := by
  unfold NL at h
  unfold st__law_due_4
  simp [z Fl.toTmp rfl, h]
theorem dcp {ds : List D} (h : ∀ d ∈ ds, El d) (z : ∀ d ∈ ds, Fz d) (hl : ds.length ≤ 20) : cp__law_due_1 (D4 g rows nm (.nd (.lst .frz) ds)) = .ok (.nd (.lst .own) (ds.filter fun d => !nmQ d)) := by
  have m1 := mapF_fz (g := Fl.toTmp) rfl z
  have m2 := mapF_fz (g := Fl.toFrz) rfl z
  have m2' : ds.map toFrz = ds := m2
  have ei : ∃ q, itV (eVar 2) (D4 g rows nm (.nd (.lst .frz) ds)) = .ok (ds, q) := by
    refine ⟨(Fl.toTmp .frz != .tmp) && ds.all noT, ?_⟩
    unfold itV
    simp [itemsD, m1, m2']
  obtain ⟨q, ei⟩ := ei
  have e := compL_filter (tg := tgName 3) (c := cc__law_due_1) (f := eVar 3) (ρ := wipeE (D4 g rows nm (.nd (.lst .frz) ds)) [3]) (fun d => !nmQ d) id ds fun d hd => by
    have en := law_is_name_el (h d hd)
    have z1 := z d hd Fl.toTmp rfl
    have z2 := z d hd Fl.toArg rfl
    refine ⟨_, rfl, ?_, fun _ => ?_⟩
    · unfold cc__law_due_1
      simp [z1, z2, en]
    · simp [z1]
  unfold cp__law_due_1
  refine eComp_ok ei (e.trans ?_) (Nat.le_trans (List.length_filter_le _ _) (Nat.le_trans hl (by decide)))
  rw [List.map_id]
theorem d4 {ds : List D} (h : ∀ d ∈ ds, El d) (h2 : ∀ d ∈ ds, Sh d) (z : ∀ d ∈ ds, Fz d) (hl : ds.length ≤ 20) : st__law_due_4 (D4 g rows nm (.nd (.lst .frz) ds)) = if ds.all nmQ then some (.nx, D4 g rows nm (.nd (.lst .frz) ds)) else some (.ret (.str "name"), D4 g rows nm (.nd (.lst .frz) ds)) := by
  have e := dcp (g := g) (rows := rows) (nm := nm) h z hl
  have q := fun f k => pNe_odd (f := f) (g := k) (L := ds.filter fun d => !nmQ d) fun d hd => h2 d (List.mem_filter.mp hd).1
  have m1 := mapF_fz (g := Fl.toTmp) rfl z
  have hp : isiD (nbTy "list") (fun _ => none) (.nd (.lst .frz) ds) = some true := rfl
  have hb : (ds.filter fun d => !nmQ d).isEmpty = ds.all nmQ := by
    clear e q h h2 z hl m1 hp
    induction ds with
    | nil => rfl
    | cons d ds ih =>
      rw [List.all_cons, List.filter_cons]
      cases nmQ d with
      | true => simpa using ih
      | false => rfl
  simp only [hb] at q
  generalize (ds.filter fun d => !nmQ d) = L at e q hb
  generalize ds.all nmQ = b at q hb
  unfold st__law_due_4
  cases b <;> simp [m1, hp, e, q]
theorem d5 {l : List Str} (hl : l.length ≤ 20) : st__law_due_5 (D4 g rows nm (.nd (.lst .frz) (l.map .str))) = if (l.foldl stepS []).length < l.length then some (.ret (.str "twice"), D4 g rows nm (.nd (.lst .frz) (l.map .str))) else some (.nx, D4 g rows nm (.nd (.lst .frz) (l.map .str))) := by
  have e := fun f => lenSet_strs (f := f) (l := l) (by omega)
  unfold st__law_due_5
  generalize (l.foldl stepS []).length = k at e
  by_cases h : k < l.length
  · simp [e, h]
  · simp [e, h]
theorem d6 {l : List Str} : st__law_due_6 (D4 g rows nm (.nd (.lst .frz) (l.map .str))) = if 6 < l.length then some (.ret (.str "many"), frzE (D4 g rows nm (.nd (.lst .frz) (l.map .str)))) else some (.ret (.str ""), frzE (D4 g rows nm (.nd (.lst .frz) (l.map .str)))) := by
  unfold st__law_due_6
  by_cases h : 6 < l.length
  · have : (6 : Int) < l.length := by omega
    simp [h, this]
  · have : ¬ (6 : Int) < l.length := by omega
    simp [h, this]
end
/-- the verdict -/
inductive Vd (rows : List Rw) (nm av : D) : Str → Prop
  | good {s : Str} {l : List Str} (e : nm = .str s) (hs : Nm s) (hn : s ∉ rows.map (·.1)) (hr : rows.length < 6) (ea : av = .nd (.lst .frz) (l.map .str)) (hl : ∀ x ∈ l, Nm x) (h6 : l.length ≤ 6)
    (p : m_Diners_put_diner [dn .own rows, nm, hnd av] = some (.ok .non, [dn .own (rows ++ [(s, l, true)])])) : Vd rows nm av ""
  | bad {w c : Str} (hw : ¬ w = "") (hc : m__law_word [.nd (.exc .frz c []) []] = .ok (.str w)) (hx : xb_m_LarderError c = some true) (p : m_Diners_put_diner [dn .own rows, nm, hnd av] = some (.ex ⟨c, none⟩, [dn .own rows])) : Vd rows nm av w
theorem vd_eq {rows : List Rw} {nm av : D} {g : Fl} (hr : rows.length ≤ 6) (hn : El nm) (zn : Fz nm) (ha : Av av) : ∃ w, m__law_due [kD g rows, nm, av] = .ok (.str w) ∧ Vd rows nm av w := by
  have due : ∀ {w : Str}, (g__law_due (D4 g rows nm av)).map (·.1) = some (.ret (.str w)) → m__law_due [kD g rows, nm, av] = .ok (.str w) := fun {w} h => by
    have i0 : initE 4 [kD g rows, nm, av] = D4 g rows nm av := rfl
    unfold m__law_due
    rw [bodyM_eq, i0]
    cases e : g__law_due (D4 g rows nm av) with
    | none => rw [e] at h; cases h
    | some p =>
      obtain ⟨o, ρ⟩ := p
      rw [e] at h
      cases h
      rfl
  have put : ∀ {c : Str} {a : D}, g_Diners_put_diner (P3 rows nm a) = some (.ex ⟨c, none⟩, P3 rows nm a) → m_Diners_put_diner [dn .own rows, nm, a] = some (.ex ⟨c, none⟩, [dn .own rows]) := fun {c a} h => by
    have i0 : initE 3 [dn .own rows, nm, a] = P3 rows nm a := rfl
    unfold m_Diners_put_diner
    rw [bodyMM_eq, i0, h]
    rfl
  have hd1 := d1 (g := g) (rows := rows) (av := av) hn zn
  cases hq : nmQ nm with
  | false =>
    rw [hq] at hd1
    refine ⟨"name", due ?_, .bad (by decide) word_name xb_bn (put ?_)⟩
    · unfold g__law_due; rw [sSeq_ret hd1]; rfl
    · unfold g_Diners_put_diner; rw [sSeq_ex (p1f hn zn hq)]
  | true =>
    rw [hq] at hd1
    have hd1 : st__law_due_1 (D4 g rows nm av) = some (.nx, D4 g rows nm av) := hd1
    have hp1 := fun a => p1t (rows := rows) (av := a) hn zn hq
    obtain ⟨s, rfl, hs⟩ := nmQ_nm hq
    by_cases h2 : s ∈ rows.map (·.1)
    · refine ⟨"twice", due ?_, .bad (by decide) word_twice xb_tw (put ?_)⟩
      · unfold g__law_due; rw [sSeq_nx hd1, sSeq_ret (d2f h2)]; rfl
      · unfold g_Diners_put_diner; rw [sSeq_nx (hp1 _), sSeq_ex (p2f h2)]
    by_cases h3 : rows.length = 6
    · refine ⟨"many", due ?_, .bad (by decide) word_many xb_tm (put ?_)⟩
      · unfold g__law_due; rw [sSeq_nx hd1, sSeq_nx (d2t h2), sSeq_ret (d3f h3)]; rfl
      · unfold g_Diners_put_diner; rw [sSeq_nx (hp1 _), sSeq_nx (p2t h2), sSeq_ex (p3f h3)]
    cases ha with
    | odd hv z n q e =>
      refine ⟨"name", due ?_, .bad (by decide) word_name xb_bn (put ?_)⟩
      · unfold g__law_due; rw [sSeq_nx hd1, sSeq_nx (d2t h2), sSeq_nx (d3t h3), sSeq_ret (d4o hv z)]; rfl
      · rw [hnd_odd hv]; unfold g_Diners_put_diner; rw [sSeq_nx (hp1 _), sSeq_nx (p2t h2), sSeq_nx (p3t h3), sSeq_ex (p4o hv z)]
    | @lst ds a1 a2 a3 hl n q =>
      have e4 := d4 (g := g) (rows := rows) (nm := .str s) a1 a2 a3 hl
      have e5 := p4 (rows := rows) (nm := .str s) a1 a3 hl
      cases hb : ds.all nmQ with
      | false =>
        rw [hb] at e4 e5
        refine ⟨"name", due ?_, .bad (by decide) word_name xb_bn (put ?_)⟩
        · unfold g__law_due; rw [sSeq_nx hd1, sSeq_nx (d2t h2), sSeq_nx (d3t h3), sSeq_ret e4]; rfl
        · show g_Diners_put_diner (P3 rows (.str s) (.nd (.lst .bor) ds)) = _
          unfold g_Diners_put_diner; rw [sSeq_nx (hp1 _), sSeq_nx (p2t h2), sSeq_nx (p3t h3), sSeq_ex e5]; rfl
      | true =>
        rw [hb] at e4 e5
        obtain ⟨l, rfl, hln⟩ := all_nm hb
        rw [List.length_map] at hl
        have e6 := d5 (g := g) (rows := rows) (nm := .str s) hl
        have e7 := p5 (rows := rows) (nm := .str s) hl
        by_cases h5 : (l.foldl stepS []).length < l.length
        · rw [if_pos h5] at e6 e7
          refine ⟨"twice", due ?_, .bad (by decide) word_twice xb_tw (put ?_)⟩
          · unfold g__law_due; rw [sSeq_nx hd1, sSeq_nx (d2t h2), sSeq_nx (d3t h3), sSeq_nx e4, sSeq_ret e6]; rfl
          · show g_Diners_put_diner (P3 rows (.str s) (.nd (.lst .bor) (l.map .str))) = _
            unfold g_Diners_put_diner; rw [sSeq_nx (hp1 _), sSeq_nx (p2t h2), sSeq_nx (p3t h3), sSeq_nx e5, sSeq_ex e7]; rfl
        · rw [if_neg h5] at e6 e7
          have e8 := d6 (g := g) (rows := rows) (nm := .str s) (l := l)
          have e9 := p6 (rows := rows) (nm := .str s) (l := l)
          by_cases h6 : 6 < l.length
          · rw [if_pos h6] at e8 e9
            refine ⟨"many", due ?_, .bad (by decide) word_many xb_tm (put ?_)⟩
            · unfold g__law_due; rw [sSeq_nx hd1, sSeq_nx (d2t h2), sSeq_nx (d3t h3), sSeq_nx e4, sSeq_nx e6, e8]; rfl
            · show g_Diners_put_diner (P3 rows (.str s) (.nd (.lst .bor) (l.map .str))) = _
              unfold g_Diners_put_diner; rw [sSeq_nx (hp1 _), sSeq_nx (p2t h2), sSeq_nx (p3t h3), sSeq_nx e5, sSeq_nx e7, sSeq_ex e9]; rfl
          · rw [if_neg h6] at e8 e9
            refine ⟨"", due ?_, .good rfl hs h2 (by omega) rfl hln (by omega) ?_⟩
            · unfold g__law_due; rw [sSeq_nx hd1, sSeq_nx (d2t h2), sSeq_nx (d3t h3), sSeq_nx e4, sSeq_nx e6, e8]; rfl
            · have : g_Diners_put_diner (P3 rows (.str s) (.nd (.lst .bor) (l.map .str))) = some (.nx, P3 (rows ++ [(s, l, true)]) (.str s) (.nd (.lst .bor) (l.map .str))) := by
                unfold g_Diners_put_diner; rw [sSeq_nx (hp1 _), sSeq_nx (p2t h2), sSeq_nx (p3t h3), sSeq_nx e5, sSeq_nx e7, sSeq_nx e9, p7 h2 hr]
              have i0 : initE 3 [dn .own rows, .str s, hnd (.nd (.lst .frz) (l.map D.str))] = P3 rows (.str s) (.nd (.lst .bor) (l.map .str)) := rfl
              unfold m_Diners_put_diner
              rw [bodyMM_eq, i0, this]
              rfl
end OB

namespace OB
open PySem PySem.Spec PyProof.Rows L2 PySem.NumText PySem.StrLaws Builtin.Str
theorem cut_strs (l : List Str) (lo hi : Option Int) : ∃ m : List Str, cutD (l.map D.str) lo hi = m.map D.str ∧ (∀ x ∈ m, x ∈ l) ∧ m.length ≤ l.length := by
  unfold cutD
  generalize HT.sIx (l.map D.str).length 0 lo = a
  generalize HT.sIx (l.map D.str).length (l.map D.str).length hi - a = b
  refine ⟨(l.drop a).take b, by rw [← List.map_drop, ← List.map_take], fun x hx => List.mem_of_mem_drop (List.mem_of_mem_take hx), ?_⟩
  rw [List.length_take, List.length_drop]
  omega
theorem okS_lit (s : String) (h : s.length ≤ 13 := by decide) : OkS (Str.ofString s) 13 := (lit_ok s).mono h
/-- name things -/
structure Nk (d : D) : Prop where
  el : El d
  fz : Fz d
  nt : noT d = true
  nb : noB d = true
theorem nk_str {s : Str} (h : OkS s 13) : Nk (.str s) := ⟨.s h, fun _ _ => rfl, rfl, rfl⟩
theorem name_eq {n : Int} {f : Fl} {names : List Str} (h0 : 0 ≤ n) (h1 : n < 2147483629) (hf : f = .bor ∨ f = .frz) (p : Pool names) : ∃ d, m__law_name [.int n, .nd (.lst f) (names.map D.str)] = .ok d ∧ Nk d ∧ ∀ s, d = .str s → Nm s → s.length ≤ 9 := by
  have nos : ∀ {d : D}, NS d → ∀ s, d = .str s → Nm s → s.length ≤ 9 := fun {d} h s e _ => by subst e; exact absurd h (by unfold NS; simp [isiD, tyN, nbTy])
  have lit : ∀ (z : Str), z.length ≤ 9 → ∀ s, D.str z = .str s → Nm s → s.length ≤ 9 := fun z h s e _ => by cases e; exact h
  haveI : Bd n 31 := bd_range (c := 2147483629) (by omega) (by decide)
  obtain ⟨a0, a1⟩ := modr (n / 11) (show (0 : Int) < 10 by decide)
  obtain ⟨b0, b1⟩ := modr (n / 11) (show (0 : Int) < names.length by rw [p.len]; decide)
  obtain ⟨x, hx, ex⟩ := pick_str (f := f) (vs := names) b0 b1
  obtain ⟨d, hd, ed⟩ := at_lst (f := .tmp) (ds := [.non, .str "", .str "A", .int 5, .bl true, .nd (.lst .tmp) [.str "a"], .str "abcdefghijklm", .str "a b", .nd .tup [.str "a"], .nd (.dct .tmp []) []]) a0 (by simpa using a1)
  have hft : f.toTmp = f := by rcases hf with rfl | rfl <;> rfl
  have hl : (names.length : Int) = 9 := by rw [p.len]; rfl
  rw [hl] at ex b0 b1
  by_cases k : n % 11 = 3
  · refine ⟨mapF Fl.tmpFrz d, ?_, ?_⟩
    · unfold m__law_name g__law_name
      simp (decide := true) [k, hft, ed]
    · rcases (by simpa using hd : d = .non ∨ d = .str "" ∨ d = .str "A" ∨ d = .int 5 ∨ d = .bl true ∨ d = .nd (.lst .tmp) [.str "a"] ∨ d = .str "abcdefghijklm" ∨ d = .str "a b" ∨ d = .nd .tup [.str "a"] ∨ d = .nd (.dct .tmp []) []) with rfl | rfl | rfl | rfl | rfl | rfl | rfl | rfl | rfl | rfl
      · exact ⟨⟨.o rfl, fun _ _ => rfl, rfl, rfl⟩, nos rfl⟩
      · exact ⟨nk_str (okS_lit _), lit _ (by decide +kernel)⟩
      · exact ⟨nk_str (okS_lit _), lit _ (by decide +kernel)⟩
      · exact ⟨⟨.o rfl, fun _ _ => rfl, rfl, rfl⟩, nos rfl⟩
      · exact ⟨⟨.o rfl, fun _ _ => rfl, rfl, rfl⟩, nos rfl⟩
      · exact ⟨⟨.o rfl, fun g hg => by simp [hg], by simp, by simp⟩, nos rfl⟩
      · exact ⟨nk_str (okS_lit _), fun s e h => by cases e; exact absurd h.hi (by decide +kernel)⟩
      · exact ⟨nk_str (okS_lit _), lit _ (by decide +kernel)⟩
      · exact ⟨⟨.o rfl, fun g hg => by simp, by simp, by simp⟩, nos rfl⟩
      · exact ⟨⟨.o rfl, fun g hg => by simp [hg], by simp, by simp⟩, nos rfl⟩
  · refine ⟨.str x, ?_, nk_str ((p.nm x hx).ok.mono (by decide)), fun s e _ => by cases e; exact p.sh x hx⟩
    unfold m__law_name g__law_name
    simp (decide := true) [k, hft, hl, ex]
end OB

namespace OB
open PySem PySem.Spec PyProof.Rows L2 PySem.NumText PySem.StrLaws Builtin.Str
/-- one element of a list of avoided ones -/
structure Ek (d : D) : Prop where
  el : El d
  sh : Sh d
  fz : Fz d
  nt : noT d = true
  nb : noB d = true
theorem ek_str {s : Str} (h : OkS s 13) : Ek (.str s) := ⟨.s h, sh_str h, fun _ _ => rfl, rfl, rfl⟩
theorem av_lst {L : List D} (h : ∀ d ∈ L, Ek d) (hl : L.length ≤ 20) : Av (.nd (.lst .frz) L) := .lst (fun d hd => (h d hd).el) (fun d hd => (h d hd).sh) (fun d hd => (h d hd).fz) hl (List.all_eq_true.mpr fun d hd => (h d hd).nt) (List.all_eq_true.mpr fun d hd => (h d hd).nb)
theorem av_nt {d : D} (h : Av d) : noT d = true ∧ noB d = true ∧ Fz d := by
  cases h with
  | odd h z n q e => exact ⟨n, q, z⟩
  | lst h1 h2 h3 hl n q => exact ⟨by rw [noT_lst, n]; rfl, by rw [noB_lst, q]; rfl, fz_lst h3⟩
theorem mstr {g : Fl → Fl} {m : List Str} : (m.map D.str).map (mapF g) = m.map D.str := by rw [List.map_map]; rfl
section
variable {M C : List D} {n a : Int} {N : D}
abbrev AV (k1 k2 : Fl) (M C : List D) : List D := [.non, .int 5, .str "ab", .nd .tup M, .nd (.dct k1 []) [], .bl true, .nd (.lst k1) (M ++ [.str "A"]), .nd (.lst k1) (M ++ [.str ""]), .nd (.lst k1) (M ++ [.int 5]), .nd (.lst k1) (M ++ [.nd (.lst k1) [.str "a"]]), .nd (.lst k1) (M ++ [.non]),
  .nd (.lst k2) (M ++ [.str "abcdefghijklm"]), .nd (.lst k2) (M ++ C), .nd (.lst k2) (M ++ C)]
theorem a3 (hM : ∀ g, M.map (mapF g) = M) (nM : M.all noT = true) (lM : M.length ≤ 18) : st__law_avoids_3 [some (.int n), some N, some (.int a), some (.nd (.lst .own) M), none] = some (.nx, [some (.int n), some N, some (.int a), some (.nd (.lst .own) M), some (.nd (.lst .own) ((AV .own .own M []).take 11))]) := by
  have c := fun (y : D) => cat_lst (f := .tmp) (g := .own) (xs := M) (ys := [y]) (by simp; omega)
  have t : pTupL [.nd (.lst .tmp) M] = some (.nd .tup M) := rfl
  unfold st__law_avoids_3
  simp [hM, nM, c, t]
theorem a4 (hM : ∀ g, M.map (mapF g) = M) (nM : M.all noT = true) (lM : M.length ≤ 18) (hC : cutD M none (some 1) = C) (nC : C.all noT = true) (hC2 : ∀ g, C.map (mapF g) = C) (lC : C.length ≤ 18) : st__law_avoids_4 [some (.int n), some N, some (.int a), some (.nd (.lst .own) M), some (.nd (.lst .own) ((AV .own .own M []).take 11))] = some (.nx, [some (.int n), some N, some (.int a), some (.nd (.lst .own) M), some (.nd (.lst .own) (AV .frz .own M C))]) := by
  have c := fun (f : Fl) (xs ys : List D) (h : xs.length + ys.length ≤ 100) => cat_lst (f := f) (g := .own) (xs := xs) (ys := ys) (by omega)
  have c1 := c .tmp M [.str "abcdefghijklm"] (by simp; omega)
  have c2 := c .tmp M C (by omega)
  have s : pSl (.nd (.lst .tmp) M) none (some 1) = some (.nd (.lst .own) C) := by rw [sl_lst, hC]
  unfold st__law_avoids_4
  simp [hM, nM, hC2, nC, c1, c2, s]
  rw [cat_lst (by simp)]
  simp [nM, nC]
end
end OB

namespace OB
open PySem PySem.Spec PyProof.Rows L2 PySem.NumText PySem.StrLaws Builtin.Str
theorem sh_of {d : D} (p : PyData) (h : ∀ g, toPy (mapF g d) = some p) (h1 : PyData.canLay0 p = true) (h2 : PyData.depth p ≤ 1) (h3 : PyData.eqv p p = true) : Sh d := fun g => ⟨p, h g, h1, h2, h3⟩
theorem ek_non : Ek .non := ⟨.o rfl, sh_of .none (fun _ => rfl) rfl (Nat.zero_le _) (by simp [PyData.eqv]), fun _ _ => rfl, rfl, rfl⟩
theorem ek_five : Ek (.int 5) := ⟨.o rfl, sh_of (.int 5) (fun _ => rfl) rfl (Nat.zero_le _) (by simp [PyData.eqv]), fun _ _ => rfl, rfl, rfl⟩
theorem ek_la : Ek (.nd (.lst .frz) [.str "a"]) := ⟨.o rfl, sh_of (.list [.str "a"]) (fun _ => rfl) (by decide +kernel) (by decide +kernel) (by decide +kernel), fun g hg => by simp [hg], by simp, by simp⟩
theorem law_avoids_eq {n : Int} {f : Fl} {names : List Str} (h0 : 0 ≤ n) (h1 : n < 2147483629) (hf : f = .bor ∨ f = .frz) (p : Pool names) : ∃ d, m__law_avoids [.int n, .nd (.lst f) (names.map D.str)] = .ok d ∧ Av d := by
  haveI : Bd n 31 := bd_range (c := 2147483629) (by omega) (by decide)
  have hft : f.toTmp = f := by rcases hf with rfl | rfl <;> rfl
  obtain ⟨u, eu, su, lu⟩ := cut_strs names (some (n / 16 % 8)) none
  obtain ⟨v, ev, sv, lv⟩ := cut_strs names none (some (n / 16 % 8))
  obtain ⟨m, em, sm, lm⟩ := cut_strs (u ++ v) none (some (n / 128 % 8))
  obtain ⟨c, ec, sc, lc⟩ := cut_strs m none (some 1)
  have pl := p.len
  rw [List.length_append] at lm
  have nmM : ∀ x ∈ m, Nm x := fun x hx => (List.mem_append.mp (sm x hx)).elim (fun h => p.nm x (su x h)) fun h => p.nm x (sv x h)
  have nmC : ∀ x ∈ c, Nm x := fun x hx => nmM x (sc x hx)
  let N : D := .nd (.lst f) (names.map D.str)
  have ek : ∀ {l : List Str}, (∀ x ∈ l, Nm x) → ∀ d ∈ l.map D.str, Ek d := fun {l} h d hd => by
    obtain ⟨s, hs, rfl⟩ := List.mem_map.mp hd
    exact ek_str ((h s hs).ok.mono (by decide))
  have s1 : st__law_avoids_1 [some (.int n), some N, none, none, none] = some (.nx, [some (.int n), some N, some (.int (n / 16 % 8)), none, none]) := by
    unfold st__law_avoids_1
    simp (decide := true)
  have s2 : st__law_avoids_2 [some (.int n), some N, some (.int (n / 16 % 8)), none, none] = some (.nx, [some (.int n), some N, some (.int (n / 16 % 8)), some (.nd (.lst .own) (m.map .str)), none]) := by
    have e1 : pSl (.nd (.lst f) (names.map D.str)) (some (n / 16 % 8)) none = some (.nd (.lst .own) (u.map .str)) := by rw [sl_lst, eu]
    have e2 : pSl (.nd (.lst f) (names.map D.str)) none (some (n / 16 % 8)) = some (.nd (.lst .own) (v.map .str)) := by rw [sl_lst, ev]
    have e3 := cat_lst (f := .own) (g := .own) (xs := u.map D.str) (ys := v.map D.str) (by rw [List.length_map, List.length_map]; omega)
    rw [← List.map_append] at e3
    have e4 : pSl (.nd (.lst .own) ((u ++ v).map D.str)) none (some (n / 128 % 8)) = some (.nd (.lst .own) (m.map .str)) := by rw [sl_lst, em]
    unfold st__law_avoids_2
    simp (decide := true) [-List.map_append, N, hft, mstr, e1, e2, e3, e4]
  have s3 := a3 (M := m.map D.str) (n := n) (N := N) (a := n / 16 % 8) (fun g => mstr) all_noT_str (by rw [List.length_map]; omega)
  have s4 := a4 (M := m.map D.str) (C := c.map D.str) (n := n) (N := N) (a := n / 16 % 8) (fun g => mstr) all_noT_str (by rw [List.length_map]; omega) ec all_noT_str (fun g => mstr) (by rw [List.length_map]; omega)
  have body : ∀ {d : D}, (st__law_avoids_5 [some (.int n), some N, some (.int (n / 16 % 8)), some (.nd (.lst .own) (m.map .str)), some (.nd (.lst .own) (AV .frz .own (m.map .str) (c.map .str)))]).map (·.1) = some (.ret d) → m__law_avoids [.int n, .nd (.lst f) (names.map D.str)] = .ok d := fun {d} h => by
    have i0 : initE 5 [.int n, .nd (.lst f) (names.map D.str)] = [some (.int n), some N, none, none, none] := rfl
    unfold m__law_avoids
    rw [bodyM_eq, i0]
    unfold g__law_avoids
    rw [sSeq_nx s1, sSeq_nx s2, sSeq_nx s3, sSeq_nx s4]
    cases e : st__law_avoids_5 [some (.int n), some N, some (.int (n / 16 % 8)), some (.nd (.lst .own) (m.map .str)), some (.nd (.lst .own) (AV .frz .own (m.map .str) (c.map .str)))] with
    | none => rw [e] at h; cases h
    | some p =>
      obtain ⟨o, ρ⟩ := p
      rw [e] at h
      cases h
      rfl
  by_cases k : n % 4 = 1
  · obtain ⟨b0, b1⟩ := modr (n / 1024) (show (0 : Int) < 14 by decide)
    obtain ⟨d, hd, ed⟩ := at_lst (f := .tmp) (ds := (AV .frz .own (m.map .str) (c.map .str)).map (mapF Fl.toTmp)) b0 (by simpa using b1)
    refine ⟨mapF Fl.tmpFrz d, body ?_, ?_⟩
    · unfold st__law_avoids_5
      have ev : eVar 4 [some (.int n), some N, some (.int (n / 16 % 8)), some (.nd (.lst .own) (m.map .str)), some (.nd (.lst .own) (AV .frz .own (m.map .str) (c.map .str)))] = .ok (.nd (.lst .tmp) ((AV .frz .own (m.map .str) (c.map .str)).map (mapF Fl.toTmp))) := by
        simp
      rw [sRetF_ok (d := d)]
      · rfl
      · simp (decide := true) [k] at ed ⊢
        rw [ed]
        rfl
    · obtain ⟨d0, hd0, rfl⟩ := List.mem_map.mp hd
      have cat : ∀ {x : D}, Ek x → ∀ y ∈ m.map D.str ++ [x], Ek y := fun {x} h y hy => by
        rcases List.mem_append.mp hy with h2 | h2
        · exact ek nmM y h2
        · rw [List.mem_singleton.mp h2]; exact h
      have cat2 : ∀ y ∈ m.map D.str ++ c.map D.str, Ek y := fun y hy => (List.mem_append.mp hy).elim (ek nmM y) (ek nmC y)
      have len1 : ∀ x : D, (m.map D.str ++ [x]).length ≤ 20 := fun x => by rw [List.length_append, List.length_map, List.length_singleton]; omega
      have gg : ∀ {k : Fl} {L : List D}, (k = .frz ∨ k = .own) → (∀ d ∈ L, Ek d) → mapF Fl.tmpFrz (mapF Fl.toTmp (.nd (.lst k) L)) = .nd (.lst .frz) L := fun {k L} hk h => by
        rw [mapF_lst, mapF_lst, mapF_fz rfl fun d hd => (h d hd).fz, mapF_fz rfl fun d hd => (h d hd).fz]
        rcases hk with rfl | rfl <;> rfl
      rcases (by simpa using hd0 : d0 = .non ∨ d0 = .int 5 ∨ d0 = .str "ab" ∨ d0 = .nd .tup (m.map .str) ∨ d0 = .nd (.dct .frz []) [] ∨ d0 = .bl true ∨ d0 = .nd (.lst .frz) (m.map .str ++ [.str "A"]) ∨ d0 = .nd (.lst .frz) (m.map .str ++ [.str ""]) ∨ d0 = .nd (.lst .frz) (m.map .str ++ [.int 5]) ∨ d0 = .nd (.lst .frz) (m.map .str ++ [.nd (.lst .frz) [.str "a"]]) ∨ d0 = .nd (.lst .frz) (m.map .str ++ [.non]) ∨ d0 = .nd (.lst .own) (m.map .str ++ [.str "abcdefghijklm"]) ∨ d0 = .nd (.lst .own) (m.map .str ++ c.map .str)) with rfl | rfl | rfl | rfl | rfl | rfl | rfl | rfl | rfl | rfl | rfl | rfl | rfl
      · exact .odd rfl (fun _ _ => rfl) rfl rfl rfl
      · exact .odd rfl (fun _ _ => rfl) rfl rfl rfl
      · exact .odd rfl (fun _ _ => rfl) rfl rfl (by simp [pNe2, atEq])
      · rw [mapF_tup, mapF_tup, mstr, mstr]
        exact .odd rfl (fun g _ => by rw [mapF_tup, mstr]) (by rw [noT_tup]; exact all_noT_str) (by rw [noB_tup]; exact all_noB_str) (pNe2_tup fun d hd => (ek nmM d hd).sh)
      · exact .odd rfl (fun g hg => by simp [hg]) (by simp) (by simp) rfl
      · exact .odd rfl (fun _ _ => rfl) rfl rfl rfl
      · rw [gg (.inl rfl) (cat (ek_str (okS_lit _)))]; exact av_lst (cat (ek_str (okS_lit _))) (len1 _)
      · rw [gg (.inl rfl) (cat (ek_str (okS_lit _)))]; exact av_lst (cat (ek_str (okS_lit _))) (len1 _)
      · rw [gg (.inl rfl) (cat ek_five)]; exact av_lst (cat ek_five) (len1 _)
      · rw [gg (.inl rfl) (cat ek_la)]; exact av_lst (cat ek_la) (len1 _)
      · rw [gg (.inl rfl) (cat ek_non)]; exact av_lst (cat ek_non) (len1 _)
      · rw [gg (.inr rfl) (cat (ek_str (okS_lit _)))]; exact av_lst (cat (ek_str (okS_lit _))) (len1 _)
      · rw [gg (.inr rfl) cat2]; exact av_lst cat2 (by
          have l1 : c.length ≤ 1 := by
            have : (c.map D.str).length ≤ 1 := by
              rw [← ec]
              have := cut_nat (xs := m.map D.str) (k := 1)
              rw [show ((1 : Nat) : Int) = 1 from rfl] at this
              rw [this, List.length_take]
              omega
            simpa using this
          rw [List.length_append, List.length_map, List.length_map]; omega)
  · refine ⟨.nd (.lst .frz) (m.map .str), body ?_, av_lst (ek nmM) (by rw [List.length_map]; omega)⟩
    unfold st__law_avoids_5
    rw [sRetF_ok (d := .nd (.lst .tmp) (m.map .str))]
    · rw [mapF_lst, mstr]; rfl
    · simp (decide := true) [k, mstr]
end OB

namespace OB
open PySem PySem.Spec PyProof.Rows L2 PySem.NumText PySem.StrLaws Builtin.Str
theorem pEq2_lst {f g : Fl} {L : List D} (h : ∀ d ∈ L, Sh d) : pEq2 [.nd (.lst f) L, .nd (.lst g) L] = some (.bl true) := by
  simp only [pEq2, eqX, atEq, Option.none_or, (deep_same h f g).1]
  rfl
theorem pEq2_tup {L : List D} (h : ∀ d ∈ L, Sh d) : pEq2 [.nd .tup L, .nd .tup L] = some (.bl true) := by
  simp only [pEq2, eqX, atEq, Option.none_or, (deep_same h .own .own).2]
  rfl
structure Od (rows : List Rw) (d : D) : Prop where
  nb : noB d = true
  fz : Fz d
  no : ∀ k : Fl, k = .bor ∨ k = .frz → m__law_none_there [dn k rows, d] = .ok (.bl true)
theorem od_str {rows : List Rw} {x : Str} (h : x ∉ rows.map (·.1)) : Od rows (.str x) := ⟨rfl, fun _ _ => rfl, fun k hk => none_there_str hk h⟩
theorem od_odd {rows : List Rw} {d : D} (h : NS d) (z : Fz d) (nb : noB d = true) (q : pEq2 [d, d] = some (.bl true)) (t : ∃ b, isiD (nbTy "bool") (fun _ => none) d = some b) : Od rows d := ⟨nb, z, fun k hk => none_there_odd hk h z nb rfl q t⟩
abbrev zz : Str := "zzzzzzzzzzzz"
theorem zz_no {rows : List Rw} (h9 : ∀ r ∈ rows, r.1.length ≤ 9) : zz ∉ rows.map (·.1) := fun h => by
  obtain ⟨r, hr, e⟩ := List.mem_map.mp h
  have := h9 r hr
  rw [e] at this
  exact absurd this (by decide +kernel)
theorem nil_no {rows : List Rw} (ok : RwOk rows) : (Str.ofString "") ∉ rows.map (·.1) := fun h => by
  obtain ⟨r, hr, e⟩ := List.mem_map.mp h
  have := (ok.nm r hr).lo
  rw [e] at this
  exact absurd this (by decide +kernel)
theorem odd_cp {n : Int} {f g : Fl} {names : List Str} {rows : List Rw} (hf : f = .bor ∨ f = .frz) (p : Pool names) {x3 x4 : Option D} :
    cp__law_odd_diner_1 [some (.int n), some (.nd (.lst f) (names.map D.str)), some (kD g rows), x3, x4] = .ok (.nd (.lst .own) (((names ++ [zz]).filter fun x => !decide (x ∈ rows.map (·.1))).map D.str)) := by
  have hft : f.toTmp = f := by rcases hf with rfl | rfl <;> rfl
  have pl := p.len
  have ea : pAdd [.nd (.lst f) (names.map D.str), .nd (.lst .own) [.str zz]] = some (.nd (.lst .own) ((names ++ [zz]).map D.str)) := by
    rw [cat_lst (by rw [List.length_map, List.length_singleton]; omega), List.map_append]; rfl
  have ei : itV (ePr pAdd [eVar 1, ePr pLst [eC (.str zz)]]) [some (.int n), some (.nd (.lst f) (names.map D.str)), some (kD g rows), x3, x4] = .ok ((names ++ [zz]).map D.str, true) := by
    generalize (names ++ [zz]) = L at ea
    have m : (L.map D.str).map (mapF Fl.toFrz) = L.map D.str := mstr
    have m' : (L.map D.str).map toFrz = L.map D.str := mstr
    have v1 : eVar 1 [some (.int n), some (.nd (.lst f) (names.map D.str)), some (kD g rows), x3, x4] = .ok (.nd (.lst f) (names.map D.str)) := by
      simp [hft]
    rw [itV_eq, ePr_eq, eL_cons, v1]
    simp (decide := true) [-eVar_eq, ea, m, m', itemsD]
  have hL : (names ++ [zz]).length ≤ 10 := by rw [List.length_append, pl]; decide
  generalize (names ++ [zz]) = L at ei hL
  have hl : (((L.filter fun x => !decide (x ∈ rows.map (·.1))).map D.str)).length ≤ sizeLine := by
    rw [List.length_map]
    exact Nat.le_trans (List.length_filter_le _ _) (Nat.le_trans hL (by decide))
  have e := compL_filter (tg := tgName 4) (c := cc__law_odd_diner_1) (f := eVar 4) (ρ := wipeE [some (.int n), some (.nd (.lst f) (names.map D.str)), some (kD g rows), x3, x4] [4]) (fun d => match d with | .str x => !decide (x ∈ rows.map (·.1)) | _ => false) id (L.map D.str) fun d hd => by
    obtain ⟨x, hx, rfl⟩ := List.mem_map.mp hd
    refine ⟨_, rfl, ?_, fun _ => ?_⟩
    · unfold cc__law_odd_diner_1
      simp
    · simp
  have e2 : (L.map D.str).filter (fun d => match d with | .str x => !decide (x ∈ rows.map (·.1)) | _ => false) = (L.filter fun x => !decide (x ∈ rows.map (·.1))).map D.str := by
    rw [List.filter_map]
    rfl
  rw [e2, List.map_id] at e
  unfold cp__law_odd_diner_1
  rw [eComp_eq, ei, Ot.bind_ok, e]
  exact if_pos hl
theorem odd_diner_eq {n : Int} {f g : Fl} {names : List Str} {rows : List Rw} (h0 : 0 ≤ n) (h1 : n < 2147483629) (hf : f = .bor ∨ f = .frz) (p : Pool names) (ok : RwOk rows) (h9 : ∀ r ∈ rows, r.1.length ≤ 9) :
    ∃ d, m__law_odd_diner [.int n, .nd (.lst f) (names.map D.str), kD g rows] = .ok d ∧ Od rows d := by
  haveI : Bd n 31 := bd_range (c := 2147483629) (by omega) (by decide)
  have ec := odd_cp (n := n) (g := g) (rows := rows) (x3 := none) (x4 := none) hf p
  have hF : ∀ x ∈ (names ++ [zz]).filter (fun x => !decide (x ∈ rows.map (·.1))), x ∉ rows.map (·.1) := fun x hx => by
    have := (List.mem_filter.mp hx).2
    simpa using this
  have hz : zz ∈ (names ++ [zz]).filter (fun x => !decide (x ∈ rows.map (·.1))) := List.mem_filter.mpr ⟨List.mem_append_right _ List.mem_cons_self, by
    have := zz_no h9
    simpa using this⟩
  generalize (names ++ [zz]).filter (fun x => !decide (x ∈ rows.map (·.1))) = F at ec hF hz
  have hp : 0 < F.length := List.length_pos_of_mem hz
  obtain ⟨b0, b1⟩ := modr (n / 9) (show (0 : Int) < F.length by omega)
  obtain ⟨x, hx, ex⟩ := pick_str (f := .tmp) (vs := F) b0 b1
  obtain ⟨c0, c1⟩ := modr n (show (0 : Int) < 9 by decide)
  obtain ⟨d, hd, ed⟩ := at_lst (f := .own) (ds := [.str x, .non, .int 5, .nd (.lst .own) [.str "a"], .bl true, .str "", .nd .tup [], .nd (.dct .own []) [], .int 0]) c0 (by simpa using c1)
  refine ⟨mapF Fl.tmpFrz d, ?_, ?_⟩
  · unfold m__law_odd_diner g__law_odd_diner
    simp (decide := true) [ec, hp, ex, ed]
  · rcases (by simpa using hd : d = .str x ∨ d = .non ∨ d = .int 5 ∨ d = .nd (.lst .own) [.str "a"] ∨ d = .bl true ∨ d = .str "" ∨ d = .nd .tup [] ∨ d = .nd (.dct .own []) [] ∨ d = .int 0) with rfl | rfl | rfl | rfl | rfl | rfl | rfl | rfl | rfl
    · exact od_str (hF x hx)
    · exact od_odd rfl (fun _ _ => rfl) rfl rfl ⟨_, rfl⟩
    · exact od_odd rfl (fun _ _ => rfl) rfl (by simp [pEq2, eqX, atEq]) ⟨_, rfl⟩
    · exact od_odd rfl (fun g hg => by simp [hg]) (by simp) (pEq2_lst fun d hd => by
        have : d = .str "a" := by simpa [mapFL, mapF] using hd
        subst this
        exact sh_str (okS_lit _)) ⟨_, rfl⟩
    · exact od_odd rfl (fun _ _ => rfl) rfl rfl ⟨_, rfl⟩
    · exact od_str (nil_no ok)
    · exact od_odd rfl (fun g hg => by simp) (by simp) (pEq2_tup fun d hd => nomatch hd) ⟨_, rfl⟩
    · exact od_odd rfl (fun g hg => by simp [hg]) (by simp) rfl ⟨_, rfl⟩
    · exact od_odd rfl (fun _ _ => rfl) rfl (by simp [pEq2, eqX, atEq]) ⟨_, rfl⟩
/-! ### the copy, the putting -/
def coldR (rows : List Rw) : List Rw := rows.map fun r => (r.1, r.2.1, false)
theorem valR_frz {rows : List Rw} : valR .frz rows = valR .own (coldR rows) ∧ keyR rows = keyR (coldR rows) := by
  constructor
  · unfold valR coldR
    rw [List.map_map]
    apply List.map_congr_left
    intro r _
    show D.nd (.lst (fi .frz r.2.2)) _ = .nd (.lst (fi .own false)) _
    have : fi .frz r.2.2 = .frz := by unfold fi; split <;> rfl
    rw [this]; rfl
  · unfold keyR coldR
    rw [List.map_map]
    rfl
theorem make_eq {ρ : En} : eMake "Diners" m_Diners___init__ [] [] ρ = .ok (dn .own []) := by
  have : m_Diners___init__ [.nd (.obj .own "Diners" []) []] = some (.ok .non, [dn .own []]) := rfl
  simp [this]
theorem copied_eq {rows : List Rw} : m_Diners_copied [dn .frz rows] = .ok (dn .own (coldR rows)) := by
  have e : pDictD [kD .frz rows] = some (kD .own (coldR rows)) := by
    show some (D.nd (.dct .own (keyR rows)) (valR .frz rows)) = _
    rw [valR_frz.1, valR_frz.2]
    rfl
  have h2 : fldK 1 pHere ["Diners"] "known" (kD .own (coldR rows)) [some (dn .frz rows), some (dn .own [])] = some (.nx, [some (dn .frz rows), some (dn .own (coldR rows))]) := by
    rw [fldK_eq]
    have : subD [some (dn .frz rows), some (dn .own [])] 1 pHere = some (dn .own [], [], dn .own []) := rfl
    rw [this]
    show (if noT (kD .own (coldR rows)) && true && true then _ else none) = _
    rw [noT_kD]
    rfl
  have em : ∀ ρ : En, eMake "Diners" m_Diners___init__ [] [] ρ = .ok (dn .own []) := fun ρ => make_eq
  unfold m_Diners_copied g_Diners_copied
  simp [-eMake_eq, em, e, h2, -fldK_eq]
theorem law_put_good {rows rows' : List Rw} {nm a : D} (p : m_Diners_put_diner [dn .own rows, nm, a] = some (.ok .non, [dn .own rows'])) (zn : ∀ g : Fl → Fl, g .frz = .frz → mapF g nm = nm) (za : ∀ g : Fl → Fl, g .frz = .frz → g .bor = .bor → mapF g a = a) : m__law_put [dn .own rows, nm, a] = some (.ok .non, [dn .own rows']) := by
  have z1 := zn Fl.toTmp rfl
  have z2 := zn Fl.toArg rfl
  have z3 := za Fl.toTmp rfl rfl
  have z4 := za Fl.toArg rfl rfl
  unfold m__law_put g__law_put
  simp (decide := true) [p, z1, z2, z3, z4]
theorem law_put_bad {rows : List Rw} {nm a : D} {c : Str} (hx : xb_m_LarderError c = some true) (p : m_Diners_put_diner [dn .own rows, nm, a] = some (.ex ⟨c, none⟩, [dn .own rows])) (zn : ∀ g : Fl → Fl, g .frz = .frz → mapF g nm = nm) (za : ∀ g : Fl → Fl, g .frz = .frz → g .bor = .bor → mapF g a = a) : m__law_put [dn .own rows, nm, a] = some (.ok (.nd (.exc .frz c []) []), [dn .own rows]) := by
  have z1 := zn Fl.toTmp rfl
  have z2 := zn Fl.toArg rfl
  have z3 := za Fl.toTmp rfl rfl
  have z4 := za Fl.toArg rfl rfl
  unfold m__law_put g__law_put
  simp (decide := true) [p, z1, z2, z3, z4, hx]
end OB

namespace OB
open PySem PySem.Spec PyProof.Rows L2 PySem.NumText PySem.StrLaws Builtin.Str
def paE (g : Fl → Fl) (r : List Rw) : D := .nd .tup [dn (g .frz) r, kD (g .own) (coldR r)]
def pastD (l : List (List Rw)) : D := .nd (.lst .own) (l.map (paE id))
abbrev LW (S N o p : D) (x4 : Option D) (d B : D) (x7 x8 x9 x10 x11 : Option D) : En := [some S, some N, some o, some p, x4, some d, some B, x7, x8, x9, x10, x11, none, none]
def hn2 : D → D
  | .nd (.lst _) ds => .nd (.lst .own) ds
  | d => d
structure TOk (rows : List Rw) : Prop where
  ok : RwOk rows
  h9 : ∀ r ∈ rows, r.1.length ≤ 9
theorem TOk.cold {rows : List Rw} (h : TOk rows) : TOk (coldR rows) := by
  have e : (coldR rows).map (·.1) = rows.map (·.1) := by unfold coldR; rw [List.map_map]; rfl
  have m : ∀ r ∈ coldR rows, ∃ r0 ∈ rows, r.1 = r0.1 ∧ r.2.1 = r0.2.1 := fun r hr => by
    obtain ⟨r0, h0, rfl⟩ := List.mem_map.mp hr
    exact ⟨r0, h0, rfl, rfl⟩
  refine ⟨⟨by rw [e]; exact h.ok.nd, by unfold coldR; rw [List.length_map]; exact h.ok.len, fun r hr => ?_, fun r hr x hx => ?_, fun r hr => ?_⟩, fun r hr => ?_⟩
  · obtain ⟨r0, h0, e1, e2⟩ := m r hr; rw [e1]; exact h.ok.nm r0 h0
  · obtain ⟨r0, h0, e1, e2⟩ := m r hr; rw [e2] at hx; exact h.ok.av r0 h0 x hx
  · obtain ⟨r0, h0, e1, e2⟩ := m r hr; rw [e2]; exact h.ok.al r0 h0
  · obtain ⟨r0, h0, e1, e2⟩ := m r hr; rw [e1]; exact h.h9 r0 h0
section
variable {S N o p d B : D} {x4 x7 x8 x9 x10 x11 : Option D} {rows : List Rw} {n : Int} {names : List Str} {l : List (List Rw)} {nm av : D}
theorem t1 {ns : List Int} {j : Nat} (hj : j < 1000) : ∃ n : Int, (0 ≤ n ∧ n < 2147483629) ∧ st_law_1 (LW (.nd (.lst .bor) (ns.map D.int)) N o p (some (.int j)) d B x7 x8 x9 x10 x11) = some (.nx, LW (.nd (.lst .bor) (ns.map D.int)) N o p (some (.int j)) d B (some (.int n)) x8 x9 x10 x11) := by
  haveI : Bd ((j : Int) + 1) 20 := bd_range (c := 1001) (by omega) (by decide)
  obtain ⟨n, hn, e⟩ := number_eq ns ((j : Int) + 1) (by omega)
  have mi : ∀ g : Fl → Fl, (ns.map D.int).map (mapF g) = ns.map D.int := fun g => by rw [List.map_map]; rfl
  refine ⟨n, hn, ?_⟩
  unfold st_law_1
  simp [mi, e]
theorem t2 (h : 0 ≤ n ∧ n < 2147483629) (P : Pool names) : ∃ nm, (Nk nm ∧ ∀ s, nm = .str s → Nm s → s.length ≤ 9) ∧ st_law_2 (LW S (.nd (.lst .own) (names.map D.str)) o p x4 d B (some (.int n)) x8 x9 x10 x11) = some (.nx, LW S (.nd (.lst .own) (names.map D.str)) o p x4 d B (some (.int n)) (some nm) x9 x10 x11) := by
  haveI : Bd (40 : Int) 20 := ⟨by decide⟩
  obtain ⟨nm, e, k, k2⟩ := name_eq (n := n / 40) (f := .bor) (by omega) (by omega) (.inl rfl) P
  refine ⟨nm, ⟨k, k2⟩, ?_⟩
  unfold st_law_2
  simp (decide := true) [mstr, e, k.nb, k.nt]
theorem t3 (h : 0 ≤ n ∧ n < 2147483629) (P : Pool names) : ∃ av, Av av ∧ st_law_3 (LW S (.nd (.lst .own) (names.map D.str)) o p x4 d B (some (.int n)) x8 x9 x10 x11) = some (.nx, LW S (.nd (.lst .own) (names.map D.str)) o p x4 d B (some (.int n)) x8 (some av) x10 x11) := by
  haveI : Bd (7 : Int) 20 := ⟨by decide⟩
  obtain ⟨av, e, k⟩ := law_avoids_eq (n := n / 7) (f := .bor) (by omega) (by omega) (.inl rfl) P
  obtain ⟨k1, k2, k3⟩ := av_nt k
  refine ⟨av, k, ?_⟩
  unfold st_law_3
  simp (decide := true) [mstr, e, k1, k2]
theorem t5 (h : Av av) : st_law_5 (LW S N o p x4 d B x7 x8 (some av) x10 x11) = some (.nx, LW S N o p x4 d B x7 x8 (some av) (some (hn2 av)) x11) := by
  unfold st_law_5
  cases h with
  | odd h z n q e =>
    have e2 : hn2 av = av := by
      cases av with
      | nd k ds => cases k with
        | lst f => exact absurd h (by unfold NL; simp [isiD, tyN, nbTy])
        | _ => rfl
      | _ => rfl
    unfold NL at h
    rw [e2]
    simp [z Fl.toTmp rfl, h, n]
  | @lst ds h1 h2 h3 hl n q =>
    have m1 := mapF_fz (g := Fl.toTmp) rfl h3
    have hp : isiD (nbTy "list") (fun _ => none) (.nd (.lst .frz) ds) = some true := rfl
    have hq : pList3 [.nd (.lst .frz) ds] = some (.nd (.lst .own) ds) := rfl
    simp [m1, hp, hq, n, hn2]
theorem t5b {w : Str} (zn : Fz nm) (za : Fz av) (hd : m__law_due [kD .bor rows, nm, av] = .ok (.str w)) : sSet 11 (eCall m__law_due [] [eVar 2, eVar 8, eVar 9]) (LW S N (kD .own rows) p x4 d B x7 (some nm) (some av) x10 x11) = some (.nx, LW S N (kD .own rows) p x4 d B x7 (some nm) (some av) x10 (some (.str w))) := by
  simp [zn Fl.toTmp rfl, zn Fl.toArg rfl, za Fl.toTmp rfl, za Fl.toArg rfl, hd]
theorem t4f (h : ¬ n % 13 = 1) : st_law_4 (LW S N o p x4 d B (some (.int n)) x8 x9 x10 x11) = some (.nx, LW S N o p x4 d B (some (.int n)) x8 x9 x10 x11) := by
  unfold st_law_4
  simp [h]
end
end OB

namespace OB
open PySem PySem.Spec PyProof.Rows L2 PySem.NumText PySem.StrLaws Builtin.Str
theorem pa_noT {g : Fl → Fl} {r : List Rw} (h : noT (dn (g .frz) r) = true) (h2 : noT (kD (g .own) (coldR r)) = true) : noT (paE g r) = true := by
  unfold paE
  rw [noT_tup]
  simp [h, h2]
section
variable {S N o p d B : D} {x4 x7 x8 x9 x10 x11 : Option D} {rows : List Rw} {n : Int} {names : List Str} {l : List (List Rw)} {nm av : D}
theorem t4t (h : n % 13 = 1) (hl : l.length ≤ 1000) : st_law_4 (LW S N (kD .own rows) (pastD l) x4 (dn .own rows) B (some (.int n)) x8 x9 x10 x11) = some (.nx, LW S N (kD .own (coldR rows)) (pastD (l ++ [rows])) x4 (dn .own (coldR rows)) B (some (.int n)) x8 x9 x10 x11) := by
  have hz : l.length < sizeLine := Nat.lt_of_le_of_lt hl (by decide)
  have fz : sFzD 2 (sFzP 5 pHere (sMut 3 pHere mApp (eL [(ePr pTup [eVar 5, (ePr pDictD [eVar 2])])]))) (LW S N (kD .own rows) (pastD l) x4 (dn .own rows) B (some (.int n)) x8 x9 x10 x11) = sMut 3 pHere mApp (eL [(ePr pTup [eVar 5, (ePr pDictD [eVar 2])])]) (LW S N (kD .own (coldR rows)) (pastD l) x4 (dn .frz rows) B (some (.int n)) x8 x9 x10 x11) := by
    rw [sFzD_eq (k := .dct .own (keyR rows)) (es := valR .own rows) rfl]
    have e1 : (valR .own rows).map toFrz = valR .frz rows := mapF_valR_toFrz
    rw [e1, sFzP_eq]
    have e2 : D.nd (.dct .own (keyR rows)) (valR .frz rows) = kD .own (coldR rows) := by rw [valR_frz.1, valR_frz.2]; rfl
    rw [e2]
    have e3 : fzP 5 pHere ((LW S N (kD .own rows) (pastD l) x4 (dn .own rows) B (some (.int n)) x8 x9 x10 x11).set 2 (some (kD .own (coldR rows)))) = LW S N (kD .own (coldR rows)) (pastD l) x4 (dn .frz rows) B (some (.int n)) x8 x9 x10 x11 := by
      rw [fzP_eq]
      have : subD ((LW S N (kD .own rows) (pastD l) x4 (dn .own rows) B (some (.int n)) x8 x9 x10 x11).set 2 (some (kD .own (coldR rows)))) 5 pHere = some (dn .own rows, [], dn .own rows) := rfl
      rw [this]
      show List.set _ 5 (some (toFrz (dn .own rows))) = _
      have e4 : toFrz (dn .own rows) = dn .frz rows := mapF_dn_toFrz
      rw [e4]
      rfl
    rw [e3]
  have cold2 : coldR (coldR rows) = coldR rows := by unfold coldR; rw [List.map_map]; rfl
  have pd : pDictD [kD .tmp (coldR rows)] = some (kD .own (coldR rows)) := by
    show some (D.nd (.dct .own (keyR (coldR rows))) (valR .tmp (coldR rows))) = _
    have : valR .tmp (coldR rows) = valR .own (coldR rows) := by
      unfold valR coldR
      rw [List.map_map, List.map_map]
      rfl
    rw [this]
    rfl
  have mu : sMut 3 pHere mApp (eL [(ePr pTup [eVar 5, (ePr pDictD [eVar 2])])]) (LW S N (kD .own (coldR rows)) (pastD l) x4 (dn .frz rows) B (some (.int n)) x8 x9 x10 x11) = some (.nx, LW S N (kD .own (coldR rows)) (pastD (l ++ [rows])) x4 (dn .frz rows) B (some (.int n)) x8 x9 x10 x11) := by
    have hz2 : (l.map (paE id)).length < sizeLine := by rw [List.length_map]; exact hz
    unfold pastD
    rw [List.map_append]
    generalize l.map (paE id) = L at hz2
    simp (decide := true) [sMut, placeOf, Kd.isOwn, Kd.fl, mApp, putAt, hz2, pd, paE]
  have cp : sSet 5 (eMeth "Diners" "copied" m_Diners_copied [] (eVar 5) []) (LW S N (kD .own (coldR rows)) (pastD (l ++ [rows])) x4 (dn .frz rows) B (some (.int n)) x8 x9 x10 x11) = some (.nx, LW S N (kD .own (coldR rows)) (pastD (l ++ [rows])) x4 (dn .own (coldR rows)) B (some (.int n)) x8 x9 x10 x11) := by
    simp [copied_eq]
  unfold st_law_4
  have ht : eT (ePr pEq [(ePr pMod [eVar 7, eC (.int 13)]), eC (.int 1)]) (LW S N (kD .own rows) (pastD l) x4 (dn .own rows) B (some (.int n)) x8 x9 x10 x11) = .ok true := by
    simp [h]
  rw [sIf_eq, ht]
  show sSeq _ _ _ = _
  rw [sSeq_nx (fz.trans mu), cp]
end
/-- the things that are handed on by hd -/
theorem hn2_arg {av : D} (h : Av av) : toArg (mapF Fl.toTmp (hn2 av)) = hnd av ∧ (∀ g : Fl → Fl, g .frz = .frz → g .bor = .bor → mapF g (hnd av) = hnd av) ∧ pNe2 [mapF Fl.toTmp (hn2 av), av] = some (.bl false) := by
  cases h with
  | odd h z n q e =>
    have e2 : hn2 av = av := by
      cases av with
      | nd k ds => cases k with
        | lst f => exact absurd h (by unfold NL; simp [isiD, tyN, nbTy])
        | _ => rfl
      | _ => rfl
    have z1 := z Fl.toTmp rfl
    have z2 : toArg av = av := z Fl.toArg rfl
    rw [e2, hnd_odd h, z1, z2]
    exact ⟨rfl, fun g hg _ => z g hg, e⟩
  | @lst ds h1 h2 h3 hl n q =>
    have m1 := mapF_fz (g := Fl.toTmp) rfl h3
    have m2 := mapF_fz (g := Fl.toArg) rfl h3
    refine ⟨?_, fun g hg hb => ?_, ?_⟩
    · show mapF Fl.toArg (mapF Fl.toTmp (.nd (.lst .own) ds)) = .nd (.lst .bor) ds
      rw [mapF_lst, mapF_lst, m1, m2]
      rfl
    · show mapF g (.nd (.lst .bor) ds) = .nd (.lst .bor) ds
      rw [mapF_lst, mapF_fz hg h3, hb]
    · show pNe2 [mapF Fl.toTmp (.nd (.lst .own) ds), _] = _
      rw [mapF_lst, m1]
      exact pNe2_lst h2
section
variable {S N o p d B : D} {x4 x7 x8 x9 x10 x11 : Option D} {rows : List Rw} {n : Int} {names : List Str} {l : List (List Rw)} {nm av : D} {w : Str}
theorem t6 (zn : Fz nm) (ha : Av av) (e : D) (rows' : List Rw) (q : m__law_put [dn .own rows, nm, hnd av] = some (.ok e, [dn .own rows'])) (hb : noB e = true) (he : m__law_word [toArg e] = .ok (.str w)) : st_law_6 (LW S N o p x4 (dn .own rows) B x7 (some nm) (some av) (some (hn2 av)) (some (.str w))) = some (.nx, LW S N o p x4 (dn .own rows') B x7 (some nm) (some av) (some (hn2 av)) (some (.str w))) := by
  obtain ⟨k1, k2, k3⟩ := hn2_arg ha
  obtain ⟨_, _, za⟩ := av_nt ha
  have hx : xL pNe (xC1 m__law_word (xCall m__law_put [.pl 5 pHere, .hd (eVar 8), .hd (eVar 10)] [])) (eVar 11) (LW S N o p x4 (dn .own rows) B x7 (some nm) (some av) (some (hn2 av)) (some (.str w))) = some (.ok (.bl false), LW S N o p x4 (dn .own rows') B x7 (some nm) (some av) (some (hn2 av)) (some (.str w))) := by
    have k1' : mapF Fl.toArg (mapF Fl.toTmp (hn2 av)) = hnd av := k1
    have he' : m__law_word [mapF Fl.toArg e] = .ok (.str w) := he
    simp (decide := true) [k1', zn Fl.toTmp rfl, zn Fl.toArg rfl, q, he', hb]
  unfold st_law_6
  rw [sIfX_eq, xOrT_eq, xTr_eq, hx]
  simp (decide := true) [za Fl.toTmp rfl, k3]
theorem t7 (ha : Av av) : ∃ z, st_law_7 (LW S N o p x4 d B x7 x8 x9 (some (hn2 av)) x11) = some (.nx, LW S N o p x4 d B x7 x8 x9 (some z) x11) := by
  unfold st_law_7
  cases ha with
  | odd h z n q e =>
    have e2 : hn2 av = av := by
      cases av with
      | nd k ds => cases k with
        | lst f => exact absurd h (by unfold NL; simp [isiD, tyN, nbTy])
        | _ => rfl
      | _ => rfl
    refine ⟨av, ?_⟩
    rw [e2]
    unfold NL at h
    simp [z Fl.toTmp rfl, h]
  | @lst ds h1 h2 h3 hl n q =>
    have hz : ds.length < sizeLine := Nat.lt_of_le_of_lt hl (by decide)
    have hp : isiD (nbTy "list") (fun _ => none) (.nd (.lst .tmp) ds) = some true := rfl
    have m1 := mapF_fz (g := Fl.toTmp) rfl h3
    refine ⟨.nd (.lst .own) (ds ++ [.str "more"]), ?_⟩
    show sIf _ _ _ (LW S N o p x4 d B x7 x8 x9 (some (.nd (.lst .own) ds)) x11) = _
    have ht : eT (eIsi (nbTy "list") (fun _ => none) (eVar 10)) (LW S N o p x4 d B x7 x8 x9 (some (.nd (.lst .own) ds)) x11) = .ok true := by
      simp [m1, hp]
    rw [sIf_t ht]
    simp (decide := true) [sMut, placeOf, Kd.isOwn, Kd.fl, mApp, putAt, hz]
theorem t8b (hw : ¬ w = "") : st_law_8 (LW S N o p x4 d B x7 x8 x9 x10 (some (.str w))) = some (.nx, LW S N o p x4 d B x7 x8 x9 x10 (some (.str w))) := by
  unfold st_law_8
  simp [hw]
theorem t8g {s : Str} {a : List Str} (h : s ∉ rows.map (·.1)) (hl : rows.length ≤ 6) : st_law_8 (LW S N (kD .own rows) p x4 d B x7 (some (.str s)) (some (.nd (.lst .frz) (a.map .str))) x10 (some (.str ""))) = some (.nx, LW S N (kD .own (rows ++ [(s, a, true)])) p x4 d B x7 (some (.str s)) (some (.nd (.lst .frz) (a.map .str))) x10 (some (.str ""))) := by
  have fn : (keyR rows).findIdx? (fun q => decide (q = (.inr s : Key))) = none := by
    rw [List.findIdx?_eq_none_iff]
    intro k hk
    obtain ⟨p, hp, rfl⟩ := List.mem_map.mp hk
    have : ¬ p.1 = s := fun e => h (List.mem_map.mpr ⟨p, hp, e⟩)
    simpa using this
  have hk : (keyR rows).length < sizeLine := by
    unfold keyR
    rw [List.length_map]
    exact Nat.lt_of_le_of_lt hl (by decide)
  have pd : putD2 (.dct .own (keyR rows)) (valR .own rows) (.str s) (.nd (.lst .own) (a.map .str)) = some (.dct .own (keyR rows ++ [.inr s]), valR .own rows ++ [.nd (.lst .own) (a.map .str)]) := by
    unfold putD2
    show (some (Sum.inr s : Key)).bind _ = _
    rw [Option.bind_some, fn]
    dsimp only
    rw [if_pos hk]
  have hp : pList3 [.nd (.lst .frz) (a.map D.str)] = some (.nd (.lst .own) (a.map .str)) := rfl
  have pg : D.nd (.dct .own (keyR rows ++ [.inr s])) (valR .own rows ++ [.nd (.lst .own) (a.map .str)]) = kD .own (rows ++ [(s, a, true)]) := by
    unfold kD keyR valR
    simp [fi]
  have sd : subD (LW S N (kD .own rows) p x4 d B x7 (some (.str s)) (some (.nd (.lst .frz) (a.map .str))) x10 (some (.str ""))) 2 pHere = some (kD .own rows, [], .nd (.dct .own (keyR rows)) (valR .own rows)) := rfl
  have e : sPut2 2 pHere (ePr pList3 [eVar 9]) (eVar 8) (LW S N (kD .own rows) p x4 d B x7 (some (.str s)) (some (.nd (.lst .frz) (a.map .str))) x10 (some (.str ""))) = some (.nx, LW S N (kD .own (rows ++ [(s, a, true)])) p x4 d B x7 (some (.str s)) (some (.nd (.lst .frz) (a.map .str))) x10 (some (.str ""))) := by
    rw [sPut2_eq, sd]
    simp (decide := true) [-subD_row, Kd.isOwn, Kd.fl, pd, pg, hp]
  have ht : eT (ePr pEq [eVar 11, eC (.str "")]) (LW S N (kD .own rows) p x4 d B x7 (some (.str s)) (some (.nd (.lst .frz) (a.map .str))) x10 (some (.str ""))) = .ok true := by
    simp
  unfold st_law_8
  rw [sIf_eq, ht]
  exact e
theorem t9 (h : 0 ≤ n ∧ n < 2147483629) (P : Pool names) (T : TOk rows) : st_law_9 (LW S (.nd (.lst .own) (names.map D.str)) (kD .own rows) p x4 (dn .own rows) B (some (.int n)) x8 x9 x10 x11) = some (.nx, LW S (.nd (.lst .own) (names.map D.str)) (kD .own rows) p x4 (dn .own rows) B (some (.int n)) x8 x9 x10 x11) := by
  haveI : Bd (3 : Int) 20 := ⟨by decide⟩
  obtain ⟨dd, e, k⟩ := odd_diner_eq (n := n / 3) (f := .bor) (g := .bor) (by omega) (by omega) (.inl rfl) P T.ok T.h9
  have e1 := stands_eq (f := .bor) (g := .bor) (.inl rfl) (.inl rfl) T.ok
  have e2 := k.no .bor (.inl rfl)
  have z1 := k.fz Fl.toArg rfl
  unfold st_law_9
  simp (decide := true) [mstr, e, e1, e2, z1, k.nb]
end
end OB

namespace OB
open PySem PySem.Spec PyProof.Rows L2 PySem.NumText PySem.StrLaws Builtin.Str
theorem TOk.put {rows : List Rw} (h : TOk rows) {s : Str} {a : List Str} (hs : Nm s) (h9 : s.length ≤ 9) (hn : s ∉ rows.map (·.1)) (hr : rows.length < 6) (ha : ∀ x ∈ a, Nm x) (h6 : a.length ≤ 6) : TOk (rows ++ [(s, a, true)]) := by
  have m : ∀ {p : Rw → Prop}, (∀ r ∈ rows, p r) → p (s, a, true) → ∀ r ∈ rows ++ [(s, a, true)], p r := fun h1 h2 r hr => by
    rcases List.mem_append.mp hr with h | h
    · exact h1 r h
    · rw [List.mem_singleton.mp h]; exact h2
  refine ⟨⟨?_, by rw [List.length_append, List.length_singleton]; omega, m h.ok.nm hs, m h.ok.av ha, m h.ok.al h6⟩, m h.h9 h9⟩
  rw [List.map_append]
  refine List.nodup_append.mpr ⟨h.ok.nd, by simp, fun x hx y hy e => ?_⟩
  have : y = s := by simpa using hy
  rw [e, this] at hx
  exact hn hx
theorem turn_eq {B : D} {ns : List Int} {names : List Str} {rows : List Rw} {l : List (List Rw)} {j : Nat} {x7 x8 x9 x10 x11 : Option D} (hj : j < 1000) (P : Pool names) (T : TOk rows) (hT : ∀ r ∈ l, TOk r) (hl : l.length ≤ 1000) :
    ∃ rows' l' y7 y8 y9 y10 y11, TOk rows' ∧ (∀ r ∈ l', TOk r) ∧ l'.length ≤ l.length + 1 ∧ lb_law_1 (LW (.nd (.lst .bor) (ns.map D.int)) (.nd (.lst .own) (names.map D.str)) (kD .own rows) (pastD l) (some (.int j)) (dn .own rows) B x7 x8 x9 x10 x11) =
      some (.nx, LW (.nd (.lst .bor) (ns.map D.int)) (.nd (.lst .own) (names.map D.str)) (kD .own rows') (pastD l') (some (.int j)) (dn .own rows') B y7 y8 y9 y10 y11) := by
  obtain ⟨n, hn, e1⟩ := t1 (N := .nd (.lst .own) (names.map D.str)) (o := kD .own rows) (p := pastD l) (d := dn .own rows) (B := B) (x7 := x7) (x8 := x8) (x9 := x9) (x10 := x10) (x11 := x11) (ns := ns) hj
  obtain ⟨nm, ⟨kn, k9⟩, e2⟩ := t2 (S := .nd (.lst .bor) (ns.map D.int)) (o := kD .own rows) (p := pastD l) (x4 := some (.int j)) (d := dn .own rows) (B := B) (x8 := x8) (x9 := x9) (x10 := x10) (x11 := x11) hn P
  obtain ⟨av, ka, e3⟩ := t3 (S := .nd (.lst .bor) (ns.map D.int)) (o := kD .own rows) (p := pastD l) (x4 := some (.int j)) (d := dn .own rows) (B := B) (x8 := some nm) (x9 := x9) (x10 := x10) (x11 := x11) hn P
  obtain ⟨za1, za2, za⟩ := av_nt ka
  -- the copy, if any
  obtain ⟨r1, l1, T1, hT1, hl1, e4⟩ : ∃ r1 l1, TOk r1 ∧ (∀ r ∈ l1, TOk r) ∧ l1.length ≤ l.length + 1 ∧ st_law_4 (LW (.nd (.lst .bor) (ns.map D.int)) (.nd (.lst .own) (names.map D.str)) (kD .own rows) (pastD l) (some (.int j)) (dn .own rows) B (some (.int n)) (some nm) (some av) x10 x11) =
      some (.nx, LW (.nd (.lst .bor) (ns.map D.int)) (.nd (.lst .own) (names.map D.str)) (kD .own r1) (pastD l1) (some (.int j)) (dn .own r1) B (some (.int n)) (some nm) (some av) x10 x11) := by
    by_cases k : n % 13 = 1
    · refine ⟨coldR rows, l ++ [rows], T.cold, fun r hr => ?_, by simp, t4t k hl⟩
      rcases List.mem_append.mp hr with h | h
      · exact hT r h
      · rw [List.mem_singleton.mp h]; exact T
    · exact ⟨rows, l, T, hT, by omega, t4f k⟩
  have e5 := t5 (S := .nd (.lst .bor) (ns.map D.int)) (N := .nd (.lst .own) (names.map D.str)) (o := kD .own r1) (p := pastD l1) (x4 := some (.int j)) (d := dn .own r1) (B := B) (x7 := some (.int n)) (x8 := some nm) (x10 := x10) (x11 := x11) ka
  obtain ⟨w, ew, vd⟩ := vd_eq (g := .bor) T1.ok.len kn.el kn.fz ka
  have e6 := t5b (S := .nd (.lst .bor) (ns.map D.int)) (N := .nd (.lst .own) (names.map D.str)) (p := pastD l1) (x4 := some (.int j)) (d := dn .own r1) (B := B) (x7 := some (.int n)) (x10 := some (hn2 av)) (x11 := x11) kn.fz za ew
  obtain ⟨_, kh, _⟩ := hn2_arg ka
  have fin : ∀ (r2 : List Rw), TOk r2 → (sSeq st_law_6 (sSeq st_law_7 (sSeq st_law_8 st_law_9)) (LW (.nd (.lst .bor) (ns.map D.int)) (.nd (.lst .own) (names.map D.str)) (kD .own r1) (pastD l1) (some (.int j)) (dn .own r1) B (some (.int n)) (some nm) (some av) (some (hn2 av)) (some (.str w)))) = (sSeq st_law_7 (sSeq st_law_8 st_law_9)) (LW (.nd (.lst .bor) (ns.map D.int)) (.nd (.lst .own) (names.map D.str)) (kD .own r1) (pastD l1) (some (.int j)) (dn .own r2) B (some (.int n)) (some nm) (some av) (some (hn2 av)) (some (.str w))) →
      (∀ z, st_law_8 (LW (.nd (.lst .bor) (ns.map D.int)) (.nd (.lst .own) (names.map D.str)) (kD .own r1) (pastD l1) (some (.int j)) (dn .own r2) B (some (.int n)) (some nm) (some av) (some z) (some (.str w))) = some (.nx, LW (.nd (.lst .bor) (ns.map D.int)) (.nd (.lst .own) (names.map D.str)) (kD .own r2) (pastD l1) (some (.int j)) (dn .own r2) B (some (.int n)) (some nm) (some av) (some z) (some (.str w)))) →
      ∃ rows' l' y7 y8 y9 y10 y11, TOk rows' ∧ (∀ r ∈ l', TOk r) ∧ l'.length ≤ l.length + 1 ∧ lb_law_1 (LW (.nd (.lst .bor) (ns.map D.int)) (.nd (.lst .own) (names.map D.str)) (kD .own rows) (pastD l) (some (.int j)) (dn .own rows) B x7 x8 x9 x10 x11) =
      some (.nx, LW (.nd (.lst .bor) (ns.map D.int)) (.nd (.lst .own) (names.map D.str)) (kD .own rows') (pastD l') (some (.int j)) (dn .own rows') B y7 y8 y9 y10 y11) := fun r2 T2 h6 h8 => by
    obtain ⟨z, e7⟩ := t7 (S := .nd (.lst .bor) (ns.map D.int)) (N := .nd (.lst .own) (names.map D.str)) (o := kD .own r1) (p := pastD l1) (x4 := some (.int j)) (d := dn .own r2) (B := B) (x7 := some (.int n)) (x8 := some nm) (x9 := some av) (x11 := some (.str w)) ka
    have e9 := t9 (S := .nd (.lst .bor) (ns.map D.int)) (p := pastD l1) (x4 := some (.int j)) (B := B) (x8 := some nm) (x9 := some av) (x10 := some z) (x11 := some (.str w)) hn P T2
    refine ⟨r2, l1, some (.int n), some nm, some av, some z, some (.str w), T2, hT1, hl1, ?_⟩
    unfold lb_law_1
    rw [sSeq_nx e1, sSeq_nx e2, sSeq_nx e3, sSeq_nx e4, sSeq_nx e5, sSeq_nx e6, h6, sSeq_nx e7, sSeq_nx (h8 z)]
    exact e9
  cases vd with
  | @good s a e hs hnn hr ea hla h6 q =>
    have qp := law_put_good q kn.fz kh
    have e7 := t6 (S := .nd (.lst .bor) (ns.map D.int)) (N := .nd (.lst .own) (names.map D.str)) (o := kD .own r1) (p := pastD l1) (x4 := some (.int j)) (B := B) (x7 := some (.int n)) kn.fz ka .non (r1 ++ [(s, a, true)]) qp rfl word_none
    refine fin (r1 ++ [(s, a, true)]) (T1.put hs (k9 s e hs) hnn hr hla h6) (sSeq_nx e7) fun z => ?_
    subst e
    subst ea
    exact t8g hnn T1.ok.len
  | @bad w c hw hc hx q =>
    have qp := law_put_bad hx q kn.fz kh
    have e7 := t6 (S := .nd (.lst .bor) (ns.map D.int)) (N := .nd (.lst .own) (names.map D.str)) (o := kD .own r1) (p := pastD l1) (x4 := some (.int j)) (B := B) (x7 := some (.int n)) kn.fz ka (.nd (.exc .frz c []) []) r1 qp rfl hc
    exact fin r1 T1 (sSeq_nx e7) fun z => t8b hw
end OB

namespace OB
open PySem PySem.Spec PyProof.Rows L2 PySem.NumText PySem.StrLaws Builtin.Str
def dp : Nat → D
  | 0 => .nd (.lst .frz) []
  | n + 1 => .nd (.lst .frz) [dp n]
theorem dp_fz : ∀ n, Fz (dp n)
  | 0 => fun g hg => by unfold dp; simp [hg]
  | n + 1 => fun g hg => by
    have := dp_fz n g hg
    unfold dp
    rw [mapF_lst, hg, List.map_cons, this, List.map_nil]
def sl3 : Nat → D
  | 0 => .nd (.lst .frz) []
  | n + 1 => .nd (.lst .own) [dp n]
theorem sl3_frz (n : Nat) : toFrz (sl3 n) = dp n := by
  cases n with
  | zero => unfold sl3 dp; simp
  | succ n =>
    have := dp_fz n Fl.toFrz rfl
    show mapF Fl.toFrz (.nd (.lst .own) [dp n]) = .nd (.lst .frz) [dp n]
    rw [mapF_lst, List.map_cons, this, List.map_nil]
    rfl
theorem dp_noT : ∀ n, noT (dp n) = true
  | 0 => by unfold dp; simp
  | n + 1 => by unfold dp; rw [noT_lst, List.all_cons, dp_noT n]; rfl
abbrev DE (x0 : Option D) (x1 x2 : Option D) (d3 d4 : D) : En := [x0, x1, x2, some d3, some d4, none, none]
theorem deep_turn {x0 x1 x2 : Option D} {d4 : D} (n : Nat) : lb__law_deep_right_1 (DE x0 x1 x2 (sl3 n) d4) = some (.nx, DE x0 x1 x2 (sl3 (n + 1)) d4) := by
  have e1 : fzP 3 pHere (DE x0 x1 x2 (sl3 n) d4) = DE x0 x1 x2 (dp n) d4 := by
    rw [fzP_eq]
    have : subD (DE x0 x1 x2 (sl3 n) d4) 3 pHere = some (sl3 n, [], sl3 n) := by
      show (some []).bind (fun js => (getP (sl3 n) js).map fun d0 => (sl3 n, js, d0)) = _
      rw [Option.bind_some, getP_nil]
      rfl
    rw [this]
    dsimp only
    rw [putP_nil, sl3_frz]
    rfl
  unfold lb__law_deep_right_1
  rw [sFzP_eq, e1]
  have z := dp_fz n Fl.toTmp rfl
  simp [z, dp_noT n, sl3]
theorem deep_loop {d4 : D} : ∃ x0, lp__law_deep_right_1 (DE none none none (sl3 0) d4) = some (.nx, DE x0 none none (sl3 1200) d4) := by
  have ei : itR1 [eC (.int 1200)] (DE none none none (sl3 0) d4) = .ok (rngD 0 1200, true) := rfl
  have hl : (rngD 0 1200).length = 1200 := by unfold rngD; simp
  obtain ⟨ρ', e, x0, hρ⟩ := sFor_ok (tg := tgName 0) (b := lb__law_deep_right_1) ei (fun j ρ => ∃ x0, ρ = DE x0 none none (sl3 j) d4) ⟨none, rfl⟩ (fun j d ρ hd ⟨x0, hρ⟩ => by
    subst hρ
    exact ⟨_, _, rfl, deep_turn j, _, rfl⟩)
  rw [hl] at hρ
  exact ⟨x0, by rw [hρ] at e; exact e⟩
/-- the deep thing, forgotten -/
abbrev DP (b : Addr) : D := .nd (.lst .frz) [.nd (.adr .frz b) []]
theorem adr_el {b : Addr} {ds : List D} : El (.nd (.adr .frz b) ds) := .o rfl
theorem dp_el {b : Addr} : El (DP b) := .o rfl
theorem dp_z {b : Addr} {g : Fl → Fl} (hg : g .frz = .frz) : mapF g (DP b) = DP b := by
  simp [hg]
theorem a_nm : Nm "a" := nm_tx (l := [97]) (by decide) (by decide) (fun c hc => by
  have : c = 97 := by simpa using hc
  omega)
theorem b_nm : Nm "b" := nm_tx (l := [98]) (by decide) (by decide) (fun c hc => by
  have : c = 98 := by simpa using hc
  omega)
section
variable {nm av : D}
theorem putR_name (hn : El nm) (h : nmQ nm = false) (z : ∀ g : Fl → Fl, g .frz = .frz → g .bor = .bor → mapF g nm = nm) : m_Diners_put_diner_R [dn .frz [], nm, av] = .ex ⟨"BadName", none⟩ := by
  have e := is_name_el hn
  rw [h] at e
  unfold m_Diners_put_diner_R g_Diners_put_diner_R st_Diners_put_diner_R_1
  simp [z Fl.toTmp rfl rfl, z Fl.toArg rfl rfl, e]
theorem putR_av (hv : m_are_names [av] = .ok (.bl false)) (z : ∀ g : Fl → Fl, g .frz = .frz → g .bor = .bor → mapF g av = av) : m_Diners_put_diner_R [dn .frz [], .str "a", av] = .ex ⟨"BadName", none⟩ := by
  have e := is_name_el (nk_str (okS_lit "a")).el
  rw [nm_nmQ a_nm] at e
  unfold m_Diners_put_diner_R g_Diners_put_diner_R st_Diners_put_diner_R_1 st_Diners_put_diner_R_2 st_Diners_put_diner_R_3 st_Diners_put_diner_R_4
  simp [z Fl.toTmp rfl rfl, z Fl.toArg rfl rfl, e, hv]
theorem law_putR (zn : ∀ g : Fl → Fl, g .frz = .frz → g .bor = .bor → mapF g nm = nm) (zv : ∀ g : Fl → Fl, g .frz = .frz → g .bor = .bor → mapF g av = av) (q : m_Diners_put_diner_R [dn .frz [], nm, av] = .ex ⟨"BadName", none⟩) : m__law_put_R [dn .frz [], nm, av] = .ok (.nd (.exc .frz "BadName" []) []) := by
  unfold m__law_put_R g__law_put_R
  simp (decide := true) [zn Fl.toTmp rfl rfl, zn Fl.toArg rfl rfl, zv Fl.toTmp rfl rfl, zv Fl.toArg rfl rfl, q]
end
theorem noB_exc {c : Str} : noB (.nd (.exc .frz c []) []) = true := rfl
theorem put3 (b : Addr) : m__law_put_R [dn .frz [], DP b, .nd (.lst .bor) []] = .ok (.nd (.exc .frz "BadName" []) []) ∧ m__law_put_R [dn .frz [], .str "a", DP b] = .ok (.nd (.exc .frz "BadName" []) []) ∧ m__law_put_R [dn .frz [], .str "a", .nd (.lst .bor) [.str "b", DP b]] = .ok (.nd (.exc .frz "BadName" []) []) := by
  have a1 : m_are_names [DP b] = .ok (.bl false) := are_names_lst (f := .frz) (ds := [.nd (.adr .frz b) []]) (fun d hd => by rw [List.mem_singleton.mp hd]; exact adr_el) (by simp)
  have a2 : m_are_names [.nd (.lst .bor) [.str "b", DP b]] = .ok (.bl false) := by
    have := are_names_lst (f := .bor) (ds := [.str "b", DP b]) (fun d hd => by
      rcases (by simpa using hd : d = .str "b" ∨ d = DP b) with rfl | rfl
      · exact (nk_str (okS_lit "b")).el
      · exact dp_el) (by simp)
    rw [this]
    congr 2
  refine ⟨law_putR (fun g hg _ => dp_z hg) (fun g _ hb => by simp [hb]) (putR_name dp_el rfl fun g hg _ => dp_z hg), law_putR (fun _ _ _ => rfl) (fun g hg _ => dp_z hg) (putR_av a1 fun g hg _ => dp_z hg), law_putR (fun _ _ _ => rfl) (fun g hg hb => by simp [hg, hb]) (putR_av a2 fun g hg hb => by simp [hg, hb])⟩
end OB

namespace OB
open PySem PySem.Spec PyProof.Rows L2 PySem.NumText PySem.StrLaws Builtin.Str
theorem deep_1 : st__law_deep_right_1 [none, none, none, none, none, none, none] = some (.nx, DE none none none (sl3 0) (dn .frz [])) := rfl
section
variable {x0 : Option D} (b : Addr)
abbrev some3 (b : Addr) : D := .nd (.lst .own) [.nd .tup [DP b, .nd (.lst .own) []], .nd .tup [.str "a", DP b], .nd .tup [.str "a", .nd (.lst .own) [.str "b", DP b]]]
theorem deep_2 : st__law_deep_right_2 (DE x0 none none (DP b) (dn .frz [])) = some (.nx, DE x0 (some (some3 b)) none (DP b) (dn .frz [])) := by
  have n1 : noT (.nd (.adr .frz b) []) = true := rfl
  unfold st__law_deep_right_2
  simp [n1]
theorem deep_cp : cp__law_deep_right_1 (DE x0 (some (some3 b)) none (DP b) (dn .frz [])) = .ok (.nd (.lst .own) [.str "name", .str "name", .str "name"]) := by
  obtain ⟨p1, p2, p3⟩ := put3 b
  have w := word_name
  have ei : itV (eVar 1) (DE x0 (some (some3 b)) none (DP b) (dn .frz [])) = .ok ([.nd .tup [DP b, .nd (.lst .tmp) []], .nd .tup [.str "a", DP b], .nd .tup [.str "a", .nd (.lst .tmp) [.str "b", DP b]]], false) := by
    simp [itemsD]
  unfold cp__law_deep_right_1
  rw [eComp_eq, ei, Ot.bind_ok]
  have t : ∀ (u v : D) (ρ : En), tgTup [tgName 5, tgName 6] (.nd .tup [u, v]) ρ = some ((ρ.set 5 (some u)).set 6 (some v)) := fun _ _ _ => rfl
  have c : ∀ ρ, cYes ρ = .ok true := fun _ => rfl
  have e : compL (tgTup [tgName 5, tgName 6]) cYes ce__law_deep_right_1 (wipeE (DE x0 (some (some3 b)) none (DP b) (dn .frz [])) [5, 6]) [.nd .tup [DP b, .nd (.lst .tmp) []], .nd .tup [.str "a", DP b], .nd .tup [.str "a", .nd (.lst .tmp) [.str "b", DP b]]] = some [.str "name", .str "name", .str "name"] := by
    rw [compL_cons, t, Option.bind_some, c, compL_cons, t, Option.bind_some, c, compL_cons, t, Option.bind_some, c, compL_nil]
    unfold ce__law_deep_right_1
    simp [p1, p2, p3, w, noB_exc]
  dsimp only
  rw [e]
  exact if_pos (by decide)
theorem deep_3 : st__law_deep_right_3 (DE x0 (some (some3 b)) (some (.nd (.lst .own) [.str "name", .str "name", .str "name"])) (DP b) (dn .frz [])) = some (.ret (.bl true), DE x0 (some (some3 b)) (some (.nd (.lst .own) [.str "name", .str "name", .str "name"])) (DP b) (dn .frz [])) := by
  have q : pEq2 [DP b, DP b] = some (.bl true) := by
    simp [pEq2, eqX, atEq, deepEq, toPy, toPyL, dctEq, isBox, eqT]
  have n := none_there_odd (f := .frz) (rows := []) (d := DP b) (.inr rfl) rfl (fun g hg => dp_z hg) (by simp; rfl) rfl q ⟨_, rfl⟩
  have a := all_diners_eq (f := .frz) (rows := []) (.inr rfl)
  have m : pMul [.nd (.lst .own) [.str "name"], .int 3] = some (.nd (.lst .own) [.str "name", .str "name", .str "name"]) := rfl
  have o : ∀ s ∈ [(Str.ofString "name"), (Str.ofString "name"), (Str.ofString "name")], OkS s 13 := fun s hs => by
    have : s = Str.ofString "name" := by simpa using hs
    subst this
    exact okS_lit "name"
  have r : pEq [.nd (.lst .tmp) [.str "name", .str "name", .str "name"], .nd (.lst .own) [.str "name", .str "name", .str "name"]] = some (.bl true) := by
    have := deepEq_strs (f := .tmp) (g := .own) o o
    rw [eqvAll_refl] at this
    show ((none.or (deepEq (.nd (.lst .tmp) [.str "name", .str "name", .str "name"]) (.nd (.lst .own) [.str "name", .str "name", .str "name"]))).map D.bl) = _
    rw [show deepEq (.nd (.lst .tmp) [.str "name", .str "name", .str "name"]) (.nd (.lst .own) [.str "name", .str "name", .str "name"]) = some true from this]
    rfl
  unfold st__law_deep_right_3
  simp [m, r, n, a]
end
theorem dp_two : ∀ n, 2 ≤ n → ∃ ds, dp n = .nd (.lst .frz) [.nd (.lst .frz) ds]
  | 0, h => by omega
  | 1, h => by omega
  | n + 2, _ => ⟨_, rfl⟩
theorem fz3 {x0 x1 x2 : Option D} {d d4 : D} : fzE 3 (DE x0 x1 x2 d d4) = DE x0 x1 x2 (toFrz d) d4 := rfl
theorem deep_end {x0 : Option D} {d : D} {ds : List D} (hd : toFrz d = .nd (.lst .frz) [.nd (.lst .frz) ds]) : sFz 3 (sForget 3 sf__law_deep_right_1) (DE x0 none none d (dn .frz [])) = some (.ret (.bl true), List.replicate 7 none) := by
  rw [sFz_eq, fz3, hd]
  refine sForget_eq (ds := ds) rfl fun b => ?_
  have e2 : deepE (DE x0 none none (.nd (.lst .frz) [.nd (.lst .frz) ds]) (dn .frz [])) 3 b = DE x0 none none (DP b) (dn .frz []) := rfl
  rw [e2]
  unfold sf__law_deep_right_1
  rw [sSeq_nx (deep_2 b)]
  have e3 : sSet 2 cp__law_deep_right_1 (DE x0 (some (some3 b)) none (DP b) (dn .frz [])) = some (.nx, DE x0 (some (some3 b)) (some (.nd (.lst .own) [.str "name", .str "name", .str "name"])) (DP b) (dn .frz [])) := by
    rw [sSet_eq, deep_cp]
    rfl
  rw [sSeq_nx e3, deep_3]
  rfl
theorem bodyM_ret {n : Nat} {g : Mst} {ds : List D} {d : D} {ρ : En} (h : g (initE n ds) = some (.ret d, ρ)) : bodyM n g ds = .ok d := by rw [bodyM_eq, h]
theorem seq3 {a b c : Mst} {ρ ρ1 ρ2 : En} {r : Option (Out × En)} (h1 : a ρ = some (.nx, ρ1)) (h2 : b ρ1 = some (.nx, ρ2)) (h3 : c ρ2 = r) : sSeq a (sSeq b c) ρ = r := by rw [sSeq_nx h1, sSeq_nx h2, h3]
theorem deep_g {x0 : Option D} {d : D} {ds : List D} (e : lp__law_deep_right_1 (DE none none none (sl3 0) (dn .frz [])) = some (.nx, DE x0 none none d (dn .frz []))) (hd : toFrz d = .nd (.lst .frz) [.nd (.lst .frz) ds]) : sSeq st__law_deep_right_1 (sSeq lp__law_deep_right_1 (sFz 3 (sForget 3 sf__law_deep_right_1))) (initE 7 []) = some (.ret (.bl true), List.replicate 7 none) := seq3 deep_1 e (deep_end hd)
theorem deep_body {x0 : Option D} {d : D} {ds : List D} (e : lp__law_deep_right_1 (DE none none none (sl3 0) (dn .frz [])) = some (.nx, DE x0 none none d (dn .frz []))) (hd : toFrz d = .nd (.lst .frz) [.nd (.lst .frz) ds]) : m__law_deep_right [] = .ok (.bl true) := bodyM_ret (g := g__law_deep_right) (deep_g e hd)
theorem deep_right_eq : m__law_deep_right [] = .ok (.bl true) := by
  obtain ⟨x0, e⟩ := deep_loop (d4 := dn .frz [])
  obtain ⟨ds, hd⟩ := dp_two 1200 (by decide)
  exact deep_body e ((sl3_frz 1200).trans hd)
end OB

namespace OB
open PySem PySem.Spec PyProof.Rows L2 PySem.NumText PySem.StrLaws Builtin.Str
theorem dn_cold {r : List Rw} : dn .frz r = dn .frz (coldR r) := by
  have h1 : valR .frz r = valR .frz (coldR r) := by
    unfold valR coldR
    rw [List.map_map]
    apply List.map_congr_left
    intro x _
    show D.nd (.lst (fi .frz x.2.2)) _ = .nd (.lst (fi .frz false)) _
    have : ∀ b, fi .frz b = .frz := fun b => by cases b <;> rfl
    rw [this, this]
  unfold dn kD
  rw [h1, valR_frz.2]
section
variable {S N o p d B : D} {x4 x7 x8 x9 x10 x11 : Option D} {rows : List Rw} {names : List Str} {l : List (List Rw)}
theorem loop_eq {ns : List Int} (hl : ns.length ≤ 63) (P : Pool names) :
    ∃ rows l x4 x7 x8 x9 x10 x11, TOk rows ∧ (∀ r ∈ l, TOk r) ∧ lp_law_1 (LW (.nd (.lst .bor) (ns.map D.int)) (.nd (.lst .own) (names.map D.str)) (kD .own []) (pastD []) none (dn .own []) B none none none none none) =
      some (.nx, LW (.nd (.lst .bor) (ns.map D.int)) (.nd (.lst .own) (names.map D.str)) (kD .own rows) (pastD l) x4 (dn .own rows) B x7 x8 x9 x10 x11) := by
  have mi : ∀ g : Fl → Fl, (ns.map D.int).map (mapF g) = ns.map D.int := fun g => by rw [List.map_map]; rfl
  have hm : pMin [.int 63, .int (ns.length : Int)] = some (.int (ns.length : Int)) := by
    unfold pMin
    have h1 : (ns.length : Int) ≤ 63 := by omega
    by_cases h2 : (ns.length : Int) = 63
    · simp [h2]
    · have h3 : (ns.length : Int) < 63 := by omega
      simp [h1, h3]
      try omega
  have ei : itR1 [ePr pMin [eC (.int 63), ePr pLen [eVar 0]]] (LW (.nd (.lst .bor) (ns.map D.int)) (.nd (.lst .own) (names.map D.str)) (kD .own []) (pastD []) none (dn .own []) B none none none none none) = .ok (rngD 0 (ns.length : Int), true) := by
    have e : eL [ePr pMin [eC (.int 63), ePr pLen [eVar 0]]] (LW (.nd (.lst .bor) (ns.map D.int)) (.nd (.lst .own) (names.map D.str)) (kD .own []) (pastD []) none (dn .own []) B none none none none none) = .ok [.int (ns.length : Int)] := by
      simp [mi, hm]
    unfold itR1
    rw [e, Ot.bind_ok]
    exact if_pos (rng_nat (show ns.length ≤ 2000 by omega))
  have t0 : TOk [] := ⟨⟨List.nodup_nil, by decide, (fun _ h => nomatch h), (fun _ h => nomatch h), (fun _ h => nomatch h)⟩, fun _ h => nomatch h⟩
  obtain ⟨ρ', e, rows, l, x4, x7, x8, x9, x10, x11, T, hT, _, hρ⟩ := sFor_ok (tg := tgName 4) (b := lb_law_1) ei
    (fun j ρ => ∃ rows l x4 x7 x8 x9 x10 x11, TOk rows ∧ (∀ r ∈ l, TOk r) ∧ l.length ≤ j ∧ ρ = LW (.nd (.lst .bor) (ns.map D.int)) (.nd (.lst .own) (names.map D.str)) (kD .own rows) (pastD l) x4 (dn .own rows) B x7 x8 x9 x10 x11)
    ⟨[], [], none, none, none, none, none, none, t0, (fun _ h => nomatch h), Nat.le_refl _, rfl⟩ (fun j dd ρ hd ⟨rows, l, x4, x7, x8, x9, x10, x11, T, hT, hj, hρ⟩ => by
    subst hρ
    obtain ⟨hj2, rfl⟩ := range8 hd
    obtain ⟨rows', l', y7, y8, y9, y10, y11, T', hT', hl', e⟩ := turn_eq (B := B) (ns := ns) (j := j) (x7 := x7) (x8 := x8) (x9 := x9) (x10 := x10) (x11 := x11) (by omega) P T hT (by omega)
    exact ⟨_, _, rfl, e, rows', l', _, y7, y8, y9, y10, y11, T', hT', by omega, rfl⟩)
  subst hρ
  exact ⟨rows, l, x4, x7, x8, x9, x10, x11, T, hT, e⟩
abbrev LW2 (S N o p : D) (x4 : Option D) (d B : D) (x7 x8 x9 x10 x11 y z : Option D) : En := [some S, some N, some o, some p, x4, some d, some B, x7, x8, x9, x10, x11, y, z]
theorem past_eq (hT : ∀ r ∈ l, TOk r) : ∃ p' y z, lp_law_2 (LW S N o (pastD l) x4 d B x7 x8 x9 x10 x11) = some (.nx, LW2 S N o p' x4 d B x7 x8 x9 x10 x11 y z) := by
  have fz : ∀ g : Fl → Fl, g .frz = .frz → mapF g (.nd (.lst .frz) (l.map (paE fun _ => .frz))) = .nd (.lst .frz) (l.map (paE fun _ => .frz)) := fun g hg => by
    rw [mapF_lst, hg, List.map_map]
    congr 1
    apply List.map_congr_left
    intro r _
    show mapF g (.nd .tup [dn .frz r, kD .frz (coldR r)]) = .nd .tup [dn .frz r, kD .frz (coldR r)]
    rw [mapF_tup]
    show D.nd .tup [mapF g (dn .frz r), mapF g (kD .frz (coldR r))] = _
    rw [mapF_dn hg, mapF_kD hg, hg]
  have z1 : fzE 3 (LW S N o (pastD l) x4 d B x7 x8 x9 x10 x11) = LW S N o (.nd (.lst .frz) (l.map (paE fun _ => .frz))) x4 d B x7 x8 x9 x10 x11 := by
    have : toFrz (pastD l) = .nd (.lst .frz) (l.map (paE fun _ => .frz)) := by
      unfold pastD
      rw [toFrzD_eq, mapF_lst, List.map_map]
      congr 1
      apply List.map_congr_left
      intro r _
      show mapF Fl.toFrz (.nd .tup [dn .frz r, kD .own (coldR r)]) = .nd .tup [dn .frz r, kD .frz (coldR r)]
      rw [mapF_tup]
      show D.nd .tup [mapF Fl.toFrz (dn .frz r), mapF Fl.toFrz (kD .own (coldR r))] = _
      rw [mapF_dn_toFrz, mapF_kD_toFrz]
      rfl
    show List.set _ 3 (some (toFrz (pastD l))) = _
    rw [this]
    rfl
  have ei : itV (eVar 3) (LW S N o (.nd (.lst .frz) (l.map (paE fun _ => .frz))) x4 d B x7 x8 x9 x10 x11) = .ok (l.map (paE fun _ => .frz), true) := by
    have f1 := fz Fl.toTmp rfl
    have f2 := fz Fl.toFrz rfl
    rw [mapF_lst] at f1 f2
    have g1 : (l.map (paE fun _ => .frz)).map (mapF Fl.toFrz) = l.map (paE fun _ => .frz) := by injection f2
    have g2 : (l.map (paE fun _ => .frz)).map (mapF Fl.toTmp) = l.map (paE fun _ => .frz) := by injection f1
    have g3 : (l.map (paE fun _ => .frz)).all noT = true := by
      rw [List.all_eq_true]
      intro x hx
      obtain ⟨r, _, rfl⟩ := List.mem_map.mp hx
      exact pa_noT noT_dnf noT_kDf
    generalize l.map (paE fun _ => .frz) = L at g1 g2 g3
    have g1' : L.map toFrz = L := g1
    simp [g2, g1', g3, itemsD]
  obtain ⟨ρ', e, y, z, hρ⟩ := sFor_ok (tg := tgTup [tgName 12, tgName 13]) (b := lb_law_2) ei (fun j ρ => ∃ y z, ρ = LW2 S N o (.nd (.lst .frz) (l.map (paE fun _ => .frz))) x4 d B x7 x8 x9 x10 x11 y z) ⟨none, none, rfl⟩ (fun j dd ρ hd ⟨y, z, hρ⟩ => by
    subst hρ
    rw [List.getElem?_map] at hd
    cases hr : l[j]? with
    | none => rw [hr] at hd; cases hd
    | some r =>
      rw [hr] at hd
      cases hd
      have T := (hT r (List.mem_of_getElem? hr)).cold
      have es := stands_eq (f := .frz) (g := .frz) (.inr rfl) (.inr rfl) T.ok
      rw [← dn_cold] at es
      refine ⟨LW2 S N o (.nd (.lst .frz) (l.map (paE fun _ => .frz))) x4 d B x7 x8 x9 x10 x11 (some (dn .frz r)) (some (kD .frz (coldR r))), LW2 S N o (.nd (.lst .frz) (l.map (paE fun _ => .frz))) x4 d B x7 x8 x9 x10 x11 (some (dn .frz r)) (some (kD .frz (coldR r))), rfl, ?_, some (dn .frz r), some (kD .frz (coldR r)), rfl⟩
      unfold lb_law_2
      simp [es])
  subst hρ
  refine ⟨.nd (.lst .frz) (l.map (paE fun _ => .frz)), y, z, ?_⟩
  unfold lp_law_2
  rw [sFz_eq, z1]
  exact e
end
end OB

namespace OB
open PySem PySem.Spec PyProof.Rows L2 PySem.NumText PySem.StrLaws Builtin.Str
theorem if_call0 {m : List D → Ot D} {u : Mst} {ρ : En} (h : m [] = .ok (.bl true)) : sIf (bNot (eT (eCall0 m []))) u sNil ρ = some (.nx, ρ) := by
  simp [h]
theorem seq9 {a b c d e f g h i : Mst} {r0 r1 r2 r3 r4 r5 r6 r7 r8 : En} {r : Option (Out × En)} (h0 : a r0 = some (.nx, r1)) (h1 : b r1 = some (.nx, r2)) (h2 : c r2 = some (.nx, r3)) (h3 : d r3 = some (.nx, r4)) (h4 : e r4 = some (.nx, r5)) (h5 : f r5 = some (.nx, r6)) (h6 : g r6 = some (.nx, r7)) (h7 : h r7 = some (.nx, r8)) (h8 : i r8 = r) : sSeq a (sSeq b (sSeq c (sSeq d (sSeq e (sSeq f (sSeq g (sSeq h i))))))) r0 = r := by
  rw [sSeq_nx h0, sSeq_nx h1, sSeq_nx h2, sSeq_nx h3, sSeq_nx h4, sSeq_nx h5, sSeq_nx h6, sSeq_nx h7, h8]
section
variable {S N o p d B : D} {x4 x7 x8 x9 x10 x11 y z : Option D} {rows : List Rw} {names : List Str}
theorem l11 {ns : List Int} : ∃ names, Pool names ∧ st_law_11 [some (.nd (.lst .bor) (ns.map D.int)), none, none, none, none, none, none, none, none, none, none, none, none, none] = some (.nx, [some (.nd (.lst .bor) (ns.map D.int)), some (.nd (.lst .own) (names.map D.str)), none, none, none, none, none, none, none, none, none, none, none, none]) := by
  haveI : Bd (0 : Int) 20 := ⟨by decide⟩
  obtain ⟨n, hn, e⟩ := number_eq ns 0 (by decide)
  obtain ⟨names, e2, P⟩ := names_eq hn.1 hn.2
  have mi : ∀ g : Fl → Fl, (ns.map D.int).map (mapF g) = ns.map D.int := fun g => by rw [List.map_map]; rfl
  refine ⟨names, P, ?_⟩
  unfold st_law_11
  simp [mi, e, e2]
theorem l12 : st_law_12 [some S, some N, none, none, none, none, none, none, none, none, none, none, none, none] = some (.nx, [some S, some N, none, none, none, some (dn .own []), some (dn .own []), none, none, none, none, none, none, none]) := by
  have em : ∀ ρ : En, eMake "Diners" m_Diners___init__ [] [] ρ = .ok (dn .own []) := fun ρ => make_eq
  unfold st_law_12
  simp (decide := true) [-eMake_eq, em]
theorem l2 : sSet 2 (eC (.nd (.dct .own []) [])) [some S, some N, none, none, none, some d, some B, none, none, none, none, none, none, none] = some (.nx, [some S, some N, some (kD .own []), none, none, some d, some B, none, none, none, none, none, none, none]) := by
  simp
  rfl
theorem l3 : sSet 3 (ePr pLst []) [some S, some N, some o, none, none, some d, some B, none, none, none, none, none, none, none] = some (.nx, LW S N o (pastD []) none d B none none none none none) := by
  simp [pastD]
theorem l13 (P : Pool names) : st_law_13 (LW2 S (.nd (.lst .own) (names.map D.str)) o p x4 d (dn .own []) x7 x8 x9 x10 x11 y z) = some (.nx, LW2 S (.nd (.lst .own) (names.map D.str)) o p x4 d (dn .own []) x7 x8 x9 x10 x11 y z) := by
  have r0 : RwOk [] := ⟨List.nodup_nil, by decide, (fun _ h => nomatch h), (fun _ h => nomatch h), (fun _ h => nomatch h)⟩
  have e1 : m__law_stands [dn .bor [], .nd (.dct .frz []) []] = .ok (.bl true) := stands_eq (f := .bor) (g := .frz) (.inl rfl) (.inr rfl) r0
  have hl := P.len
  cases names with
  | nil => cases hl
  | cons x xs =>
    have e2 := none_there_str (f := .bor) (n := x) (rows := []) (.inl rfl) (fun h => nomatch h)
    unfold st_law_13
    simp [e1, e2, mstr]
theorem l14 (T : TOk rows) : st_law_14 (LW2 S N (kD .own rows) p x4 (dn .own rows) B x7 x8 x9 x10 x11 y z) = some (.ret (.bl true), LW2 S N (kD .own rows) p x4 (dn .own rows) B x7 x8 x9 x10 x11 y z) := by
  have e1 := stands_eq (f := .bor) (g := .bor) (.inl rfl) (.inl rfl) T.ok
  have e2 := none_there_str (f := .bor) (.inl rfl) (zz_no T.h9)
  unfold st_law_14
  simp [e1, e2]
end
theorem law_is (ns : List Int) (hl : ns.length ≤ 63) (hb : ∀ z ∈ ns, Builtin.Int.intBits z ≤ 1048576) : m_law [.nd (.lst .bor) (ns.map .int)] = .ok (.bl true) := by
  obtain ⟨names, P, e11⟩ := l11 (ns := ns)
  obtain ⟨rows, l, x4, x7, x8, x9, x10, x11, T, hT, el⟩ := loop_eq (B := dn .own []) hl P
  obtain ⟨p', y, z, ep⟩ := past_eq (S := .nd (.lst .bor) (ns.map D.int)) (N := .nd (.lst .own) (names.map D.str)) (o := kD .own rows) (d := dn .own rows) (B := dn .own []) (x4 := x4) (x7 := x7) (x8 := x8) (x9 := x9) (x10 := x10) (x11 := x11) hT
  have h10 : st_law_10 [some (.nd (.lst .bor) (ns.map D.int)), none, none, none, none, none, none, none, none, none, none, none, none, none] = some (.nx, [some (.nd (.lst .bor) (ns.map D.int)), none, none, none, none, none, none, none, none, none, none, none, none, none]) := if_call0 deep_right_eq
  exact bodyM_ret (n := 14) (g := g_law) (seq9 h10 e11 l12 l2 l3 el ep (l13 P) (l14 T))
end OB

namespace OB
open PySem PySem.Spec PyProof.Rows L2
def d_NoDiner___init__ : He.DefD := ⟨("NoDiner", some "__init__"), "__init__", "NoDiner.__init__", defArgs s_NoDiner___init__, defBody s_NoDiner___init__, defScope s_NoDiner___init__, [], []⟩
def d_Diners___init__ : He.DefD := ⟨("Diners", some "__init__"), "__init__", "Diners.__init__", defArgs s_Diners___init__, defBody s_Diners___init__, defScope s_Diners___init__, [], []⟩
def d__law_word : He.DefD := ⟨("_law_word", none), "_law_word", "_law_word", defArgs s__law_word, defBody s__law_word, defScope s__law_word, [], []⟩
def d_are_signs : He.DefD := ⟨("are_signs", none), "are_signs", "are_signs", defArgs s_are_signs, defBody s_are_signs, defScope s_are_signs, [], []⟩
def d_is_name : He.DefD := ⟨("is_name", none), "is_name", "is_name", defArgs s_is_name, defBody s_is_name, defScope s_is_name, [], []⟩
def d_are_names : He.DefD := ⟨("are_names", none), "are_names", "are_names", defArgs s_are_names, defBody s_are_names, defScope s_are_names, [], []⟩
def d_Diners_put_diner : He.DefD := ⟨("Diners", some "put_diner"), "put_diner", "Diners.put_diner", defArgs s_Diners_put_diner_R, defBody s_Diners_put_diner_R, defScope s_Diners_put_diner_R, [], []⟩
def d__law_put : He.DefD := ⟨("_law_put", none), "_law_put", "_law_put", defArgs s__law_put_R, defBody s__law_put_R, defScope s__law_put_R, [], []⟩
def d_Diners_avoids_of : He.DefD := ⟨("Diners", some "avoids_of"), "avoids_of", "Diners.avoids_of", defArgs s_Diners_avoids_of, defBody s_Diners_avoids_of, defScope s_Diners_avoids_of, [], []⟩
def d__law_none_there : He.DefD := ⟨("_law_none_there", none), "_law_none_there", "_law_none_there", defArgs s__law_none_there, defBody s__law_none_there, defScope s__law_none_there, [], []⟩
def d_Diners_all_diners : He.DefD := ⟨("Diners", some "all_diners"), "all_diners", "Diners.all_diners", defArgs s_Diners_all_diners, defBody s_Diners_all_diners, defScope s_Diners_all_diners, [], []⟩
def d__law_deep_right : He.DefD := ⟨("_law_deep_right", none), "_law_deep_right", "_law_deep_right", defArgs s__law_deep_right, defBody s__law_deep_right, defScope s__law_deep_right, [], []⟩
def d__law_names : He.DefD := ⟨("_law_names", none), "_law_names", "_law_names", defArgs s__law_names, defBody s__law_names, defScope s__law_names, [], []⟩
def d__law_number : He.DefD := ⟨("_law_number", none), "_law_number", "_law_number", defArgs s__law_number, defBody s__law_number, defScope s__law_number, [], []⟩
def d__law_name : He.DefD := ⟨("_law_name", none), "_law_name", "_law_name", defArgs s__law_name, defBody s__law_name, defScope s__law_name, [], []⟩
def d__law_avoids : He.DefD := ⟨("_law_avoids", none), "_law_avoids", "_law_avoids", defArgs s__law_avoids, defBody s__law_avoids, defScope s__law_avoids, [], []⟩
def d_Diners_copied : He.DefD := ⟨("Diners", some "copied"), "copied", "Diners.copied", defArgs s_Diners_copied, defBody s_Diners_copied, defScope s_Diners_copied, [], []⟩
def d__law_is_name : He.DefD := ⟨("_law_is_name", none), "_law_is_name", "_law_is_name", defArgs s__law_is_name, defBody s__law_is_name, defScope s__law_is_name, [], []⟩
def d__law_due : He.DefD := ⟨("_law_due", none), "_law_due", "_law_due", defArgs s__law_due, defBody s__law_due, defScope s__law_due, [], []⟩
def d__law_stands : He.DefD := ⟨("_law_stands", none), "_law_stands", "_law_stands", defArgs s__law_stands, defBody s__law_stands, defScope s__law_stands, [], []⟩
def d__law_odd_diner : He.DefD := ⟨("_law_odd_diner", none), "_law_odd_diner", "_law_odd_diner", defArgs s__law_odd_diner, defBody s__law_odd_diner, defScope s__law_odd_diner, [], []⟩
def d_law : He.DefD := ⟨("law", none), "law", "law", defArgs s_law, defBody s_law, defScope s_law, [], []⟩
def fnL : List He.DefD := [d_NoDiner___init__, d_Diners___init__, d__law_word, d_are_signs, d_is_name, d_are_names, d_Diners_put_diner, d__law_put, d_Diners_avoids_of, d__law_none_there, d_Diners_all_diners, d__law_deep_right, d__law_names, d__law_number, d__law_name, d__law_avoids, d_Diners_copied, d__law_is_name, d__law_due, d__law_stands, d__law_odd_diner, d_law]
def faL : List He.Fa := [.int "MOST_LETTERS" 12, .str "LETTERS" "abcdefghijklmnopqrstuvwxyz", .int "MOST_DINERS" 6, .int "MOST_AVOIDED" 6, .free "isinstance", .free "sorted", .free "len", .free "ValueError", .free "all", .free "str", .free "list", .free "set", .free "bool", .free "range", .free "tuple", .free "dict", .free "min", .cls "Diners", .noat "Diners" "known", .glo "BadName", .glo "Twice", .glo "TooMany", .glo "NoDiner", .glo "BadAmount", .glo "BadDay", .glo "BadLine", .glo "BadWish", .glo "FromNothing", .glo "Lacking", .glo "NoDeed", .glo "NoGood", .glo "NoMeasure", .glo "NoRecipe", .glo "NoSwap", .glo "LarderError", .exc "BadName", .exc "Twice", .exc "TooMany", .exm "BadName" "LarderError" true, .exm "NoDiner" "LarderError" true, .exm "TooMany" "LarderError" true, .exm "Twice" "LarderError" true, .glo "law", .meth "NoDiner" "__init__", .glo "Diners", .mkr "Diners", .glo "_law_word", .glo "are_signs", .glo "is_name", .glo "are_names", .meth "Diners" "put_diner", .glo "_law_put", .meth "Diners" "avoids_of", .glo "_law_none_there", .meth "Diners" "all_diners", .glo "_law_deep_right", .glo "_law_names", .glo "_law_number", .glo "_law_name", .glo "_law_avoids", .meth "Diners" "copied", .glo "_law_is_name", .glo "_law_due", .glo "_law_stands", .glo "_law_odd_diner"]
def xsL : List (PySem.W.Frag → Bool) := [baseB "LarderError", kitC "BadName" "BadName" true, xciB "BadName", kitC "NoDiner" "BadName" false, xciB "NoDiner", kitC "TooMany" "BadName" false, xciB "TooMany", kitC "Twice" "BadName" false, xciB "Twice", kitB "NoneType" "BadName" false, kitC "BadName" "Twice" false, kitC "NoDiner" "Twice" false, kitC "TooMany" "Twice" false, kitC "Twice" "Twice" true, kitB "NoneType" "Twice" false, kitC "BadName" "TooMany" false, kitC "NoDiner" "TooMany" false, kitC "TooMany" "TooMany" true, kitC "Twice" "TooMany" false, kitB "NoneType" "TooMany" false, kitC "BadName" "NoDiner" false, kitC "NoDiner" "NoDiner" true, kitC "TooMany" "NoDiner" false, kitC "Twice" "NoDiner" false, kitB "NoneType" "NoDiner" false, kitC "BadName" "BadAmount" false, kitC "NoDiner" "BadAmount" false, kitC "TooMany" "BadAmount" false, kitC "Twice" "BadAmount" false, kitB "NoneType" "BadAmount" false, kitC "BadName" "BadDay" false, kitC "NoDiner" "BadDay" false, kitC "TooMany" "BadDay" false, kitC "Twice" "BadDay" false, kitB "NoneType" "BadDay" false, kitC "BadName" "BadLine" false, kitC "NoDiner" "BadLine" false, kitC "TooMany" "BadLine" false, kitC "Twice" "BadLine" false, kitB "NoneType" "BadLine" false, kitC "BadName" "BadWish" false, kitC "NoDiner" "BadWish" false, kitC "TooMany" "BadWish" false, kitC "Twice" "BadWish" false, kitB "NoneType" "BadWish" false, kitC "BadName" "FromNothing" false, kitC "NoDiner" "FromNothing" false, kitC "TooMany" "FromNothing" false, kitC "Twice" "FromNothing" false, kitB "NoneType" "FromNothing" false, kitC "BadName" "Lacking" false, kitC "NoDiner" "Lacking" false, kitC "TooMany" "Lacking" false, kitC "Twice" "Lacking" false, kitB "NoneType" "Lacking" false, kitC "BadName" "NoDeed" false, kitC "NoDiner" "NoDeed" false, kitC "TooMany" "NoDeed" false, kitC "Twice" "NoDeed" false, kitB "NoneType" "NoDeed" false, kitC "BadName" "NoGood" false, kitC "NoDiner" "NoGood" false, kitC "TooMany" "NoGood" false, kitC "Twice" "NoGood" false, kitB "NoneType" "NoGood" false, kitC "BadName" "NoMeasure" false, kitC "NoDiner" "NoMeasure" false, kitC "TooMany" "NoMeasure" false, kitC "Twice" "NoMeasure" false, kitB "NoneType" "NoMeasure" false, kitC "BadName" "NoRecipe" false, kitC "NoDiner" "NoRecipe" false, kitC "TooMany" "NoRecipe" false, kitC "Twice" "NoRecipe" false, kitB "NoneType" "NoRecipe" false, kitC "BadName" "NoSwap" false, kitC "NoDiner" "NoSwap" false, kitC "TooMany" "NoSwap" false, kitC "Twice" "NoSwap" false, kitB "NoneType" "NoSwap" false, kitV "BadName" "ValueError" true, kitV "NoDiner" "ValueError" true, kitV "TooMany" "ValueError" true, kitV "Twice" "ValueError" true, noaB "NoDiner" "name", oexF "NoDiner"]
abbrev RR : PySem.W.OpenRow := PySem.W.OpenLaw.row PySem.Challenge.rw_larderwise_k23_diners_by_deeds
abbrev hk : PySem.W.Hook := hookY 6 xsL faL fnL
def obK (s : PySem.W.SharedT) : He.AlD := obsY 6 xsL faL fnL (HandSHeadRun.getT s)
theorem obK_eq (s : PySem.W.SharedT) : obK s = hk.obs s.abs := obsY_eq (HandSHeadRun.getT_eq s)
def looseL : List PySem.Str := (["LarderError", "BadName", "Twice", "TooMany", "BadAmount", "BadDay", "NoDeed", "NoGood", "NoMeasure", "NoRecipe", "NoDiner", "Lacking", "NoSwap", "FromNothing", "BadLine", "BadWish", "LETTERS", "MOST_LETTERS", "are_signs", "is_name", "MOST_DINERS", "MOST_AVOIDED", "are_names", "Diners", "_law_number", "_law_names", "_law_word", "_law_is_name", "_law_due", "_law_avoids"] : List PySem.Str) ++ (["_law_name", "_law_put", "_law_none_there", "_law_stands", "_law_odd_diner", "_law_deep_right"] : List PySem.Str)
theorem runK (w : World) : HandSHeadRun.RunEq RR (PySem.W.view RR.prog [40]) hk obK 40000 looseL w := by
  intro os
  kernel_rfl
theorem factsK {w : World} {K : PySem.W.Frag} {h : Heap} {mg : Str → Option Value} {f : Addr} (X : K.In h) (G : h.Ns mainGlobals mg) (hfa : mg ("law" : Str) = some (.ref f)) (cz : SaysY xsL faL fnL K) :
    ∃ fd : FuncData, (∀ (s : Shared) (v : Value), BindsTo s fd ⟨[v], []⟩ [("_law_script", v)]) ∧ ∀ base : Heap, K.In base → base.Ns mainGlobals mg → FnOk P0 w K mg base (L2.CX P0 w) 7 f fd ["_law_script"] (spP K (He.ga K) 1 m_law) := by
  have c := cz.z.c
  have T : Txt K mg (He.ga K) := ⟨He.int_ok X G (c.fact 0 rfl), He.str_ok X G (c.fact 1 rfl), He.int_ok X G (c.fact 2 rfl), He.int_ok X G (c.fact 3 rfl), He.free_ok X G (c.fact 4 rfl), He.free_ok X G (c.fact 5 rfl), He.free_ok X G (c.fact 6 rfl), He.free_ok X G (c.fact 7 rfl), He.free_ok X G (c.fact 8 rfl), He.free_ok X G (c.fact 9 rfl), He.free_ok X G (c.fact 10 rfl), He.free_ok X G (c.fact 11 rfl), He.free_ok X G (c.fact 12 rfl), He.free_ok X G (c.fact 13 rfl), He.free_ok X G (c.fact 14 rfl), He.free_ok X G (c.fact 15 rfl), He.free_ok X G (c.fact 16 rfl), (List.forall_mem_cons.mpr ⟨⟨He.cls_ok (c.fact 17 rfl), He.noat_ok (c.fact 18 rfl)⟩, (fun c h => nomatch h)⟩), (fun c h => nomatch h), He.glo_ok X G (c.fact 19 rfl), He.glo_ok X G (c.fact 20 rfl), He.glo_ok X G (c.fact 21 rfl), He.glo_ok X G (c.fact 22 rfl), He.glo_ok X G (c.fact 23 rfl), He.glo_ok X G (c.fact 24 rfl), He.glo_ok X G (c.fact 25 rfl), He.glo_ok X G (c.fact 26 rfl), He.glo_ok X G (c.fact 27 rfl), He.glo_ok X G (c.fact 28 rfl), He.glo_ok X G (c.fact 29 rfl), He.glo_ok X G (c.fact 30 rfl), He.glo_ok X G (c.fact 31 rfl), He.glo_ok X G (c.fact 32 rfl), He.glo_ok X G (c.fact 33 rfl), He.glo_ok X G (c.fact 34 rfl), xc0_of (He.exc_ok (c.fact 35 rfl)), xc0_of (He.exc_ok (c.fact 36 rfl)), xc0_of (He.exc_ok (c.fact 37 rfl)), baseB_ok (cz.at_ 0 rfl), xbAll (P := fun p => PySem.W.kitOne K (.ref (He.ga K p.1)) (.ref (He.ga K "BadName")) = some p.2 ∧ XcI K (He.ga K p.1)) (List.forall_mem_cons.mpr ⟨⟨kitC_ok (cz.at_ 1 rfl), xciB_ok (cz.at_ 2 rfl)⟩, (List.forall_mem_cons.mpr ⟨⟨kitC_ok (cz.at_ 3 rfl), xciB_ok (cz.at_ 4 rfl)⟩, (List.forall_mem_cons.mpr ⟨⟨kitC_ok (cz.at_ 5 rfl), xciB_ok (cz.at_ 6 rfl)⟩, (List.forall_mem_cons.mpr ⟨⟨kitC_ok (cz.at_ 7 rfl), xciB_ok (cz.at_ 8 rfl)⟩, (fun p h => nomatch h)⟩)⟩)⟩)⟩), fun n b h => kitB_ok (cz.at_ 9 rfl) n b h rfl, xbAll (P := fun p => PySem.W.kitOne K (.ref (He.ga K p.1)) (.ref (He.ga K "Twice")) = some p.2 ∧ XcI K (He.ga K p.1)) (List.forall_mem_cons.mpr ⟨⟨kitC_ok (cz.at_ 10 rfl), xciB_ok (cz.at_ 2 rfl)⟩, (List.forall_mem_cons.mpr ⟨⟨kitC_ok (cz.at_ 11 rfl), xciB_ok (cz.at_ 4 rfl)⟩, (List.forall_mem_cons.mpr ⟨⟨kitC_ok (cz.at_ 12 rfl), xciB_ok (cz.at_ 6 rfl)⟩, (List.forall_mem_cons.mpr ⟨⟨kitC_ok (cz.at_ 13 rfl), xciB_ok (cz.at_ 8 rfl)⟩, (fun p h => nomatch h)⟩)⟩)⟩)⟩), fun n b h => kitB_ok (cz.at_ 14 rfl) n b h rfl, xbAll (P := fun p => PySem.W.kitOne K (.ref (He.ga K p.1)) (.ref (He.ga K "TooMany")) = some p.2 ∧ XcI K (He.ga K p.1)) (List.forall_mem_cons.mpr ⟨⟨kitC_ok (cz.at_ 15 rfl), xciB_ok (cz.at_ 2 rfl)⟩, (List.forall_mem_cons.mpr ⟨⟨kitC_ok (cz.at_ 16 rfl), xciB_ok (cz.at_ 4 rfl)⟩, (List.forall_mem_cons.mpr ⟨⟨kitC_ok (cz.at_ 17 rfl), xciB_ok (cz.at_ 6 rfl)⟩, (List.forall_mem_cons.mpr ⟨⟨kitC_ok (cz.at_ 18 rfl), xciB_ok (cz.at_ 8 rfl)⟩, (fun p h => nomatch h)⟩)⟩)⟩)⟩), fun n b h => kitB_ok (cz.at_ 19 rfl) n b h rfl, xbAll (P := fun p => PySem.W.kitOne K (.ref (He.ga K p.1)) (.ref (He.ga K "NoDiner")) = some p.2 ∧ XcI K (He.ga K p.1)) (List.forall_mem_cons.mpr ⟨⟨kitC_ok (cz.at_ 20 rfl), xciB_ok (cz.at_ 2 rfl)⟩, (List.forall_mem_cons.mpr ⟨⟨kitC_ok (cz.at_ 21 rfl), xciB_ok (cz.at_ 4 rfl)⟩, (List.forall_mem_cons.mpr ⟨⟨kitC_ok (cz.at_ 22 rfl), xciB_ok (cz.at_ 6 rfl)⟩, (List.forall_mem_cons.mpr ⟨⟨kitC_ok (cz.at_ 23 rfl), xciB_ok (cz.at_ 8 rfl)⟩, (fun p h => nomatch h)⟩)⟩)⟩)⟩), fun n b h => kitB_ok (cz.at_ 24 rfl) n b h rfl, xbAll (P := fun p => PySem.W.kitOne K (.ref (He.ga K p.1)) (.ref (He.ga K "BadAmount")) = some p.2 ∧ XcI K (He.ga K p.1)) (List.forall_mem_cons.mpr ⟨⟨kitC_ok (cz.at_ 25 rfl), xciB_ok (cz.at_ 2 rfl)⟩, (List.forall_mem_cons.mpr ⟨⟨kitC_ok (cz.at_ 26 rfl), xciB_ok (cz.at_ 4 rfl)⟩, (List.forall_mem_cons.mpr ⟨⟨kitC_ok (cz.at_ 27 rfl), xciB_ok (cz.at_ 6 rfl)⟩, (List.forall_mem_cons.mpr ⟨⟨kitC_ok (cz.at_ 28 rfl), xciB_ok (cz.at_ 8 rfl)⟩, (fun p h => nomatch h)⟩)⟩)⟩)⟩), fun n b h => kitB_ok (cz.at_ 29 rfl) n b h rfl, xbAll (P := fun p => PySem.W.kitOne K (.ref (He.ga K p.1)) (.ref (He.ga K "BadDay")) = some p.2 ∧ XcI K (He.ga K p.1)) (List.forall_mem_cons.mpr ⟨⟨kitC_ok (cz.at_ 30 rfl), xciB_ok (cz.at_ 2 rfl)⟩, (List.forall_mem_cons.mpr ⟨⟨kitC_ok (cz.at_ 31 rfl), xciB_ok (cz.at_ 4 rfl)⟩, (List.forall_mem_cons.mpr ⟨⟨kitC_ok (cz.at_ 32 rfl), xciB_ok (cz.at_ 6 rfl)⟩, (List.forall_mem_cons.mpr ⟨⟨kitC_ok (cz.at_ 33 rfl), xciB_ok (cz.at_ 8 rfl)⟩, (fun p h => nomatch h)⟩)⟩)⟩)⟩), fun n b h => kitB_ok (cz.at_ 34 rfl) n b h rfl, xbAll (P := fun p => PySem.W.kitOne K (.ref (He.ga K p.1)) (.ref (He.ga K "BadLine")) = some p.2 ∧ XcI K (He.ga K p.1)) (List.forall_mem_cons.mpr ⟨⟨kitC_ok (cz.at_ 35 rfl), xciB_ok (cz.at_ 2 rfl)⟩, (List.forall_mem_cons.mpr ⟨⟨kitC_ok (cz.at_ 36 rfl), xciB_ok (cz.at_ 4 rfl)⟩, (List.forall_mem_cons.mpr ⟨⟨kitC_ok (cz.at_ 37 rfl), xciB_ok (cz.at_ 6 rfl)⟩, (List.forall_mem_cons.mpr ⟨⟨kitC_ok (cz.at_ 38 rfl), xciB_ok (cz.at_ 8 rfl)⟩, (fun p h => nomatch h)⟩)⟩)⟩)⟩), fun n b h => kitB_ok (cz.at_ 39 rfl) n b h rfl, xbAll (P := fun p => PySem.W.kitOne K (.ref (He.ga K p.1)) (.ref (He.ga K "BadWish")) = some p.2 ∧ XcI K (He.ga K p.1)) (List.forall_mem_cons.mpr ⟨⟨kitC_ok (cz.at_ 40 rfl), xciB_ok (cz.at_ 2 rfl)⟩, (List.forall_mem_cons.mpr ⟨⟨kitC_ok (cz.at_ 41 rfl), xciB_ok (cz.at_ 4 rfl)⟩, (List.forall_mem_cons.mpr ⟨⟨kitC_ok (cz.at_ 42 rfl), xciB_ok (cz.at_ 6 rfl)⟩, (List.forall_mem_cons.mpr ⟨⟨kitC_ok (cz.at_ 43 rfl), xciB_ok (cz.at_ 8 rfl)⟩, (fun p h => nomatch h)⟩)⟩)⟩)⟩), fun n b h => kitB_ok (cz.at_ 44 rfl) n b h rfl, xbAll (P := fun p => PySem.W.kitOne K (.ref (He.ga K p.1)) (.ref (He.ga K "FromNothing")) = some p.2 ∧ XcI K (He.ga K p.1)) (List.forall_mem_cons.mpr ⟨⟨kitC_ok (cz.at_ 45 rfl), xciB_ok (cz.at_ 2 rfl)⟩, (List.forall_mem_cons.mpr ⟨⟨kitC_ok (cz.at_ 46 rfl), xciB_ok (cz.at_ 4 rfl)⟩, (List.forall_mem_cons.mpr ⟨⟨kitC_ok (cz.at_ 47 rfl), xciB_ok (cz.at_ 6 rfl)⟩, (List.forall_mem_cons.mpr ⟨⟨kitC_ok (cz.at_ 48 rfl), xciB_ok (cz.at_ 8 rfl)⟩, (fun p h => nomatch h)⟩)⟩)⟩)⟩), fun n b h => kitB_ok (cz.at_ 49 rfl) n b h rfl, xbAll (P := fun p => PySem.W.kitOne K (.ref (He.ga K p.1)) (.ref (He.ga K "Lacking")) = some p.2 ∧ XcI K (He.ga K p.1)) (List.forall_mem_cons.mpr ⟨⟨kitC_ok (cz.at_ 50 rfl), xciB_ok (cz.at_ 2 rfl)⟩, (List.forall_mem_cons.mpr ⟨⟨kitC_ok (cz.at_ 51 rfl), xciB_ok (cz.at_ 4 rfl)⟩, (List.forall_mem_cons.mpr ⟨⟨kitC_ok (cz.at_ 52 rfl), xciB_ok (cz.at_ 6 rfl)⟩, (List.forall_mem_cons.mpr ⟨⟨kitC_ok (cz.at_ 53 rfl), xciB_ok (cz.at_ 8 rfl)⟩, (fun p h => nomatch h)⟩)⟩)⟩)⟩), fun n b h => kitB_ok (cz.at_ 54 rfl) n b h rfl, xbAll (P := fun p => PySem.W.kitOne K (.ref (He.ga K p.1)) (.ref (He.ga K "NoDeed")) = some p.2 ∧ XcI K (He.ga K p.1)) (List.forall_mem_cons.mpr ⟨⟨kitC_ok (cz.at_ 55 rfl), xciB_ok (cz.at_ 2 rfl)⟩, (List.forall_mem_cons.mpr ⟨⟨kitC_ok (cz.at_ 56 rfl), xciB_ok (cz.at_ 4 rfl)⟩, (List.forall_mem_cons.mpr ⟨⟨kitC_ok (cz.at_ 57 rfl), xciB_ok (cz.at_ 6 rfl)⟩, (List.forall_mem_cons.mpr ⟨⟨kitC_ok (cz.at_ 58 rfl), xciB_ok (cz.at_ 8 rfl)⟩, (fun p h => nomatch h)⟩)⟩)⟩)⟩), fun n b h => kitB_ok (cz.at_ 59 rfl) n b h rfl, xbAll (P := fun p => PySem.W.kitOne K (.ref (He.ga K p.1)) (.ref (He.ga K "NoGood")) = some p.2 ∧ XcI K (He.ga K p.1)) (List.forall_mem_cons.mpr ⟨⟨kitC_ok (cz.at_ 60 rfl), xciB_ok (cz.at_ 2 rfl)⟩, (List.forall_mem_cons.mpr ⟨⟨kitC_ok (cz.at_ 61 rfl), xciB_ok (cz.at_ 4 rfl)⟩, (List.forall_mem_cons.mpr ⟨⟨kitC_ok (cz.at_ 62 rfl), xciB_ok (cz.at_ 6 rfl)⟩, (List.forall_mem_cons.mpr ⟨⟨kitC_ok (cz.at_ 63 rfl), xciB_ok (cz.at_ 8 rfl)⟩, (fun p h => nomatch h)⟩)⟩)⟩)⟩), fun n b h => kitB_ok (cz.at_ 64 rfl) n b h rfl, xbAll (P := fun p => PySem.W.kitOne K (.ref (He.ga K p.1)) (.ref (He.ga K "NoMeasure")) = some p.2 ∧ XcI K (He.ga K p.1)) (List.forall_mem_cons.mpr ⟨⟨kitC_ok (cz.at_ 65 rfl), xciB_ok (cz.at_ 2 rfl)⟩, (List.forall_mem_cons.mpr ⟨⟨kitC_ok (cz.at_ 66 rfl), xciB_ok (cz.at_ 4 rfl)⟩, (List.forall_mem_cons.mpr ⟨⟨kitC_ok (cz.at_ 67 rfl), xciB_ok (cz.at_ 6 rfl)⟩, (List.forall_mem_cons.mpr ⟨⟨kitC_ok (cz.at_ 68 rfl), xciB_ok (cz.at_ 8 rfl)⟩, (fun p h => nomatch h)⟩)⟩)⟩)⟩), fun n b h => kitB_ok (cz.at_ 69 rfl) n b h rfl, xbAll (P := fun p => PySem.W.kitOne K (.ref (He.ga K p.1)) (.ref (He.ga K "NoRecipe")) = some p.2 ∧ XcI K (He.ga K p.1)) (List.forall_mem_cons.mpr ⟨⟨kitC_ok (cz.at_ 70 rfl), xciB_ok (cz.at_ 2 rfl)⟩, (List.forall_mem_cons.mpr ⟨⟨kitC_ok (cz.at_ 71 rfl), xciB_ok (cz.at_ 4 rfl)⟩, (List.forall_mem_cons.mpr ⟨⟨kitC_ok (cz.at_ 72 rfl), xciB_ok (cz.at_ 6 rfl)⟩, (List.forall_mem_cons.mpr ⟨⟨kitC_ok (cz.at_ 73 rfl), xciB_ok (cz.at_ 8 rfl)⟩, (fun p h => nomatch h)⟩)⟩)⟩)⟩), fun n b h => kitB_ok (cz.at_ 74 rfl) n b h rfl, xbAll (P := fun p => PySem.W.kitOne K (.ref (He.ga K p.1)) (.ref (He.ga K "NoSwap")) = some p.2 ∧ XcI K (He.ga K p.1)) (List.forall_mem_cons.mpr ⟨⟨kitC_ok (cz.at_ 75 rfl), xciB_ok (cz.at_ 2 rfl)⟩, (List.forall_mem_cons.mpr ⟨⟨kitC_ok (cz.at_ 76 rfl), xciB_ok (cz.at_ 4 rfl)⟩, (List.forall_mem_cons.mpr ⟨⟨kitC_ok (cz.at_ 77 rfl), xciB_ok (cz.at_ 6 rfl)⟩, (List.forall_mem_cons.mpr ⟨⟨kitC_ok (cz.at_ 78 rfl), xciB_ok (cz.at_ 8 rfl)⟩, (fun p h => nomatch h)⟩)⟩)⟩)⟩), fun n b h => kitB_ok (cz.at_ 79 rfl) n b h rfl, xbAll (P := fun p => PySem.W.kitOne K (.ref (He.ga K p.1)) (.type "ValueError") = some p.2 ∧ XcI K (He.ga K p.1)) (List.forall_mem_cons.mpr ⟨⟨kitV_ok (cz.at_ 80 rfl), xciB_ok (cz.at_ 2 rfl)⟩, (List.forall_mem_cons.mpr ⟨⟨kitV_ok (cz.at_ 81 rfl), xciB_ok (cz.at_ 4 rfl)⟩, (List.forall_mem_cons.mpr ⟨⟨kitV_ok (cz.at_ 82 rfl), xciB_ok (cz.at_ 6 rfl)⟩, (List.forall_mem_cons.mpr ⟨⟨kitV_ok (cz.at_ 83 rfl), xciB_ok (cz.at_ 8 rfl)⟩, (fun p h => nomatch h)⟩)⟩)⟩)⟩), xbAll (P := fun p => PySem.W.exmOne K (.ref (He.ga K p.1)) (.ref (He.ga K "LarderError")) = some p.2) (List.forall_mem_cons.mpr ⟨He.exm_ok (c.fact 38 rfl), (List.forall_mem_cons.mpr ⟨He.exm_ok (c.fact 39 rfl), (List.forall_mem_cons.mpr ⟨He.exm_ok (c.fact 40 rfl), (List.forall_mem_cons.mpr ⟨He.exm_ok (c.fact 41 rfl), (fun p h => nomatch h)⟩)⟩)⟩)⟩), (List.forall_mem_cons.mpr ⟨⟨xciB_ok (cz.at_ 4 rfl), noaB_ok (cz.at_ 84 rfl)⟩, (fun p h => nomatch h)⟩), cz.z.dig⟩
  obtain ⟨fd_NoDiner___init__, F_NoDiner___init__⟩ := c.def_ 0 (d := d_NoDiner___init__) rfl
  obtain ⟨fd_Diners___init__, F_Diners___init__⟩ := c.def_ 1 (d := d_Diners___init__) rfl
  obtain ⟨fd__law_word, F__law_word⟩ := c.def_ 2 (d := d__law_word) rfl
  obtain ⟨fd_are_signs, F_are_signs⟩ := c.def_ 3 (d := d_are_signs) rfl
  obtain ⟨fd_is_name, F_is_name⟩ := c.def_ 4 (d := d_is_name) rfl
  obtain ⟨fd_are_names, F_are_names⟩ := c.def_ 5 (d := d_are_names) rfl
  obtain ⟨fd_Diners_put_diner, F_Diners_put_diner⟩ := c.def_ 6 (d := d_Diners_put_diner) rfl
  obtain ⟨fd__law_put, F__law_put⟩ := c.def_ 7 (d := d__law_put) rfl
  obtain ⟨fd_Diners_avoids_of, F_Diners_avoids_of⟩ := c.def_ 8 (d := d_Diners_avoids_of) rfl
  obtain ⟨fd__law_none_there, F__law_none_there⟩ := c.def_ 9 (d := d__law_none_there) rfl
  obtain ⟨fd_Diners_all_diners, F_Diners_all_diners⟩ := c.def_ 10 (d := d_Diners_all_diners) rfl
  obtain ⟨fd__law_deep_right, F__law_deep_right⟩ := c.def_ 11 (d := d__law_deep_right) rfl
  obtain ⟨fd__law_names, F__law_names⟩ := c.def_ 12 (d := d__law_names) rfl
  obtain ⟨fd__law_number, F__law_number⟩ := c.def_ 13 (d := d__law_number) rfl
  obtain ⟨fd__law_name, F__law_name⟩ := c.def_ 14 (d := d__law_name) rfl
  obtain ⟨fd__law_avoids, F__law_avoids⟩ := c.def_ 15 (d := d__law_avoids) rfl
  obtain ⟨fd_Diners_copied, F_Diners_copied⟩ := c.def_ 16 (d := d_Diners_copied) rfl
  obtain ⟨fd__law_is_name, F__law_is_name⟩ := c.def_ 17 (d := d__law_is_name) rfl
  obtain ⟨fd__law_due, F__law_due⟩ := c.def_ 18 (d := d__law_due) rfl
  obtain ⟨fd__law_stands, F__law_stands⟩ := c.def_ 19 (d := d__law_stands) rfl
  obtain ⟨fd__law_odd_diner, F__law_odd_diner⟩ := c.def_ 20 (d := d__law_odd_diner) rfl
  obtain ⟨fd_law, F_law⟩ := c.def_ 21 (d := d_law) rfl
  have U_Diners___init__ := F_Diners___init__
  have U__law_word : Fun K "_law_word" "_law_word" s__law_word _ fd__law_word := He5.fun_of (st := s__law_word) F__law_word
  have U_are_signs : Fun K "are_signs" "are_signs" s_are_signs _ fd_are_signs := He5.fun_of (st := s_are_signs) F_are_signs
  have U_is_name : Fun K "is_name" "is_name" s_is_name _ fd_is_name := He5.fun_of (st := s_is_name) F_is_name
  have U_are_names : Fun K "are_names" "are_names" s_are_names _ fd_are_names := He5.fun_of (st := s_are_names) F_are_names
  have U_Diners_put_diner_R := F_Diners_put_diner
  have U__law_put_R : Fun K "_law_put" "_law_put" s__law_put_R _ fd__law_put := He5.fun_of (st := s__law_put_R) F__law_put
  have U_Diners_avoids_of := F_Diners_avoids_of
  have U__law_none_there : Fun K "_law_none_there" "_law_none_there" s__law_none_there _ fd__law_none_there := He5.fun_of (st := s__law_none_there) F__law_none_there
  have U_Diners_all_diners := F_Diners_all_diners
  have U__law_deep_right : Fun K "_law_deep_right" "_law_deep_right" s__law_deep_right _ fd__law_deep_right := He5.fun_of (st := s__law_deep_right) F__law_deep_right
  have U__law_names : Fun K "_law_names" "_law_names" s__law_names _ fd__law_names := He5.fun_of (st := s__law_names) F__law_names
  have U__law_number : Fun K "_law_number" "_law_number" s__law_number _ fd__law_number := He5.fun_of (st := s__law_number) F__law_number
  have U__law_name : Fun K "_law_name" "_law_name" s__law_name _ fd__law_name := He5.fun_of (st := s__law_name) F__law_name
  have U__law_avoids : Fun K "_law_avoids" "_law_avoids" s__law_avoids _ fd__law_avoids := He5.fun_of (st := s__law_avoids) F__law_avoids
  have U_Diners_copied := F_Diners_copied
  have U__law_is_name : Fun K "_law_is_name" "_law_is_name" s__law_is_name _ fd__law_is_name := He5.fun_of (st := s__law_is_name) F__law_is_name
  have U__law_due : Fun K "_law_due" "_law_due" s__law_due _ fd__law_due := He5.fun_of (st := s__law_due) F__law_due
  have U_Diners_put_diner := F_Diners_put_diner
  have U__law_put := F__law_put
  have U__law_stands : Fun K "_law_stands" "_law_stands" s__law_stands _ fd__law_stands := He5.fun_of (st := s__law_stands) F__law_stands
  have U__law_odd_diner : Fun K "_law_odd_diner" "_law_odd_diner" s__law_odd_diner _ fd__law_odd_diner := He5.fun_of (st := s__law_odd_diner) F__law_odd_diner
  have U_law : Fun K "law" "law" s_law _ fd_law := He5.fun_of (st := s_law) F_law
  have e := hfa.symm.trans (He.glo_ok X G (c.fact 42 (f := .glo "law") rfl))
  cases e
  have b := FunD.bindsA (ps := ["_law_script"]) F_law fun _ _ _ _ _ _ us hl => match us, hl with | [_], _ => rfl
  refine ⟨fd_law, fun s v => b s [v] rfl, fun base _ _ => ?_⟩
  have Xc_NoDiner : GoodXc P0 w K mg base (He.ga K) "NoDiner" "name" 1 gId := by
    have hb := FunD.bindsN (ps := ["self", "name"]) F_NoDiner___init__ fun _ _ _ _ _ _ us hl => match us, hl with | [_, _], _ => rfl
    exact xc_of (c.fact 22 rfl) (oexF_ok (cz.at_ 85 rfl)) (c.fact 43 rfl) (noaB_ok (cz.at_ 84 rfl)) hb (ok_NoDiner___init__ (base := base) (w := w) T F_NoDiner___init__) X G
  have O_Diners___init__ := ok_Diners___init__ (base := base) (w := w) T U_Diners___init__
  have Mk_Diners : GoodMk P0 w K mg base (He.ga K) "Diners" 1 (spM K (He.ga K) 1 [0] m_Diners___init__) [] := by
    exact ⟨_, fd_Diners___init__, ["self"], [], He.glo_ok X G (c.fact 44 rfl), He.mkr_ok (c.fact 45 rfl), (FunD.bindsN F_Diners___init__ fun _ _ _ _ _ _ us hl => match us, hl with | [_], _ => rfl), .nil, O_Diners___init__⟩
  have O__law_word := ok__law_word (base := base) (w := w) T U__law_word
  have G__law_word : Good P0 w K mg base (He.ga K) "_law_word" 1 1 m__law_word := by
    exact ⟨_, fd__law_word, ["_law_error"], He.glo_ok X G (c.fact 46 rfl), F__law_word.kp, (FunD.bindsN F__law_word fun _ _ _ _ _ _ us hl => match us, hl with | [_], _ => rfl), O__law_word⟩
  have O_are_signs := ok_are_signs (base := base) (w := w) T U_are_signs
  have G_are_signs : Good P0 w K mg base (He.ga K) "are_signs" 2 1 m_are_signs := by
    exact ⟨_, fd_are_signs, ["text", "signs"], He.glo_ok X G (c.fact 47 rfl), F_are_signs.kp, (FunD.bindsN F_are_signs fun _ _ _ _ _ _ us hl => match us, hl with | [_, _], _ => rfl), O_are_signs⟩
  have O_is_name := ok_is_name (base := base) (w := w) T U_is_name G_are_signs
  have G_is_name : Good P0 w K mg base (He.ga K) "is_name" 1 2 m_is_name := by
    exact ⟨_, fd_is_name, ["thing"], He.glo_ok X G (c.fact 48 rfl), F_is_name.kp, (FunD.bindsN F_is_name fun _ _ _ _ _ _ us hl => match us, hl with | [_], _ => rfl), O_is_name⟩
  have O_are_names := ok_are_names (base := base) (w := w) T U_are_names G_is_name
  have G_are_names : Good P0 w K mg base (He.ga K) "are_names" 1 3 m_are_names := by
    exact ⟨_, fd_are_names, ["thing"], He.glo_ok X G (c.fact 49 rfl), F_are_names.kp, (FunD.bindsN F_are_names fun _ _ _ _ _ _ us hl => match us, hl with | [_], _ => rfl), O_are_names⟩
  have O_Diners_put_diner_R := ok_Diners_put_diner_R (base := base) (w := w) T U_Diners_put_diner_R G_is_name G_are_names
  have Mt_Diners_put_diner_R_0 : GoodMt P0 w K mg base (He.ga K) "Diners" "put_diner" 4 (spP K (He.ga K) 3 m_Diners_put_diner_R) [] := by
    exact ⟨_, fd_Diners_put_diner, ["self", "name", "avoids"], [], He.cls_ok (c.fact 17 rfl), He.meth_ok (c.fact 50 rfl), (FunD.bindsN F_Diners_put_diner fun _ _ _ _ _ _ us hl => match us, hl with | [_, _, _], _ => rfl), .nil, O_Diners_put_diner_R⟩
  have O__law_put_R := ok__law_put_R (base := base) (w := w) T U__law_put_R Mt_Diners_put_diner_R_0
  have G__law_put_R : Good P0 w K mg base (He.ga K) "_law_put" 3 5 m__law_put_R := by
    exact ⟨_, fd__law_put, ["_law_diners", "_law_name_here", "_law_avoids_here"], He.glo_ok X G (c.fact 51 rfl), F__law_put.kp, (FunD.bindsN F__law_put fun _ _ _ _ _ _ us hl => match us, hl with | [_, _, _], _ => rfl), O__law_put_R⟩
  have O_Diners_avoids_of := ok_Diners_avoids_of (base := base) (w := w) T U_Diners_avoids_of Xc_NoDiner
  have Mt_Diners_avoids_of_0 : GoodMt P0 w K mg base (He.ga K) "Diners" "avoids_of" 3 (spP K (He.ga K) 2 m_Diners_avoids_of) [] := by
    exact ⟨_, fd_Diners_avoids_of, ["self", "name"], [], He.cls_ok (c.fact 17 rfl), He.meth_ok (c.fact 52 rfl), (FunD.bindsN F_Diners_avoids_of fun _ _ _ _ _ _ us hl => match us, hl with | [_, _], _ => rfl), .nil, O_Diners_avoids_of⟩
  have O__law_none_there := ok__law_none_there (base := base) (w := w) T U__law_none_there G__law_word Mt_Diners_avoids_of_0
  have G__law_none_there : Good P0 w K mg base (He.ga K) "_law_none_there" 2 4 m__law_none_there := by
    exact ⟨_, fd__law_none_there, ["_law_diners", "_law_name_here"], He.glo_ok X G (c.fact 53 rfl), F__law_none_there.kp, (FunD.bindsN F__law_none_there fun _ _ _ _ _ _ us hl => match us, hl with | [_, _], _ => rfl), O__law_none_there⟩
  have O_Diners_all_diners := ok_Diners_all_diners (base := base) (w := w) T U_Diners_all_diners
  have Mt_Diners_all_diners_0 : GoodMt P0 w K mg base (He.ga K) "Diners" "all_diners" 1 (spP K (He.ga K) 1 m_Diners_all_diners) [] := by
    exact ⟨_, fd_Diners_all_diners, ["self"], [], He.cls_ok (c.fact 17 rfl), He.meth_ok (c.fact 54 rfl), (FunD.bindsN F_Diners_all_diners fun _ _ _ _ _ _ us hl => match us, hl with | [_], _ => rfl), .nil, O_Diners_all_diners⟩
  have O__law_deep_right := ok__law_deep_right (base := base) (w := w) T U__law_deep_right G__law_word G__law_put_R G__law_none_there Mt_Diners_all_diners_0 Mk_Diners
  have G__law_deep_right : Good P0 w K mg base (He.ga K) "_law_deep_right" 0 6 m__law_deep_right := by
    exact ⟨_, fd__law_deep_right, [], He.glo_ok X G (c.fact 55 rfl), F__law_deep_right.kp, (FunD.bindsN F__law_deep_right fun _ _ _ _ _ _ us hl => match us, hl with | [], _ => rfl), O__law_deep_right⟩
  have O__law_names := ok__law_names (base := base) (w := w) T U__law_names
  have G__law_names : Good P0 w K mg base (He.ga K) "_law_names" 2 1 m__law_names := by
    exact ⟨_, fd__law_names, ["_law_number_here", "_law_many"], He.glo_ok X G (c.fact 56 rfl), F__law_names.kp, (FunD.bindsN F__law_names fun _ _ _ _ _ _ us hl => match us, hl with | [_, _], _ => rfl), O__law_names⟩
  have O__law_number := ok__law_number (base := base) (w := w) T U__law_number
  have G__law_number : Good P0 w K mg base (He.ga K) "_law_number" 2 1 m__law_number := by
    exact ⟨_, fd__law_number, ["_law_script", "_law_k"], He.glo_ok X G (c.fact 57 rfl), F__law_number.kp, (FunD.bindsN F__law_number fun _ _ _ _ _ _ us hl => match us, hl with | [_, _], _ => rfl), O__law_number⟩
  have O__law_name := ok__law_name (base := base) (w := w) T U__law_name
  have G__law_name : Good P0 w K mg base (He.ga K) "_law_name" 2 1 m__law_name := by
    exact ⟨_, fd__law_name, ["_law_number_here", "_law_names_here"], He.glo_ok X G (c.fact 58 rfl), F__law_name.kp, (FunD.bindsN F__law_name fun _ _ _ _ _ _ us hl => match us, hl with | [_, _], _ => rfl), O__law_name⟩
  have O__law_avoids := ok__law_avoids (base := base) (w := w) T U__law_avoids
  have G__law_avoids : Good P0 w K mg base (He.ga K) "_law_avoids" 2 1 m__law_avoids := by
    exact ⟨_, fd__law_avoids, ["_law_number_here", "_law_names_here"], He.glo_ok X G (c.fact 59 rfl), F__law_avoids.kp, (FunD.bindsN F__law_avoids fun _ _ _ _ _ _ us hl => match us, hl with | [_, _], _ => rfl), O__law_avoids⟩
  have O_Diners_copied := ok_Diners_copied (base := base) (w := w) T U_Diners_copied Mk_Diners
  have Mt_Diners_copied_0 : GoodMt P0 w K mg base (He.ga K) "Diners" "copied" 3 (spP K (He.ga K) 1 m_Diners_copied) [] := by
    exact ⟨_, fd_Diners_copied, ["self"], [], He.cls_ok (c.fact 17 rfl), He.meth_ok (c.fact 60 rfl), (FunD.bindsN F_Diners_copied fun _ _ _ _ _ _ us hl => match us, hl with | [_], _ => rfl), .nil, O_Diners_copied⟩
  have O__law_is_name := ok__law_is_name (base := base) (w := w) T U__law_is_name
  have G__law_is_name : Good P0 w K mg base (He.ga K) "_law_is_name" 1 1 m__law_is_name := by
    exact ⟨_, fd__law_is_name, ["_law_thing"], He.glo_ok X G (c.fact 61 rfl), F__law_is_name.kp, (FunD.bindsN F__law_is_name fun _ _ _ _ _ _ us hl => match us, hl with | [_], _ => rfl), O__law_is_name⟩
  have O__law_due := ok__law_due (base := base) (w := w) T U__law_due G__law_is_name
  have G__law_due : Good P0 w K mg base (He.ga K) "_law_due" 3 2 m__law_due := by
    exact ⟨_, fd__law_due, ["_law_own", "_law_name_here", "_law_avoids_here"], He.glo_ok X G (c.fact 62 rfl), F__law_due.kp, (FunD.bindsN F__law_due fun _ _ _ _ _ _ us hl => match us, hl with | [_, _, _], _ => rfl), O__law_due⟩
  have O_Diners_put_diner := ok_Diners_put_diner (base := base) (w := w) T U_Diners_put_diner G_is_name G_are_names
  have Mt_Diners_put_diner_0 : GoodMt P0 w K mg base (He.ga K) "Diners" "put_diner" 4 (spM K (He.ga K) 3 [0] m_Diners_put_diner) [] := by
    exact ⟨_, fd_Diners_put_diner, ["self", "name", "avoids"], [], He.cls_ok (c.fact 17 rfl), He.meth_ok (c.fact 50 rfl), (FunD.bindsN F_Diners_put_diner fun _ _ _ _ _ _ us hl => match us, hl with | [_, _, _], _ => rfl), .nil, O_Diners_put_diner⟩
  have O__law_put := ok__law_put (base := base) (w := w) T U__law_put Mt_Diners_put_diner_0
  have Gf__law_put_0 : GoodF P0 w K mg base "_law_put" 5 (spM K (He.ga K) 3 [0] m__law_put) [] := by
    exact ⟨_, fd__law_put, ["_law_diners", "_law_name_here", "_law_avoids_here"], [], He.glo_ok X G (c.fact 51 rfl), F__law_put.kp, (FunD.bindsN F__law_put fun _ _ _ _ _ _ us hl => match us, hl with | [_, _, _], _ => rfl), .nil, O__law_put⟩
  have O__law_stands := ok__law_stands (base := base) (w := w) T U__law_stands Mt_Diners_all_diners_0 Mt_Diners_avoids_of_0
  have G__law_stands : Good P0 w K mg base (He.ga K) "_law_stands" 2 4 m__law_stands := by
    exact ⟨_, fd__law_stands, ["_law_diners", "_law_own"], He.glo_ok X G (c.fact 63 rfl), F__law_stands.kp, (FunD.bindsN F__law_stands fun _ _ _ _ _ _ us hl => match us, hl with | [_, _], _ => rfl), O__law_stands⟩
  have O__law_odd_diner := ok__law_odd_diner (base := base) (w := w) T U__law_odd_diner
  have G__law_odd_diner : Good P0 w K mg base (He.ga K) "_law_odd_diner" 3 1 m__law_odd_diner := by
    exact ⟨_, fd__law_odd_diner, ["_law_number_here", "_law_names_here", "_law_own"], He.glo_ok X G (c.fact 64 rfl), F__law_odd_diner.kp, (FunD.bindsN F__law_odd_diner fun _ _ _ _ _ _ us hl => match us, hl with | [_, _, _], _ => rfl), O__law_odd_diner⟩
  exact ok_law T U_law G__law_deep_right G__law_names G__law_number G__law_name G__law_avoids G__law_due G__law_word G__law_stands G__law_none_there G__law_odd_diner Mt_Diners_copied_0 Gf__law_put_0 Mk_Diners

end OB
open PySem PySem.W PySem.Calls PyProof.Rows in
theorem PySem.Challenge.cw_larderwise_k23_diners_by_deeds_holds : PySem.Challenge.rw_larderwise_k23_diners_by_deeds.Holds := by
  w_on; o_law
  refine HandSHeadRun.head_any (r := OpenLaw.row PySem.Challenge.rw_larderwise_k23_diners_by_deeds) (q := view (OpenLaw.row PySem.Challenge.rw_larderwise_k23_diners_by_deeds).prog [40]) (H := OB.hk) (ob := OB.obK) (M := 40000) (loose := OB.looseL) (d := HandSHeadRun.topDef (OpenLaw.row PySem.Challenge.rw_larderwise_k23_diners_by_deeds).prog 40) (kwd := []) OB.obK_eq
    (by kernel_rfl) (fun s => by kernel_rfl) OB.runK (by kernel_rfl) (by kernel_rfl) (by kernel_rfl) (by rfl) (by first | assumption | decide +kernel) (by decide +kernel) ⟨rfl, rfl, rfl, rfl, rfl, by decide +kernel⟩ ?hw ?hc
  case hw => w_witness2
  case hc =>
    refine OB.walk_ofEB (l := PySem.Challenge.rw_larderwise_k23_diners_by_deeds) (n := 63) (k := 7) (x := "_law_script") (CX := fun w => L2.CX OB.P0 w) rfl (by decide) (by kernel_rfl) ⟨rfl, by decide, by decide⟩ ?F (fun w => OB.cx_no)
    intro w mg fa h Y G hmg0
    obtain ⟨K, KX, c⟩ := Y
    have hmg : mg ("law" : PySem.Str) = some (.ref fa) := by
      have e : (HandSHeadRun.topDef (OpenLaw.row PySem.Challenge.rw_larderwise_k23_diners_by_deeds).prog 40).name = ("law" : PySem.Str) := by kernel_rfl
      rw [← e]
      exact hmg0
    obtain ⟨fd, hb, hF⟩ := OB.factsK (w := w) KX G hmg c
    exact ⟨K, fd, OB.spP K (He.ga K) 1 OB.m_law, KX, hb, fun H a ns hl hbits _ hS => OB.spP_script c.z.nol hS (OB.law_is ns hl hbits), hF⟩
