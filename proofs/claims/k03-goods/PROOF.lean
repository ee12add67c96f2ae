import PyProof.Rows.All
import Wide.All
import OpenK.AllK
import Wide.FinOn
import HandS.ForMost
import HandS.WordsExc
import HandS.TryOnly
import HandS.IsInst
import HandS.StrMore
import HandS.Style
import HandS.Zip
import HandS.CallSlots
import HandS.Rev
import HandS.MapJoin
import HandS.Replace
import PyProof.JoinWalk
import HandS.Head0
import HandS.Head1
import HandS.Head2
import HandS.HeadEnd
import HandS.HeadHook1
import HandS.HeadHook2
import HandS.HeadNt
import HandS.EndBits
import HandS.Defaults
import HandS.Small
import PyProof.Rows.SetFrom
import PySem.Challenge.RW_larderwise_k03_goods_by_deeds
set_option Elab.async false
set_option linter.all false
set_option maxRecDepth 100000
set_option maxHeartbeats 4000000
namespace OB
open PySem L2

inductive Fl where
  | own | frz | bor | tmp
  deriving DecidableEq
inductive Kd where
  | tup | lst (f : Fl) | dct (f : Fl) (ks : List Key) | obj (f : Fl) (c : Str) (fs : List Str) | exc (f : Fl) (c : Str) (fs : List Str)
  deriving DecidableEq
inductive D where
  | non | bl (b : Bool) | int (i : Int) | str (s : Str) | nd (k : Kd) (ds : List D)

@[reducible] def D.tup (ds : List D) : D := .nd .tup ds
@[reducible] def D.lst (f : Fl) (ds : List D) : D := .nd (.lst f) ds

/-- an exception: its class, its one field -/
structure XD where
  cls : Str
  fld : Option (Str × D)
inductive Ot (α : Type) where
  | no | ok (a : α) | ex (x : XD)
namespace Ot
def bind {α β : Type} (o : Ot α) (f : α → Ot β) : Ot β := match o with
  | .no => .no
  | .ok a => f a
  | .ex x => .ex x
@[simp] theorem bind_ok {α β : Type} (a : α) (f : α → Ot β) : (Ot.ok a).bind f = f a := rfl
@[simp] theorem bind_no {α β : Type} (f : α → Ot β) : (Ot.no : Ot α).bind f = .no := rfl
@[simp] theorem bind_ex {α β : Type} (x : XD) (f : α → Ot β) : (Ot.ex x : Ot α).bind f = .ex x := rfl
def of {α : Type} (o : Option α) : Ot α := match o with
  | some a => .ok a
  | none => .no
@[simp] theorem of_some {α : Type} (a : α) : Ot.of (some a) = .ok a := rfl
@[simp] theorem of_none {α : Type} : (Ot.of (none : Option α)) = .no := rfl
end Ot

structure Zn where
  f : Addr → Prop
  b : Addr → Prop
  t : Addr → Prop
def Zn.ok (Z : Zn) (a : Addr) : Fl → Prop
  | .own => True
  | .frz => Z.f a
  | .bor => Z.b a
  | .tmp => Z.t a
abbrev Cm := Str → Addr

/-- a caught exception, as a value -/
def ExcHO (C : Addr) (dx : Option Addr) (a : Addr) : HO := .ext fun h => ∃ (oe : Obj) (vs : Array Value), h.get? a = some oe ∧ Zc (.ref C) dx oe ∧ oe.data = .fields vs
def ExcAt (H : Hp) (a C : Addr) (l : List (Str × V)) : Prop := ∃ dx, H a = some (ExcHO C dx a) ∧ match dx with
  | none => l = []
  | some d => H d = some (.xd l)
def Cell (K : PySem.W.Frag) (cm : Cm) (H : Hp) (Z : Zn) (a : Addr) : Kd → List V → Prop
  | .tup, vs => SqT K H a vs
  | .lst f, vs => (f = .own → H a = some (.lst vs)) ∧ Rd H a (.lst vs) ∧ Z.ok a f
  | .dct f ks, vs => (f = .own → H a = some (.dK (ks.zip vs))) ∧ Rd H a (.dK (ks.zip vs)) ∧ ks.length = vs.length ∧ Z.ok a f
  | .obj f c fs, vs => (∃ dx, H a = some (.ins (cm c) dx (fs.zip vs))) ∧ fs.length = vs.length ∧ Z.ok a f
  | .exc f c fs, vs => ExcAt H a (cm c) (fs.zip vs) ∧ fs.length = vs.length ∧ Z.ok a f
def Kd.fl : Kd → Option Fl
  | .tup => none
  | .lst f => some f
  | .dct f _ => some f
  | .obj f _ _ => some f
  | .exc f _ _ => some f
def Kd.isOwn (k : Kd) : Bool := k.fl == some .own
def ownA (k : Kd) (a : Addr) : List Addr := if k.isOwn then [a] else []

mutual
def Rep (K : PySem.W.Frag) (cm : Cm) (H : Hp) (Z : Zn) : D → V → List Addr → Prop
  | .non, v, F => v = .non ∧ F = []
  | .bl b, v, F => v = .bl b ∧ F = []
  | .int i, v, F => v = .int i ∧ F = []
  | .str s, v, F => v = .str s ∧ F = []
  | .nd k ds, v, F => ∃ a vs Fs, v = .ref a ∧ Cell K cm H Z a k vs ∧ RepL K cm H Z ds vs Fs ∧ F = ownA k a ++ Fs.flatten
def RepL (K : PySem.W.Frag) (cm : Cm) (H : Hp) (Z : Zn) : List D → List V → List (List Addr) → Prop
  | [], vs, Fs => vs = [] ∧ Fs = []
  | d :: ds, vs, Fs => ∃ v vs' F Fs', vs = v :: vs' ∧ Fs = F :: Fs' ∧ Rep K cm H Z d v F ∧ RepL K cm H Z ds vs' Fs'
end

/-! ### flags changed -/
def Kd.mapF (g : Fl → Fl) : Kd → Kd
  | .tup => .tup
  | .lst f => .lst (g f)
  | .dct f ks => .dct (g f) ks
  | .obj f c fs => .obj (g f) c fs
  | .exc f c fs => .exc (g f) c fs
mutual
def mapF (g : Fl → Fl) : D → D
  | .non => .non
  | .bl b => .bl b
  | .int i => .int i
  | .str s => .str s
  | .nd k ds => .nd (k.mapF g) (mapFL g ds)
def mapFL (g : Fl → Fl) : List D → List D
  | [] => []
  | d :: ds => mapF g d :: mapFL g ds
end
theorem mapFL_eq (g : Fl → Fl) : ∀ ds, mapFL g ds = ds.map (mapF g)
  | [] => rfl
  | d :: ds => by rw [mapFL, mapFL_eq g ds]; rfl
mutual
/-- all flags have the property -/
def allF (p : Fl → Bool) : D → Bool
  | .non => true
  | .bl _ => true
  | .int _ => true
  | .str _ => true
  | .nd k ds => (match k.fl with | some f => p f | none => true) && allFL p ds
def allFL (p : Fl → Bool) : List D → Bool
  | [] => true
  | d :: ds => allF p d && allFL p ds
end
theorem allFL_eq (p : Fl → Bool) : ∀ ds, allFL p ds = ds.all (allF p)
  | [] => rfl
  | d :: ds => by rw [allFL, allFL_eq p ds]; rfl

mutual
theorem allF_mapF {p q : Fl → Bool} {g : Fl → Fl} (h : ∀ f, p f = true → q (g f) = true) : ∀ d : D, allF p d = true → allF q (mapF g d) = true
  | .non, _ => rfl
  | .bl _, _ => rfl
  | .int _, _ => rfl
  | .str _, _ => rfl
  | .nd k ds, e => by
    unfold allF at e
    rw [Bool.and_eq_true] at e
    unfold mapF allF
    rw [Bool.and_eq_true]
    refine ⟨?_, allFL_mapF h ds e.2⟩
    cases k with
    | tup => rfl
    | lst f => exact h f e.1
    | dct f ks => exact h f e.1
    | obj f c fs => exact h f e.1
    | exc f c fs => exact h f e.1
theorem allFL_mapF {p q : Fl → Bool} {g : Fl → Fl} (h : ∀ f, p f = true → q (g f) = true) : ∀ ds : List D, allFL p ds = true → allFL q (mapFL g ds) = true
  | [], _ => rfl
  | d :: ds, e => by
    unfold allFL at e
    rw [Bool.and_eq_true] at e
    unfold mapFL allFL
    rw [Bool.and_eq_true]
    exact ⟨allF_mapF h d e.1, allFL_mapF h ds e.2⟩
end

/-! ### the relation, forms -/
section
variable {K : PySem.W.Frag} {cm : Cm} {H H' : Hp} {Z Z' : Zn}
theorem RepL.len : ∀ {ds : List D} {vs : List V} {Fs : List (List Addr)}, RepL K cm H Z ds vs Fs → vs.length = ds.length ∧ Fs.length = ds.length
  | [], _, _, h => by obtain ⟨rfl, rfl⟩ := h; exact ⟨rfl, rfl⟩
  | _ :: ds, _, _, h => by
    obtain ⟨v, vs', F, Fs', rfl, rfl, _, h2⟩ := h
    obtain ⟨a, b⟩ := RepL.len h2
    exact ⟨by simp [a], by simp [b]⟩
theorem repL_nil : RepL K cm H Z [] [] [] := ⟨rfl, rfl⟩
theorem repL_cons {d : D} {ds : List D} {v : V} {vs : List V} {F : List Addr} {Fs : List (List Addr)} (h : Rep K cm H Z d v F) (hs : RepL K cm H Z ds vs Fs) : RepL K cm H Z (d :: ds) (v :: vs) (F :: Fs) :=
  ⟨v, vs, F, Fs, rfl, rfl, h, hs⟩
theorem RepL.get : ∀ {ds : List D} {vs : List V} {Fs : List (List Addr)} {i : Nat} {d : D}, RepL K cm H Z ds vs Fs → ds[i]? = some d → ∃ v F, vs[i]? = some v ∧ Fs[i]? = some F ∧ Rep K cm H Z d v F
  | [], _, _, i, d, _, e => by simp at e
  | d0 :: ds, _, _, 0, d, h, e => by
    obtain ⟨v, vs', F, Fs', rfl, rfl, h1, h2⟩ := h
    simp at e; subst e
    exact ⟨v, F, rfl, rfl, h1⟩
  | d0 :: ds, _, _, i + 1, d, h, e => by
    obtain ⟨v, vs', F, Fs', rfl, rfl, h1, h2⟩ := h
    obtain ⟨v1, F1, a, b, c⟩ := RepL.get (i := i) (d := d) h2 (by simpa using e)
    exact ⟨v1, F1, by simpa using a, by simpa using b, c⟩
theorem RepL.app : ∀ {ds es : List D} {vs us : List V} {Fs Gs : List (List Addr)}, RepL K cm H Z ds vs Fs → RepL K cm H Z es us Gs → RepL K cm H Z (ds ++ es) (vs ++ us) (Fs ++ Gs)
  | [], _, _, _, _, _, h, g => by obtain ⟨rfl, rfl⟩ := h; exact g
  | d :: ds, _, _, _, _, _, h, g => by
    obtain ⟨v, vs', F, Fs', rfl, rfl, h1, h2⟩ := h
    exact repL_cons h1 (RepL.app h2 g)
theorem RepL.set : ∀ {ds : List D} {vs : List V} {Fs : List (List Addr)} (i : Nat) {d : D} {v : V} {F : List Addr}, RepL K cm H Z ds vs Fs → Rep K cm H Z d v F → RepL K cm H Z (ds.set i d) (vs.set i v) (Fs.set i F)
  | [], _, _, _, _, _, _, h, _ => by obtain ⟨rfl, rfl⟩ := h; exact repL_nil
  | d0 :: ds, _, _, 0, _, _, _, h, g => by
    obtain ⟨v, vs', F, Fs', rfl, rfl, h1, h2⟩ := h
    exact repL_cons g h2
  | d0 :: ds, _, _, i + 1, _, _, _, h, g => by
    obtain ⟨v, vs', F, Fs', rfl, rfl, h1, h2⟩ := h
    exact repL_cons h1 (RepL.set i h2 g)
theorem RepL.take : ∀ {ds : List D} {vs : List V} {Fs : List (List Addr)} (n : Nat), RepL K cm H Z ds vs Fs → RepL K cm H Z (ds.take n) (vs.take n) (Fs.take n)
  | [], _, _, _, h => by obtain ⟨rfl, rfl⟩ := h; simp [RepL]
  | d0 :: ds, _, _, 0, h => by simp [RepL]
  | d0 :: ds, _, _, n + 1, h => by
    obtain ⟨v, vs', F, Fs', rfl, rfl, h1, h2⟩ := h
    exact repL_cons h1 (RepL.take n h2)
theorem RepL.drop : ∀ {ds : List D} {vs : List V} {Fs : List (List Addr)} (n : Nat), RepL K cm H Z ds vs Fs → RepL K cm H Z (ds.drop n) (vs.drop n) (Fs.drop n)
  | [], _, _, _, h => by obtain ⟨rfl, rfl⟩ := h; simp [RepL]
  | d0 :: ds, _, _, 0, h => h
  | d0 :: ds, _, _, n + 1, h => by
    obtain ⟨v, vs', F, Fs', rfl, rfl, h1, h2⟩ := h
    exact RepL.drop n h2

/-! ### moves of the relation -/
/-- what has to hold of each cell -/
def CellMove (K : PySem.W.Frag) (cm : Cm) (H H' : Hp) (Z Z' : Zn) (g : Fl → Fl) (O : Addr → Prop) : Prop :=
  ∀ a k vs, Cell K cm H Z a k vs → (k.isOwn = true → O a) → Cell K cm H' Z' a (k.mapF g) vs
theorem isOwn_mapF {g : Fl → Fl} (hg : g .own = .own) (hg2 : ∀ f, g f = .own → f = .own) (k : Kd) : (k.mapF g).isOwn = k.isOwn := by
  have key : ∀ f : Fl, (some (g f) == some Fl.own) = (some f == some Fl.own) := fun f => by
    by_cases e : f = .own
    · rw [e, hg]
    · have e2 : g f ≠ .own := fun q => e (hg2 f q)
      have a : (some f == some Fl.own) = false := by simpa using e
      have b : (some (g f) == some Fl.own) = false := by simpa using e2
      rw [a, b]
  cases k with
  | tup => rfl
  | lst f => exact key f
  | dct f ks => exact key f
  | obj f c fs => exact key f
  | exc f c fs => exact key f
mutual
theorem Rep.move {g : Fl → Fl} {O : Addr → Prop} (m : CellMove K cm H H' Z Z' g O) (hg : g .own = .own) (hg2 : ∀ f, g f = .own → f = .own) : ∀ (d : D) {v : V} {F : List Addr}, Rep K cm H Z d v F → (∀ a ∈ F, O a) → Rep K cm H' Z' (mapF g d) v F
  | .non, _, _, h, _ => h
  | .bl _, _, _, h, _ => h
  | .int _, _, _, h, _ => h
  | .str _, _, _, h, _ => h
  | .nd k ds, v, F, h, o => by
    obtain ⟨a, vs, Fs, rfl, hc, hl, rfl⟩ := h
    have hk : (k.mapF g).isOwn = k.isOwn := isOwn_mapF hg hg2 k
    refine ⟨a, vs, Fs, rfl, m a k vs hc fun q => o a ?_, RepL.move m hg hg2 ds hl fun b hb => o b (List.mem_append_right _ hb), ?_⟩
    · unfold ownA; rw [q]; simp
    · unfold ownA; rw [hk]
theorem RepL.move {g : Fl → Fl} {O : Addr → Prop} (m : CellMove K cm H H' Z Z' g O) (hg : g .own = .own) (hg2 : ∀ f, g f = .own → f = .own) : ∀ (ds : List D) {vs : List V} {Fs : List (List Addr)}, RepL K cm H Z ds vs Fs → (∀ a ∈ Fs.flatten, O a) → RepL K cm H' Z' (mapFL g ds) vs Fs
  | [], _, _, h, _ => h
  | d :: ds, vs, Fs, h, o => by
    obtain ⟨v, vs', F, Fs', rfl, rfl, h1, h2⟩ := h
    exact ⟨v, vs', F, Fs', rfl, rfl, Rep.move m hg hg2 d h1 fun b hb => o b (by simp [hb]), RepL.move m hg hg2 ds h2 fun b hb => o b (by rw [List.flatten_cons]; exact List.mem_append_right _ hb)⟩
end
mutual
/-- nothing owned any more -/
theorem Rep.give {g : Fl → Fl} {O : Addr → Prop} (m : CellMove K cm H H' Z Z' g O) (hg : ∀ f, g f ≠ .own) : ∀ (d : D) {v : V} {F : List Addr}, Rep K cm H Z d v F → (∀ a ∈ F, O a) → Rep K cm H' Z' (mapF g d) v []
  | .non, _, _, h, _ => ⟨h.1, rfl⟩
  | .bl _, _, _, h, _ => ⟨h.1, rfl⟩
  | .int _, _, _, h, _ => ⟨h.1, rfl⟩
  | .str _, _, _, h, _ => ⟨h.1, rfl⟩
  | .nd k ds, v, F, h, o => by
    obtain ⟨a, vs, Fs, rfl, hc, hl, rfl⟩ := h
    have hk : (k.mapF g).isOwn = false := by
      cases k with
      | tup => rfl
      | lst f => simp [Kd.mapF, Kd.isOwn, Kd.fl, hg f]
      | dct f ks => simp [Kd.mapF, Kd.isOwn, Kd.fl, hg f]
      | obj f c fs => simp [Kd.mapF, Kd.isOwn, Kd.fl, hg f]
      | exc f c fs => simp [Kd.mapF, Kd.isOwn, Kd.fl, hg f]
    obtain ⟨Gs, hG, hl'⟩ := RepL.give m hg ds hl fun b hb => o b (List.mem_append_right _ hb)
    refine ⟨a, vs, Gs, rfl, m a k vs hc fun q => o a ?_, hl', ?_⟩
    · unfold ownA; rw [q]; simp
    · unfold ownA; rw [hk, hG]; rfl
theorem RepL.give {g : Fl → Fl} {O : Addr → Prop} (m : CellMove K cm H H' Z Z' g O) (hg : ∀ f, g f ≠ .own) : ∀ (ds : List D) {vs : List V} {Fs : List (List Addr)}, RepL K cm H Z ds vs Fs → (∀ a ∈ Fs.flatten, O a) → ∃ Gs, Gs.flatten = [] ∧ RepL K cm H' Z' (mapFL g ds) vs Gs
  | [], _, _, h, _ => ⟨[], rfl, h.1, rfl⟩
  | d :: ds, vs, Fs, h, o => by
    obtain ⟨v, vs', F, Fs', rfl, rfl, h1, h2⟩ := h
    obtain ⟨Gs, hG, hl'⟩ := RepL.give m hg ds h2 fun b hb => o b (by rw [List.flatten_cons]; exact List.mem_append_right _ hb)
    exact ⟨[] :: Gs, by simpa using hG, repL_cons (Rep.give m hg d h1 fun b hb => o b (by simp [hb])) hl'⟩
end
theorem Kd.mapF_id : ∀ k : Kd, k.mapF id = k
  | .tup => rfl
  | .lst _ => rfl
  | .dct _ _ => rfl
  | .obj _ _ _ => rfl
  | .exc _ _ _ => rfl
mutual
theorem mapF_id : ∀ d : D, mapF id d = d
  | .non => rfl
  | .bl _ => rfl
  | .int _ => rfl
  | .str _ => rfl
  | .nd k ds => by rw [mapF, Kd.mapF_id, mapFL_id ds]
theorem mapFL_id : ∀ ds : List D, mapFL id ds = ds
  | [] => rfl
  | d :: ds => by rw [mapFL, mapF_id d, mapFL_id ds]
end
/-- the heap is kept at what d stands on -/
theorem Rep.stay {O : Addr → Prop} (m : CellMove K cm H H' Z Z' id O) {d : D} {v : V} {F : List Addr} (h : Rep K cm H Z d v F) (o : ∀ a ∈ F, O a) : Rep K cm H' Z' d v F := by
  have q := Rep.move m rfl (fun _ e => e) d h o
  rwa [mapF_id] at q
theorem RepL.stay {O : Addr → Prop} (m : CellMove K cm H H' Z Z' id O) {ds : List D} {vs : List V} {Fs : List (List Addr)} (h : RepL K cm H Z ds vs Fs) (o : ∀ a ∈ Fs.flatten, O a) : RepL K cm H' Z' ds vs Fs := by
  have q := RepL.move m rfl (fun _ e => e) ds h o
  rwa [mapFL_id] at q
end

/-! ### the heap only grows -/
def Grow (H H' : Hp) : Prop := ∀ a o, H a = some o → H' a = some o
theorem Grow.refl (H : Hp) : Grow H H := fun _ _ h => h
theorem Grow.trans {H H1 H2 : Hp} (a : Grow H H1) (b : Grow H1 H2) : Grow H H2 := fun x o h => b x o (a x o h)
theorem Grow.new {H : Hp} {p : Addr} {o : HO} (h : H p = none) : Grow H (upd H p o) := fun a u e => by
  rw [upd_ne (ne_of_none e h)]
  exact e
theorem Grow.back {H H' : Hp} {a : Addr} (g : Grow H H') (h : H' a = none) : H a = none := by
  cases e : H a with
  | none => rfl
  | some o => rw [g a o e] at h; cases h
theorem Grow.rd {H H' : Hp} {a : Addr} {u : HO} (g : Grow H H') (h : Rd H a u) : Rd H' a u := by
  rcases h with h | ⟨o, h⟩
  · exact .inl (g _ _ h)
  · exact .inr ⟨o, g _ _ h⟩
theorem Grow.sqL {K : PySem.W.Frag} {H H' : Hp} {a : Addr} {vs : List V} (g : Grow H H') (h : SqL K H a vs) : SqL K H' a vs := by
  rcases h with h | h
  · rcases h with h | ⟨o, h⟩
    · exact .inl (.inl (g _ _ h))
    · exact .inl (.inr ⟨o, g _ _ h⟩)
  · exact .inr h
theorem Grow.sqT {K : PySem.W.Frag} {H H' : Hp} {a : Addr} {vs : List V} (g : Grow H H') (h : SqT K H a vs) : SqT K H' a vs := by
  rcases h with h | h
  · rcases h with h | ⟨o, h⟩
    · exact .inl (.inl (g _ _ h))
    · exact .inl (.inr ⟨o, g _ _ h⟩)
  · exact .inr h
/-- growth, the flags' sets grow -/
structure Ext (H : Hp) (Z : Zn) (H' : Hp) (Z' : Zn) : Prop where
  gr : Grow H H'
  f : ∀ a, Z.f a → Z'.f a
  fn : ∀ a, Z'.f a → Z.f a ∨ H a = none
  fd : ∀ a, Z'.f a → H' a ≠ none
  b : Z'.b = Z.b
  t : Z'.t = Z.t
structure Dom (H : Hp) (Z : Zn) : Prop where
  f : ∀ a, Z.f a → H a ≠ none
  b : ∀ a, Z.b a → H a ≠ none
  t : ∀ a, Z.t a → H a ≠ none
theorem Dom.ext {H H' : Hp} {Z Z' : Zn} (d : Dom H Z) (e : Ext H Z H' Z') : Dom H' Z' := ⟨e.fd, fun a h => by
  rw [e.b] at h
  intro q
  exact d.b a h (e.gr.back q), fun a h => by
  rw [e.t] at h
  intro q
  exact d.t a h (e.gr.back q)⟩
theorem Ext.refl {H : Hp} {Z : Zn} (d : Dom H Z) : Ext H Z H Z := ⟨.refl H, fun _ h => h, fun _ h => .inl h, d.f, rfl, rfl⟩
theorem Ext.trans {H H1 H2 : Hp} {Z Z1 Z2 : Zn} (a : Ext H Z H1 Z1) (b : Ext H1 Z1 H2 Z2) : Ext H Z H2 Z2 :=
  ⟨a.gr.trans b.gr, fun x h => b.f x (a.f x h), fun x h => (b.fn x h).elim (fun q => a.fn x q) fun q => .inr (a.gr.back q), b.fd, b.b.trans a.b, b.t.trans a.t⟩
theorem Ext.grow {H H' : Hp} {Z : Zn} (d : Dom H Z) (g : Grow H H') : Ext H Z H' Z := ⟨g, fun _ h => h, fun _ h => .inl h, fun a h q => d.f a h (g.back q), rfl, rfl⟩
section
variable {K : PySem.W.Frag} {cm : Cm} {H H' : Hp} {Z Z' : Zn}
theorem Zn.ok_mono {a : Addr} (f : ∀ a, Z.f a → Z'.f a) (b : ∀ a, Z.b a → Z'.b a) (t : ∀ a, Z.t a → Z'.t a) : ∀ {x : Fl}, Z.ok a x → Z'.ok a x
  | .own, h => h
  | .frz, h => f a h
  | .bor, h => b a h
  | .tmp, h => t a h
theorem cell_grow (g : Grow H H') (f : ∀ a, Z.f a → Z'.f a) (b : ∀ a, Z.b a → Z'.b a) (t : ∀ a, Z.t a → Z'.t a) : CellMove K cm H H' Z Z' id (fun _ => True) := fun a k vs h _ => by
  cases k with
  | tup => exact g.sqT h
  | lst fl => exact ⟨fun e => g _ _ (h.1 e), g.rd h.2.1, Zn.ok_mono f b t h.2.2⟩
  | dct fl ks => exact ⟨fun e => g _ _ (h.1 e), g.rd h.2.1, h.2.2.1, Zn.ok_mono f b t h.2.2.2⟩
  | obj fl c fs =>
    obtain ⟨⟨dx, e⟩, l, o⟩ := h
    exact ⟨⟨dx, g _ _ e⟩, l, Zn.ok_mono f b t o⟩
  | exc fl c fs =>
    obtain ⟨⟨dx, e, q⟩, l, o⟩ := h
    refine ⟨⟨dx, g _ _ e, ?_⟩, l, Zn.ok_mono f b t o⟩
    cases dx with
    | none => exact q
    | some d => exact g _ _ q
theorem Rep.grow {d : D} {v : V} {F : List Addr} (h : Rep K cm H Z d v F) (g : Grow H H') (f : ∀ a, Z.f a → Z'.f a) (b : ∀ a, Z.b a → Z'.b a) (t : ∀ a, Z.t a → Z'.t a) : Rep K cm H' Z' d v F :=
  h.stay (cell_grow g f b t) fun _ _ => trivial
theorem RepL.grow {ds : List D} {vs : List V} {Fs : List (List Addr)} (h : RepL K cm H Z ds vs Fs) (g : Grow H H') (f : ∀ a, Z.f a → Z'.f a) (b : ∀ a, Z.b a → Z'.b a) (t : ∀ a, Z.t a → Z'.t a) : RepL K cm H' Z' ds vs Fs :=
  h.stay (cell_grow g f b t) fun _ _ => trivial
theorem Rep.ext {d : D} {v : V} {F : List Addr} (h : Rep K cm H Z d v F) (e : Ext H Z H' Z') : Rep K cm H' Z' d v F :=
  h.grow e.gr e.f (fun a q => by rw [e.b]; exact q) (fun a q => by rw [e.t]; exact q)
theorem RepL.ext {ds : List D} {vs : List V} {Fs : List (List Addr)} (h : RepL K cm H Z ds vs Fs) (e : Ext H Z H' Z') : RepL K cm H' Z' ds vs Fs :=
  h.grow e.gr e.f (fun a q => by rw [e.b]; exact q) (fun a q => by rw [e.t]; exact q)
/-- flags changed, the heap as it is -/
theorem cell_flag {g : Fl → Fl} {O : Addr → Prop} (hl : ∀ a, O a → ∀ f, f = .own → g f ≠ .own → Z'.ok a (g f)) (ho : ∀ a f, f ≠ .own → Z.ok a f → Z'.ok a (g f)) (hw : ∀ f, g f = .own → f = .own) : CellMove K cm H H Z Z' g O := fun a k vs h o => by
  have key : ∀ f : Fl, (f = .own → O a) → Z.ok a f → Z'.ok a (g f) := fun f of ok => by
    by_cases e : f = .own
    · by_cases e2 : g f = .own
      · rw [e2]; trivial
      · exact hl a (of e) f e e2
    · exact ho a f e ok
  cases k with
  | tup => exact h
  | lst fl => exact ⟨fun e => h.1 (hw _ e), h.2.1, key fl (fun e => o (by rw [e]; rfl)) h.2.2⟩
  | dct fl ks => exact ⟨fun e => h.1 (hw _ e), h.2.1, h.2.2.1, key fl (fun e => o (by rw [e]; rfl)) h.2.2.2⟩
  | obj fl c fs => exact ⟨h.1, h.2.1, key fl (fun e => o (by rw [e]; rfl)) h.2.2⟩
  | exc fl c fs => exact ⟨h.1, h.2.1, key fl (fun e => o (by rw [e]; rfl)) h.2.2⟩
end

/-! ### owned things stand, and may be written -/
section
variable {K : PySem.W.Frag} {cm : Cm} {H H' : Hp} {Z Z' : Zn}
mutual
theorem Rep.mut : ∀ (d : D) {v : V} {F : List Addr}, Rep K cm H Z d v F → ∀ a ∈ F, Mut (H a)
  | .non, _, _, h, a, q => by rw [h.2] at q; cases q
  | .bl _, _, _, h, a, q => by rw [h.2] at q; cases q
  | .int _, _, _, h, a, q => by rw [h.2] at q; cases q
  | .str _, _, _, h, a, q => by rw [h.2] at q; cases q
  | .nd k ds, v, F, h, a, q => by
    obtain ⟨p, vs, Fs, rfl, hc, hl, rfl⟩ := h
    rcases List.mem_append.mp q with q | q
    · unfold ownA at q
      cases k with
      | tup => cases q
      | lst f =>
        cases f with
        | own =>
          have e : a = p := by simpa [Kd.isOwn, Kd.fl] using q
          subst e
          rw [hc.1 rfl]; trivial
        | _ => cases q
      | dct f ks =>
        cases f with
        | own =>
          have e : a = p := by simpa [Kd.isOwn, Kd.fl] using q
          subst e
          rw [hc.1 rfl]; trivial
        | _ => cases q
      | obj f c fs =>
        cases f with
        | own =>
          have e : a = p := by simpa [Kd.isOwn, Kd.fl] using q
          subst e
          obtain ⟨dx, e⟩ := hc.1
          rw [e]; trivial
        | _ => cases q
      | exc f c fs =>
        cases f with
        | own =>
          have e : a = p := by simpa [Kd.isOwn, Kd.fl] using q
          subst e
          obtain ⟨dx, e, _⟩ := hc.1
          rw [e]; trivial
        | _ => cases q
    · exact RepL.mut ds hl a q
theorem RepL.mut : ∀ (ds : List D) {vs : List V} {Fs : List (List Addr)}, RepL K cm H Z ds vs Fs → ∀ a ∈ Fs.flatten, Mut (H a)
  | [], _, _, h, a, q => by rw [h.2] at q; cases q
  | d :: ds, _, _, h, a, q => by
    obtain ⟨v, vs', F, Fs', rfl, rfl, h1, h2⟩ := h
    rw [List.flatten_cons] at q
    rcases List.mem_append.mp q with q | q
    · exact Rep.mut d h1 a q
    · exact RepL.mut ds h2 a q
end
/-- one object that d doesn't stand on is written -/
theorem cell_upd {p : Addr} {o : HO} (mu : Mut (H p)) (nf : ¬ Z.f p) (nb : ¬ Z.b p) (nt : ¬ Z.t p) : CellMove K cm H (upd H p o) Z Z id (fun a => a ≠ p) := fun a k vs h ho => by
  have nm : ∀ u, Mut (some u) = False → H a = some u → a ≠ p := fun u e q z => by subst z; rw [q, e] at mu; exact mu
  have ne : ∀ fl : Fl, (fl = .own → a ≠ p) → Z.ok a fl → a ≠ p := fun fl h1 h2 z => by
    subst z
    cases fl with
    | own => exact h1 rfl rfl
    | frz => exact nf h2
    | bor => exact nb h2
    | tmp => exact nt h2
  have rd : ∀ u, a ≠ p → Rd H a u → Rd (upd H p o) a u := fun u n r => by
    rcases r with r | ⟨ob, r⟩
    · exact .inl (by rw [upd_ne n]; exact r)
    · exact .inr ⟨ob, by rw [upd_ne n]; exact r⟩
  cases k with
  | tup =>
    rcases h with (h | ⟨ob, h⟩) | h
    · exact .inl (.inl (by rw [upd_ne (nm _ rfl h)]; exact h))
    · exact .inl (.inr ⟨ob, by rw [upd_ne (nm _ rfl h)]; exact h⟩)
    · exact .inr h
  | lst fl =>
    have n := ne fl (fun e => ho (by rw [e]; rfl)) h.2.2
    exact ⟨fun e => by rw [upd_ne n]; exact h.1 e, rd _ n h.2.1, h.2.2⟩
  | dct fl ks =>
    have n := ne fl (fun e => ho (by rw [e]; rfl)) h.2.2.2
    exact ⟨fun e => by rw [upd_ne n]; exact h.1 e, rd _ n h.2.1, h.2.2⟩
  | obj fl c fs =>
    have n := ne fl (fun e => ho (by rw [e]; rfl)) h.2.2
    obtain ⟨⟨dx, e⟩, l, q⟩ := h
    exact ⟨⟨dx, by rw [upd_ne n]; exact e⟩, l, q⟩
  | exc fl c fs =>
    have n := ne fl (fun e => ho (by rw [e]; rfl)) h.2.2
    obtain ⟨⟨dx, e, q⟩, l, z⟩ := h
    refine ⟨⟨dx, by rw [upd_ne n]; exact e, ?_⟩, l, z⟩
    cases dx with
    | none => exact q
    | some d => exact (upd_ne (fun z => by subst z; have q : H d = _ := q; rw [q] at mu; exact mu)).trans q
theorem Rep.upd {p : Addr} {o : HO} {d : D} {v : V} {F : List Addr} (h : Rep K cm H Z d v F) (mu : Mut (H p)) (nF : p ∉ F) (nf : ¬ Z.f p) (nb : ¬ Z.b p) (nt : ¬ Z.t p) : Rep K cm (upd H p o) Z d v F :=
  h.stay (cell_upd mu nf nb nt) fun a ha z => nF (z ▸ ha)
theorem RepL.upd {p : Addr} {o : HO} {ds : List D} {vs : List V} {Fs : List (List Addr)} (h : RepL K cm H Z ds vs Fs) (mu : Mut (H p)) (nF : p ∉ Fs.flatten) (nf : ¬ Z.f p) (nb : ¬ Z.b p) (nt : ¬ Z.t p) : RepL K cm (upd H p o) Z ds vs Fs :=
  h.stay (cell_upd mu nf nb nt) fun a ha z => nF (z ▸ ha)
mutual
theorem Rep.only {pf : Fl → Bool} (hz : ∀ a f, pf f = true → Z.ok a f → Z'.ok a f) : ∀ (d : D) {v : V} {F : List Addr}, Rep K cm H Z d v F → allF pf d = true → Rep K cm H Z' d v F
  | .non, _, _, h, _ => h
  | .bl _, _, _, h, _ => h
  | .int _, _, _, h, _ => h
  | .str _, _, _, h, _ => h
  | .nd k ds, v, F, h, e => by
    obtain ⟨a, vs, Fs, rfl, hc, hl, rfl⟩ := h
    unfold allF at e
    rw [Bool.and_eq_true] at e
    refine ⟨a, vs, Fs, rfl, ?_, RepL.only hz ds hl e.2, rfl⟩
    cases k with
    | tup => exact hc
    | lst f => exact ⟨hc.1, hc.2.1, hz a f e.1 hc.2.2⟩
    | dct f ks => exact ⟨hc.1, hc.2.1, hc.2.2.1, hz a f e.1 hc.2.2.2⟩
    | obj f c fs => exact ⟨hc.1, hc.2.1, hz a f e.1 hc.2.2⟩
    | exc f c fs => exact ⟨hc.1, hc.2.1, hz a f e.1 hc.2.2⟩
theorem RepL.only {pf : Fl → Bool} (hz : ∀ a f, pf f = true → Z.ok a f → Z'.ok a f) : ∀ (ds : List D) {vs : List V} {Fs : List (List Addr)}, RepL K cm H Z ds vs Fs → allFL pf ds = true → RepL K cm H Z' ds vs Fs
  | [], _, _, h, _ => h
  | d :: ds, _, _, h, e => by
    obtain ⟨v, vs', F, Fs', rfl, rfl, h1, h2⟩ := h
    unfold allFL at e
    rw [Bool.and_eq_true] at e
    exact repL_cons (Rep.only hz d h1 e.1) (RepL.only hz ds h2 e.2)
end
theorem mut_ne {o : Option HO} (h : Mut o) : o ≠ none := fun e => by rw [e] at h; exact h
end
end OB

namespace OB
open PySem PySem.Spec PyProof.Rows L2

abbrev En := List (Option D)
structure RepE (K : PySem.W.Frag) (cm : Cm) (H : Hp) (Z : Zn) (σ : L2.St) (ρ : En) (Fs : List (List Addr)) : Prop where
  lσ : σ.length = ρ.length
  lF : Fs.length = ρ.length
  get : ∀ (i : Nat) (d : D), ρ[i]? = some (some d) → ∃ v F, σ[i]? = some (some v) ∧ Fs[i]? = some F ∧ Rep K cm H Z d v F
structure OkP (K : PySem.W.Frag) (cm : Cm) (H : Hp) (σ : L2.St) (ρ : En) (Fs : List (List Addr)) (Z : Zn) : Prop where
  rep : RepE K cm H Z σ ρ Fs
  dom : Dom H Z
  tm : ∀ a ∈ Fs.flatten, Z.t a
structure Res (K : PySem.W.Frag) (cm : Cm) (H : Hp) (Z : Zn) (H' : Hp) (Z' : Zn) (A : List Addr) (d : D) (v : V) (F : List Addr) : Prop where
  ext : Ext H Z H' Z'
  rep : Rep K cm H' Z' d v F
  nd : F.Nodup
  fr : ∀ a ∈ F, H a = none ∨ a ∈ A
  nf : ∀ a ∈ F, ¬ Z'.f a
structure ResL (K : PySem.W.Frag) (cm : Cm) (H : Hp) (Z : Zn) (H' : Hp) (Z' : Zn) (A : List Addr) (ds : List D) (vs : List V) (Fs : List (List Addr)) : Prop where
  ext : Ext H Z H' Z'
  rep : RepL K cm H' Z' ds vs Fs
  nd : Fs.flatten.Nodup
  fr : ∀ a ∈ Fs.flatten, H a = none ∨ a ∈ A
  nf : ∀ a ∈ Fs.flatten, ¬ Z'.f a
def noB (d : D) : Bool := allF (fun f => f == .own || f == .frz) d
def xB (x : XD) : Bool := match x.fld with
  | none => true
  | some p => noB p.2
def XRep (K : PySem.W.Frag) (cm : Cm) (H : Hp) (Z : Zn) (x : XD) (cls : Value) (dd : Option Addr) : Prop :=
  cls = .ref (cm x.cls) ∧ xB x = true ∧ match x.fld with
    | none => dd = none
    | some (n, d) => ∃ a v, dd = some a ∧ H a = some (.xd [(n, v)]) ∧ Rep K cm H Z d v []

/-- what is asked of an expression's reading -/
def FinD (K : PySem.W.Frag) (cm : Cm) (W : WX) (σ : L2.St) (H : Hp) (Z : Zn) (Q : VK) : Ot D → Prop
  | .no => False
  | .ok d => ∀ v H' Z' F, Res K cm H Z H' Z' [] d v F → Q v H'
  | .ex x => ∀ cls dd H' Z', Ext H Z H' Z' → XRep K cm H' Z' x cls dd → W cls dd σ H'
def FinL (K : PySem.W.Frag) (cm : Cm) (W : WX) (σ : L2.St) (H : Hp) (Z : Zn) (Q : List V → Hp → Prop) : Ot (List D) → Prop
  | .no => False
  | .ok ds => ∀ vs H' Z' Fs, ResL K cm H Z H' Z' [] ds vs Fs → Q vs H'
  | .ex x => ∀ cls dd H' Z', Ext H Z H' Z' → XRep K cm H' Z' x cls dd → W cls dd σ H'
def FinB (K : PySem.W.Frag) (cm : Cm) (W : WX) (σ : L2.St) (H : Hp) (Z : Zn) (Q : Bool → Hp → Prop) : Ot Bool → Prop
  | .no => False
  | .ok b => ∀ H' Z', Ext H Z H' Z' → Q b H'
  | .ex x => ∀ cls dd H' Z', Ext H Z H' Z' → XRep K cm H' Z' x cls dd → W cls dd σ H'
def tP (K : PySem.W.Frag) (cm : Cm) (W : WX) (f : En → Ot D) : TE := fun σ H Q => ∃ Z ρ Fs, OkP K cm H σ ρ Fs Z ∧ FinD K cm W σ H Z Q (f ρ)
def tPL (K : PySem.W.Frag) (cm : Cm) (W : WX) (f : En → Ot (List D)) : TA := fun σ H Q => ∃ Z ρ Fs, OkP K cm H σ ρ Fs Z ∧ FinL K cm W σ H Z Q (f ρ)
def tPT (K : PySem.W.Frag) (cm : Cm) (W : WX) (f : En → Ot Bool) : TT := fun σ H Q => ∃ Z ρ Fs, OkP K cm H σ ρ Fs Z ∧ FinB K cm W σ H Z Q (f ρ)
abbrev SE (X : Cx) (cm : Cm) (W : WX) (e : Expr) (f : En → Ot D) : Prop := PE X e (tP X.K cm W f)
abbrev SA (X : Cx) (cm : Cm) (W : WX) (es : List Expr) (f : En → Ot (List D)) : Prop := PA X es (tPL X.K cm W f)
abbrev ST (X : Cx) (cm : Cm) (W : WX) (e : Expr) (f : En → Ot Bool) : Prop := PT X e (tPT X.K cm W f)
abbrev SW (X : Cx) (cm : Cm) (W : WX) (e : Expr) (f : En → Ot Bool) : Prop := PW X e (tPT X.K cm W f)

theorem PE.imp {X : Cx} {e : Expr} {t t' : TE} (h : PE X e t) (i : ∀ σ H Q, t' σ H Q → t σ H Q) : PE X e t' := ⟨fun pins s σ H Q I q => h.run pins s σ H Q I (i σ H Q q)⟩
theorem PT.imp {X : Cx} {e : Expr} {t t' : TT} (h : PT X e t) (i : ∀ σ H Q, t' σ H Q → t σ H Q) : PT X e t' := ⟨fun pins s σ H Q I q => h.run pins s σ H Q I (i σ H Q q)⟩
theorem PW.imp {X : Cx} {e : Expr} {t t' : TT} (h : PW X e t) (i : ∀ σ H Q, t' σ H Q → t σ H Q) : PW X e t' := ⟨fun w pins s σ H Q I q => h.run w pins s σ H Q I (i σ H Q q)⟩
theorem PA.imp {X : Cx} {es : List Expr} {t t' : TA} (h : PA X es t) (i : ∀ σ H Q, t' σ H Q → t σ H Q) : PA X es t' := ⟨fun p pins s σ H Q I q => h.run p pins s σ H Q I (i σ H Q q)⟩

section
variable {K : PySem.W.Frag} {cm : Cm} {H H1 H2 H' : Hp} {Z Z1 Z2 Z' : Zn} {σ : L2.St} {ρ : En} {Fs : List (List Addr)}
theorem RepE.ext (r : RepE K cm H Z σ ρ Fs) (e : Ext H Z H' Z') : RepE K cm H' Z' σ ρ Fs := ⟨r.lσ, r.lF, fun i d q => by
  obtain ⟨v, F, a, b, c⟩ := r.get i d q
  exact ⟨v, F, a, b, c.ext e⟩⟩
theorem OkP.ext (r : OkP K cm H σ ρ Fs Z) (e : Ext H Z H' Z') : OkP K cm H' σ ρ Fs Z' := ⟨r.rep.ext e, r.dom.ext e, fun a h => by rw [e.t]; exact r.tm a h⟩
theorem XRep.ext {x : XD} {cls : Value} {dd : Option Addr} (h : XRep K cm H Z x cls dd) (e : Ext H Z H' Z') : XRep K cm H' Z' x cls dd := by
  obtain ⟨rfl, nb, h⟩ := h
  refine ⟨rfl, nb, ?_⟩
  cases q : x.fld with
  | none => rw [q] at h; exact h
  | some p =>
    obtain ⟨n, d⟩ := p
    rw [q] at h
    obtain ⟨a, v, rfl, ha, r⟩ := h
    exact ⟨a, v, rfl, e.gr _ _ ha, r.ext e⟩
theorem noB_only {d : D} {v : V} {F : List Addr} (r : Rep K cm H Z d v F) (nb : noB d = true) (hf : ∀ a, Z.f a → Z'.f a) : Rep K cm H Z' d v F := by
  refine Rep.only (pf := fun f => f == .own || f == .frz) (fun a f hf' hz => ?_) d r nb
  cases f with
  | own => trivial
  | frz => exact hf a hz
  | bor => cases hf'
  | tmp => cases hf'
theorem XRep.back {x : XD} {cls : Value} {dd : Option Addr} (h : XRep K cm H Z x cls dd) (hf : ∀ a, Z.f a → Z'.f a) : XRep K cm H Z' x cls dd := by
  obtain ⟨rfl, nb, h⟩ := h
  refine ⟨rfl, nb, ?_⟩
  unfold xB at nb
  cases q : x.fld with
  | none => rw [q] at h; exact h
  | some p =>
    obtain ⟨n, d⟩ := p
    rw [q] at h nb
    obtain ⟨a, v, rfl, ha, r⟩ := h
    exact ⟨a, v, rfl, ha, noB_only r nb hf⟩
theorem Res.trans {A : List Addr} {d : D} {v : V} {F : List Addr} (e : Ext H Z H1 Z1) (r : Res K cm H1 Z1 H' Z' A d v F) (ha : ∀ a ∈ A, H a = none ∨ a ∈ ([] : List Addr)) : Res K cm H Z H' Z' [] d v F :=
  ⟨e.trans r.ext, r.rep, r.nd, fun a h => (r.fr a h).elim (fun q => .inl (e.gr.back q)) fun q => ha a q, r.nf⟩
theorem Res.trans0 {d : D} {v : V} {F : List Addr} (e : Ext H Z H1 Z1) (r : Res K cm H1 Z1 H' Z' [] d v F) : Res K cm H Z H' Z' [] d v F := r.trans e (fun _ q => nomatch q)
/-- an atom -/
theorem Res.atom {d : D} {v : V} (e : Ext H Z H' Z') (r : Rep K cm H' Z' d v []) {A : List Addr} : Res K cm H Z H' Z' A d v [] := ⟨e, r, List.nodup_nil, fun _ q => (nomatch q), fun _ q => (nomatch q)⟩
theorem ResL.nil (d : Dom H Z) : ResL K cm H Z H Z [] [] [] [] := ⟨.refl d, repL_nil, List.nodup_nil, fun _ q => (nomatch q), fun _ q => (nomatch q)⟩
/-- what a new thing owns is new, and stands -/
theorem Res.new {d : D} {v : V} {F : List Addr} (r : Res K cm H Z H1 Z1 [] d v F) : ∀ a ∈ F, H a = none := fun a h => (r.fr a h).resolve_right (fun q => nomatch q)
theorem ResL.new {ds : List D} {vs : List V} {Fs : List (List Addr)} (r : ResL K cm H Z H1 Z1 [] ds vs Fs) : ∀ a ∈ Fs.flatten, H a = none := fun a h => (r.fr a h).resolve_right (fun q => nomatch q)
theorem keep_nf (e : Ext H1 Z1 H2 Z2) {a : Addr} (m : Mut (H1 a)) (n : ¬ Z1.f a) : ¬ Z2.f a := fun q => (e.fn a q).elim n (mut_ne m)
theorem ResL.cons {d : D} {v : V} {F : List Addr} {ds : List D} {vs : List V} {Fs : List (List Addr)} (r : Res K cm H Z H1 Z1 [] d v F) (rs : ResL K cm H1 Z1 H2 Z2 [] ds vs Fs) : ResL K cm H Z H2 Z2 [] (d :: ds) (v :: vs) (F :: Fs) := by
  have hm := Rep.mut d r.rep
  refine ⟨r.ext.trans rs.ext, repL_cons (r.rep.ext rs.ext) rs.rep, ?_, fun a h => ?_, fun a h => ?_⟩
  · rw [List.flatten_cons, List.nodup_append]
    refine ⟨r.nd, rs.nd, fun a ha b hb e => ?_⟩
    subst e
    exact mut_ne (hm a ha) (rs.new a hb)
  · rw [List.flatten_cons] at h
    rcases List.mem_append.mp h with h | h
    · exact .inl (r.new a h)
    · exact .inl (r.ext.gr.back (rs.new a h))
  · rw [List.flatten_cons] at h
    rcases List.mem_append.mp h with h | h
    · exact keep_nf rs.ext (hm a h) (r.nf a h)
    · exact rs.nf a h
end

/-! ### argument lists -/
def eL : List (En → Ot D) → En → Ot (List D)
  | [], _ => .ok []
  | f :: fs, ρ => (f ρ).bind fun d => (eL fs ρ).bind fun ds => .ok (d :: ds)
section
variable {X : Cx} {cm : Cm} {W : WX} {e : Expr} {es : List Expr} {f : En → Ot D} {fs : List (En → Ot D)}
theorem tP_bind {K : PySem.W.Frag} {f : En → Ot D} {σ : L2.St} {H : Hp} {Z : Zn} {ρ : En} {Fs : List (List Addr)} {R : VK} (ok : OkP K cm H σ ρ Fs Z)
    (hn : f ρ ≠ .no) (hk : ∀ d, f ρ = .ok d → ∀ v H' Z' F, Res K cm H Z H' Z' [] d v F → R v H') (hx : ∀ x, f ρ = .ex x → ∀ cls dd H' Z', Ext H Z H' Z' → XRep K cm H' Z' x cls dd → W cls dd σ H') : tP K cm W f σ H R := by
  refine ⟨Z, ρ, Fs, ok, ?_⟩
  cases q : f ρ with
  | no => exact hn q
  | ok d => exact hk d q
  | ex x => exact hx x q
theorem sa_nil : SA X cm W [] (eL []) := PA.imp pa_nil fun σ H Q h => by
  obtain ⟨Z, ρ, Fs, ok, h⟩ := h
  exact h [] H Z [] (.nil ok.dom)
theorem sa_cons (he : SE X cm W e f) (hs : SA X cm W es (eL fs)) (hst : starEach (e :: es) X.env = (false, eval e X.env) :: starEach es X.env := by rfl) : SA X cm W (e :: es) (eL (f :: fs)) :=
  PA.imp (pa_cons he hs hst) fun σ H Q h => by
    obtain ⟨Z, ρ, Fs, ok, h⟩ := h
    refine tP_bind ok (fun q => ?_) (fun d q v H1 Z1 F r => ?_) (fun x q => ?_)
    · rw [eL, q] at h; exact h
    · rw [eL, q, Ot.bind_ok] at h
      refine ⟨Z1, ρ, Fs, ok.ext r.ext, ?_⟩
      cases q2 : eL fs ρ with
      | no => rw [q2] at h; exact h
      | ok ds => rw [q2] at h; exact fun vs H2 Z2 Gs rs => h _ _ _ _ (ResL.cons r rs)
      | ex x => rw [q2] at h; exact fun cls dd H' Z' ex xr => h cls dd H' Z' (r.ext.trans ex) xr
    · rw [eL, q] at h; exact h
end

/-! ### primitives: functions of values -/
/-- a primitive's reading holds if p gives a value -/
def OkPr (K : PySem.W.Frag) (cm : Cm) (r : List V → Hp → VK → Prop) (p : List D → Option D) : Prop :=
  ∀ H Z ds vs Fs d, Dom H Z → RepL K cm H Z ds vs Fs → Fs.flatten.Nodup → (∀ a ∈ Fs.flatten, ¬ Z.f a) → p ds = some d →
    ∀ Q : VK, (∀ v H' Z' F, Res K cm H Z H' Z' Fs.flatten d v F → Q v H') → r vs H Q
def OkPrT (K : PySem.W.Frag) (cm : Cm) (r : List V → Hp → (Bool → Hp → Prop) → Prop) (p : List D → Option Bool) : Prop :=
  ∀ H Z ds vs Fs b, Dom H Z → RepL K cm H Z ds vs Fs → p ds = some b → ∀ Q : Bool → Hp → Prop, Q b H → r vs H Q
def r2L (r : R2) : List V → Hp → VK → Prop := fun vs H Q => ∃ x y, vs = [x, y] ∧ r x y H Q
def r1L (r : V → Hp → VK → Prop) : List V → Hp → VK → Prop := fun vs H Q => ∃ x, vs = [x] ∧ r x H Q
theorem OkPr.or {K : PySem.W.Frag} {cm : Cm} {r r' : List V → Hp → VK → Prop} {p p' : List D → Option D} (h : OkPr K cm r p) (h' : OkPr K cm r' p') :
    OkPr K cm (fun vs H Q => r vs H Q ∨ r' vs H Q) (fun ds => (p ds).or (p' ds)) := fun H Z ds vs Fs d dm rp nd nf e Q q => by
  cases q1 : p ds with
  | some d1 =>
    have e1 : d1 = d := by simpa [q1] using e
    subst e1
    exact .inl (h H Z ds vs Fs d1 dm rp nd nf q1 Q q)
  | none => exact .inr (h' H Z ds vs Fs d dm rp nd nf (by simpa [q1] using e) Q q)

/-- the value of a primitive on what the arguments give -/
def ePr (p : List D → Option D) (fs : List (En → Ot D)) : En → Ot D := fun ρ => (eL fs ρ).bind fun ds => .of (p ds)
section
variable {X : Cx} {cm : Cm} {W : WX}
/-- behind the arguments -/
theorem pr_end {K : PySem.W.Frag} {r : List V → Hp → VK → Prop} {p : List D → Option D} (hp : OkPr K cm r p) {fs : List (En → Ot D)} {σ : L2.St} {H : Hp} {Q : VK} (h : tP K cm W (ePr p fs) σ H Q) :
    tPL K cm W (eL fs) σ H (fun vs H1 => r vs H1 Q) := by
  obtain ⟨Z, ρ, Fs, ok, h⟩ := h
  refine ⟨Z, ρ, Fs, ok, ?_⟩
  unfold ePr at h
  cases q : eL fs ρ with
  | no => rw [q] at h; exact h
  | ex x => rw [q] at h; exact h
  | ok ds =>
    rw [q, Ot.bind_ok] at h
    intro vs H1 Z1 Gs r1
    cases q2 : p ds with
    | none => rw [q2] at h; exact h.elim
    | some d =>
      rw [q2] at h
      refine hp H1 Z1 ds vs Gs d (ok.dom.ext r1.ext) r1.rep r1.nd r1.nf q2 Q fun v H' Z' F rr => h v H' Z' F (rr.trans r1.ext fun a ha => .inl (r1.new a ha))
/-- two places, one after another, as an argument list -/
theorem two_of {K : PySem.W.Frag} {f g : En → Ot D} {σ : L2.St} {H : Hp} {R : V → V → Hp → Prop} (h : tPL K cm W (eL [f, g]) σ H (fun vs H1 => ∃ x y, vs = [x, y] ∧ R x y H1)) :
    tP K cm W f σ H (fun x H1 => tP K cm W g σ H1 (fun y H2 => R x y H2)) := by
  obtain ⟨Z, ρ, Fs, ok, h⟩ := h
  simp only [eL] at h
  refine tP_bind ok (fun q => ?_) (fun d q v H1 Z1 F r => ?_) (fun x q => ?_)
  · rw [q] at h; exact h
  · rw [q, Ot.bind_ok] at h
    refine tP_bind (ok.ext r.ext) (fun q2 => ?_) (fun d2 q2 v2 H2 Z2 F2 r2 => ?_) (fun x q2 => ?_)
    · rw [q2] at h; exact h
    · rw [q2] at h
      obtain ⟨x, y, e, k⟩ := h [v, v2] H2 Z2 _ (ResL.cons r (ResL.cons r2 (.nil ((ok.ext r.ext).dom.ext r2.ext))))
      cases e
      exact k
    · rw [q2] at h; exact fun cls dd H' Z' ex xr => h cls dd H' Z' (r.ext.trans ex) xr
  · rw [q] at h; exact h
theorem one_of {K : PySem.W.Frag} {f : En → Ot D} {σ : L2.St} {H : Hp} {R : V → Hp → Prop} (h : tPL K cm W (eL [f]) σ H (fun vs H1 => ∃ x, vs = [x] ∧ R x H1)) :
    tP K cm W f σ H R := by
  obtain ⟨Z, ρ, Fs, ok, h⟩ := h
  simp only [eL] at h
  refine tP_bind ok (fun q => ?_) (fun d q v H1 Z1 F r => ?_) (fun x q => ?_)
  · rw [q] at h; exact h
  · rw [q, Ot.bind_ok] at h
    obtain ⟨x, e, k⟩ := h [v] H1 Z1 _ (ResL.cons r (.nil (ok.dom.ext r.ext)))
    cases e
    exact k
  · rw [q] at h; exact h
variable {a b e : Expr} {f g : En → Ot D} {pos : Pos}
theorem s_op {op : Operator} {r : R2} {p : List D → Option D} (ho : OpR X (binaryOp op) r) (hp : OkPr X.K cm (r2L r) p) (ha : SE X cm W a f) (hb : SE X cm W b g) : SE X cm W (.BinOp a op b pos) (ePr p [f, g]) :=
  PE.imp (pe_op ho ha hb) fun σ H Q h => two_of (pr_end hp h)
theorem s_cmp {op : CmpOp} {r : R2} {p : List D → Option D} (ho : OpR X (compareOp op) r) (hp : OkPr X.K cm (r2L r) p) (ha : SE X cm W a f) (hb : SE X cm W b g) (hm : behindInMarks op b = false) : SE X cm W (.Compare a [op] [b] pos) (ePr p [f, g]) :=
  PE.imp (pe_cmpR ho ha hb hm) fun σ H Q h => two_of (pr_end hp h)
theorem s_un {op : UnaryOp} {r : V → Hp → VK → Prop} {p : List D → Option D} (ho : UnR X (unaryOp op) r) (hp : OkPr X.K cm (r1L r) p) (ha : SE X cm W a f) : SE X cm W (.UnaryOp op a pos) (ePr p [f]) :=
  PE.imp (pe_un ho ha) fun σ H Q h => one_of (pr_end hp h)
theorem s_ix {r : R2} {p : List D → Option D} (ho : IxR X r) (hp : OkPr X.K cm (r2L r) p) (ha : SE X cm W a f) (hb : SE X cm W b g) (hs : PlainIx b := by exact fun _ _ => rfl) : SE X cm W (.Subscript a b pos) (ePr p [f, g]) :=
  PE.imp (pe_ix ho ha hb hs) fun σ H Q h => two_of (pr_end hp h)
theorem s_callB {x : Str} {p : Pos} {es : List Expr} {id : String} {r : List V → Hp → VK → Prop} {pr : List D → Option D} {fs : List (En → Ot D)} (hc : CallR X (.builtin id) r) (hp : OkPr X.K cm r pr) (hg : Gl X x) (hm : X.mg x = none) (hv : bootBuiltins x = some (.builtin id)) (ha : SA X cm W (e :: es) (eL fs))
    (hn : x ≠ "__name__" := by decide) (hdb : (x == ("__debug__" : Str)) = false := by decide) (he : starEach (e :: es) X.env = (false, eval e X.env) :: starEach es X.env := by rfl) (hpl : (backTo pos (starEach es X.env)).any (·.1) = false := by rfl) :
    SE X cm W (.Call (.Name x p) (e :: es) [] pos) (ePr pr fs) :=
  PE.imp (pe_callB hc hg hm hv ha hn hdb he hpl) fun σ H Q h => pr_end hp h
theorem s_callTy {x : Str} {p : Pos} {es : List Expr} {id : String} {r : List V → Hp → VK → Prop} {pr : List D → Option D} {fs : List (En → Ot D)} (hc : CallR X (.type id) r) (hp : OkPr X.K cm r pr) (hg : Gl X x) (hm : X.mg x = none) (hv : bootBuiltins x = some (.type id)) (ha : SA X cm W (e :: es) (eL fs))
    (hn : x ≠ "__name__" := by decide) (hdb : (x == ("__debug__" : Str)) = false := by decide) (he : starEach (e :: es) X.env = (false, eval e X.env) :: starEach es X.env := by rfl) (hpl : (backTo pos (starEach es X.env)).any (·.1) = false := by rfl) :
    SE X cm W (.Call (.Name x p) (e :: es) [] pos) (ePr pr fs) :=
  PE.imp (pe_callTy hc hg hm hv ha hn hdb he hpl) fun σ H Q h => pr_end hp h
end
end OB

namespace OB
open PySem PySem.Spec PyProof.Rows L2

section
variable {K : PySem.W.Frag} {cm : Cm} {H : Hp} {Z : Zn}
theorem repL1 {d : D} {vs : List V} {Fs : List (List Addr)} (h : RepL K cm H Z [d] vs Fs) : ∃ v F, vs = [v] ∧ Fs = [F] ∧ Rep K cm H Z d v F := by
  obtain ⟨v, vs', F, Fs', rfl, rfl, h1, rfl, rfl⟩ := h
  exact ⟨v, F, rfl, rfl, h1⟩
theorem repL2 {d e : D} {vs : List V} {Fs : List (List Addr)} (h : RepL K cm H Z [d, e] vs Fs) : ∃ v u F G, vs = [v, u] ∧ Fs = [F, G] ∧ Rep K cm H Z d v F ∧ Rep K cm H Z e u G := by
  obtain ⟨v, vs', F, Fs', rfl, rfl, h1, h2⟩ := h
  obtain ⟨u, G, rfl, rfl, h3⟩ := repL1 h2
  exact ⟨v, u, F, G, rfl, rfl, h1, h3⟩
theorem repL3 {d e f : D} {vs : List V} {Fs : List (List Addr)} (h : RepL K cm H Z [d, e, f] vs Fs) : ∃ v u w F G M, vs = [v, u, w] ∧ Fs = [F, G, M] ∧ Rep K cm H Z d v F ∧ Rep K cm H Z e u G ∧ Rep K cm H Z f w M := by
  obtain ⟨v, vs', F, Fs', rfl, rfl, h1, h2⟩ := h
  obtain ⟨u, w, G, M, rfl, rfl, h2, h3⟩ := repL2 h2
  exact ⟨v, u, w, F, G, M, rfl, rfl, h1, h2, h3⟩
theorem rep_int {i : Int} : Rep K cm H Z (.int i) (.int i) [] := ⟨rfl, rfl⟩
theorem rep_str {i : Str} : Rep K cm H Z (.str i) (.str i) [] := ⟨rfl, rfl⟩
theorem rep_bl {i : Bool} : Rep K cm H Z (.bl i) (.bl i) [] := ⟨rfl, rfl⟩
theorem rep_non : Rep K cm H Z .non .non [] := ⟨rfl, rfl⟩
theorem rdL {a : Addr} {vs : List V} (h : Rd H a (.lst vs)) : SqL K H a vs := .inl h
/-- a new object -/
theorem Res.newNd {A : List Addr} {k : Kd} {ds : List D} {vs : List V} {Fs : List (List Addr)} {p : Addr} {o : HO} (dm : Dom H Z) (rl : RepL K cm H Z ds vs Fs) (nd : Fs.flatten.Nodup) (sub : ∀ a ∈ Fs.flatten, H a = none ∨ a ∈ A) (nf : ∀ a ∈ Fs.flatten, ¬ Z.f a)
    (hp : H p = none) (hc : Cell K cm (upd H p o) Z p k vs) : Res K cm H Z (upd H p o) Z A (.nd k ds) (.ref p) (ownA k p ++ Fs.flatten) := by
  have g : Grow H (upd H p o) := .new hp
  have hm := RepL.mut ds rl
  have sp : ∀ a ∈ ownA k p, a = p := fun a h => by
    unfold ownA at h
    split at h
    · simpa using h
    · cases h
  refine ⟨.grow dm g, ⟨p, vs, Fs, rfl, hc, rl.grow g (fun _ h => h) (fun _ h => h) (fun _ h => h), rfl⟩, ?_, fun a h => ?_, fun a h => ?_⟩
  · rw [List.nodup_append]
    refine ⟨?_, nd, fun a ha b hb e => ?_⟩
    · unfold ownA
      split <;> simp
    · subst e
      rw [sp a ha] at hb
      exact mut_ne (hm p hb) hp
  · rcases List.mem_append.mp h with h | h
    · exact .inl (by rw [sp a h]; exact hp)
    · exact sub a h
  · rcases List.mem_append.mp h with h | h
    · rw [sp a h]; exact fun q => dm.f p q hp
    · exact nf a h
theorem Res.newL {A : List Addr} {ds : List D} {vs : List V} {Fs : List (List Addr)} {p : Addr} (dm : Dom H Z) (rl : RepL K cm H Z ds vs Fs) (nd : Fs.flatten.Nodup) (sub : ∀ a ∈ Fs.flatten, H a = none ∨ a ∈ A) (nf : ∀ a ∈ Fs.flatten, ¬ Z.f a)
    (hp : H p = none) : Res K cm H Z (upd H p (.lst vs)) Z A (.nd (.lst .own) ds) (.ref p) (ownA (.lst .own) p ++ Fs.flatten) :=
  .newNd dm rl nd sub nf hp ⟨fun _ => upd_same, .inl upd_same, trivial⟩
theorem Res.newT {A : List Addr} {ds : List D} {vs : List V} {Fs : List (List Addr)} {p : Addr} (dm : Dom H Z) (rl : RepL K cm H Z ds vs Fs) (nd : Fs.flatten.Nodup) (sub : ∀ a ∈ Fs.flatten, H a = none ∨ a ∈ A) (nf : ∀ a ∈ Fs.flatten, ¬ Z.f a)
    (hp : H p = none) : Res K cm H Z (upd H p (.tup vs)) Z A (.nd .tup ds) (.ref p) (ownA .tup p ++ Fs.flatten) :=
  .newNd dm rl nd sub nf hp (SqT.of upd_same)
/-- the same thing, as it stands -/
theorem Res.same {A : List Addr} {d : D} {v : V} {F : List Addr} (dm : Dom H Z) (r : Rep K cm H Z d v F) (nd : F.Nodup) (sub : ∀ a ∈ F, a ∈ A) (nf : ∀ a ∈ F, ¬ Z.f a) : Res K cm H Z H Z A d v F :=
  ⟨.refl dm, r, nd, fun a h => .inr (sub a h), nf⟩
end
theorem flatten_get {α : Type} : ∀ {Fs : List (List α)} {i : Nat} {F : List α}, Fs[i]? = some F → F.Sublist Fs.flatten
  | [], i, F, h => by simp at h
  | G :: Fs, 0, F, h => by simp at h; subst h; rw [List.flatten_cons]; exact List.sublist_append_left _ _
  | G :: Fs, i + 1, F, h => by
    rw [List.flatten_cons]
    exact (flatten_get (Fs := Fs) (i := i) (by simpa using h)).trans (List.sublist_append_right _ _)

/-! ### numbers and texts -/
def mulOk (i j : Int) : Bool := decide (Builtin.Int.intBits i + Builtin.Int.intBits j ≤ 134217728)
theorem mulOk_ok {i j : Int} (h : mulOk i j = true) : IntMulOk i j := by
  have h3 := of_decide_eq_true h
  have e : bitsLine = 134217728 := by decide
  unfold IntMulOk
  intro z
  rw [Bool.and_eq_true] at z
  have z2 := z.2
  unfold Builtin.Int.intTooBig at z2
  have z3 := of_decide_eq_true z2
  rw [e] at z3
  omega
def divOk (j : Int) : Bool := decide (j ≠ 0) && decide (j.natAbs.log2 < 9000)
def divV (i j : Int) : Int := if 0 < j then i / j else i.fdiv j
def modV (i j : Int) : Int := if 0 < j then i % j else i.fmod j
def powOk (i j : Int) : Bool := decide (0 ≤ j) && decide ((Builtin.Int.intBits i : Int) * j ≤ 2 ^ 27)
def pAdd : List D → Option D
  | [.int i, .int j] => some (.int (i + j))
  | [.str a, .str b] => if a.length + b.length ≤ sizeLine then some (.str (a ++ b)) else none
  | [.nd (.lst _) xs, .nd (.lst _) ys] => if xs.length + ys.length ≤ sizeLine then some (.nd (.lst .own) (xs ++ ys)) else none
  | [.nd .tup (x :: xs), .nd .tup (y :: ys)] => if (x :: xs).length + (y :: ys).length ≤ sizeLine then some (.nd .tup ((x :: xs) ++ (y :: ys))) else none
  | _ => none
def pSub : List D → Option D
  | [.int i, .int j] => some (.int (i - j))
  | _ => none
def pMul : List D → Option D
  | [.int i, .int j] => if mulOk i j then some (.int (i * j)) else none
  | [.str s, .int k] => if s.length * k.toNat ≤ sizeLine ∧ 2 ≤ k ∧ k < 2 ^ 30 ∧ 1 ≤ s.length then some (.str ⟨(List.replicate k.toNat s.cps.toList).flatten.toArray⟩) else none
  | [.nd (.lst .own) [.str d], .int k] => if k.toNat ≤ sizeLine ∧ 0 ≤ k ∧ k < 2 ^ 62 then some (.nd (.lst .own) (List.replicate k.toNat (.str d))) else none
  | _ => none
def pDiv : List D → Option D
  | [.int i, .int j] => if divOk j then some (.int (divV i j)) else none
  | _ => none
def pMod : List D → Option D
  | [.int i, .int j] => if j ≠ 0 then some (.int (modV i j)) else none
  | _ => none
def pPow : List D → Option D
  | [.int i, .int j] => if powOk i j then some (.int (i ^ j.toNat)) else none
  | _ => none
def pNeg : List D → Option D
  | [.int i] => some (.int (-i))
  | _ => none
def rCatR : R2 := fun x y H Q => ∃ l b xs zs, x = .ref l ∧ y = .ref b ∧ Rd H l (.lst xs) ∧ Rd H b (.lst zs) ∧ xs.length + zs.length ≤ sizeLine ∧ ∀ p, H p = none → Q (.ref p) (upd H p (.lst (xs ++ zs)))
section
variable {X : Cx}
theorem op_catR : OpR X (binaryOp .Add) rCatR := by
  intro pins s σ H x y v u Q I rx ry h
  obtain ⟨l, b, xs, zs, rfl, rfl, hH, hB, hz, q⟩ := h
  cases rx
  cases ry
  obtain ⟨z, its, n, r, e⟩ := hH.ok I.hok
  obtain ⟨z2, its2, n2, r2, e2⟩ := hB.ok I.hok
  have hl := r.length
  have hl2 := r2.length
  refine PySem.P.add_list e e2 ?_ (by rw [List.size_toArray, List.size_toArray]; omega)
  have ea : its.toArray ++ its2.toArray = (its ++ its2).toArray := by simp
  rw [ea]
  exact ⟨.ref _, _, I.lnew (t' := s.toks) (r.append r2) (by rw [List.length_append]; omega), rfl, q _ I.fresh⟩
end
def rStrMul : R2 := fun x y H Q => ∃ (s : Str) (k : Int), x = .str s ∧ y = .int k ∧ s.length * k.toNat ≤ sizeLine ∧ 2 ≤ k ∧ k < 2 ^ 30 ∧ 1 ≤ s.length ∧ Q (.str ⟨(List.replicate k.toNat s.cps.toList).flatten.toArray⟩) H
theorem rep_cps (a : Array Nat) (k : Nat) : (List.replicate k a).foldl (· ++ ·) #[] = (List.replicate k a.toList).flatten.toArray := by
  have key : ∀ (k : Nat) (acc : Array Nat), (List.replicate k a).foldl (· ++ ·) acc = acc ++ (List.replicate k a.toList).flatten.toArray := by
    intro k
    induction k with
    | zero => intro acc; simp
    | succ k ih =>
      intro acc
      rw [List.replicate_succ, List.foldl_cons, ih, List.replicate_succ, List.flatten_cons]
      apply Array.ext'
      simp
  rw [key k #[]]
  simp
section
variable {X : Cx}
theorem op_strMul : OpR X (binaryOp .Mult) rStrMul := by
  intro pins s σ H x y v u Q I rx ry h
  obtain ⟨z, k, rfl, rfl, hz, h2, h3, h1, q⟩ := h
  obtain ⟨t, rfl⟩ := rx
  obtain ⟨t', rfl⟩ := ry
  have hline : (sizeLine : Nat) = 16777216 := sizeLine_eq
  have kn : (k.toNat : Int) = k := Int.toNat_of_nonneg (by omega)
  have hz2 : (z.length : Int) * k ≤ 16777216 := by
    have q1 : ((z.length * k.toNat : Nat) : Int) ≤ ((16777216 : Nat) : Int) := by
      have := hz
      rw [hline] at this
      exact Int.ofNat_le.mpr this
    rw [Int.natCast_mul, kn] at q1
    exact q1
  refine PySem.P.mul_str ?_ (fun _ _ => ?_) (fun _ _ => ?_) ?_
  · have a : decide (k < -(2 ^ 63 : Int)) = false := decide_eq_false (by omega)
    have b : decide (k ≥ 2 ^ 63) = false := decide_eq_false (by omega)
    rw [a, b]; rfl
  · intro q1
    have q2 : k * ((2 ^ 63 - 1) / k) ≥ (2 ^ 63 - 1) - k := by
      have e := Int.emod_add_mul_ediv (2 ^ 63 - 1 : Int) k
      have e2 := Int.emod_lt_of_pos (2 ^ 63 - 1 : Int) (show 0 < k by omega)
      omega
    have q3 : k * (((2 ^ 63 - 1) / k) + 1) ≤ k * (z.length : Int) := Int.mul_le_mul_of_nonneg_left (by omega) (by omega)
    rw [Int.mul_add, Int.mul_comm k (z.length : Int)] at q3
    omega
  · unfold PySem.Builtin.Str.tooLong
    first
      | exact decide_eq_false (by omega)
      | (simp only [decide_eq_false_iff_not]; omega)
      | (rw [hline] at hz; simp; omega)
  · rw [if_neg (by omega : ¬ k < 1)]
    have e : (k == 1 || z.length == 0) = false := by
      have a : (k == 1) = false := by simp; omega
      have b : (z.length == 0) = false := by simp; omega
      rw [a, b]; rfl
    rw [e, rep_cps]
    have hl : (⟨(List.replicate k.toNat z.cps.toList).flatten.toArray⟩ : Str).length = k.toNat * z.length := by
      show ((List.replicate k.toNat z.cps.toList).flatten.toArray).size = _
      simp [List.length_flatten, Str.length]
    refine ⟨?_, ⟨.str _, H, I.tok _, ⟨_, rfl⟩, q⟩⟩
    first
      | (rw [hl, Nat.mul_comm]; exact hz)
      | (show _ ≤ sizeLine; rw [hl, Nat.mul_comm]; exact hz)
/-! ### the arithmetic of data -/
def rAdd4 (K : PySem.W.Frag) : R2 := fun x y H Q => rI0 (fun i j => .int (i + j)) x y H Q ∨ (∃ i j, x = .str i ∧ y = .str j ∧ i.length + j.length ≤ sizeLine ∧ Q (.str (i ++ j)) H) ∨ rCatR x y H Q ∨ rCatT K x y H Q
theorem op_add4 : OpR X (binaryOp .Add) (rAdd4 X.K) := op_add.or (op_add_str.or (op_catR.or op_catT))
def rMul3 : R2 := fun x y H Q => rI (fun i j => mulOk i j = true) (fun i j => .int (i * j)) x y H Q ∨ rStrMul x y H Q ∨ rRep x y H Q
theorem op_mul3 : OpR X (binaryOp .Mult) rMul3 := OpR.or (opI fun _ _ _ _ _ _ _ hc q => mul_int q (mulOk_ok hc)) (op_strMul.or op_rep)
def rDivD : R2 := rI (fun _ j => divOk j = true) fun i j => .int (divV i j)
theorem op_divD : OpR X (binaryOp .FloorDiv) rDivD := opI fun i j _ _ _ _ _ hc q => by
  have h0 : j ≠ 0 := by
    have := (Bool.and_eq_true_iff.mp hc).1
    exact of_decide_eq_true this
  refine floordiv_int h0 ?_ (.inl (PyProof.noPylong_of_log2 (of_decide_eq_true (Bool.and_eq_true_iff.mp hc).2)))
  have e : i.fdiv j = divV i j := by
    unfold divV
    split
    · rw [Int.fdiv_eq_ediv_of_nonneg i (by omega)]
    · rfl
  rw [e]; exact q
def rModD : R2 := rI (fun _ j => j ≠ 0) fun i j => .int (modV i j)
theorem op_modD : OpR X (binaryOp .Mod) rModD := opI fun i j _ _ _ _ _ hc q => by
  refine mod_int' hc ?_
  have e : i.fmod j = modV i j := by
    unfold modV
    split
    · rw [Int.fmod_eq_emod_of_nonneg i (by omega)]
    · rfl
  rw [e]; exact q
def rPowD : R2 := rI (fun i j => powOk i j = true) fun i j => .int (i ^ j.toNat)
theorem op_powD : OpR X (binaryOp .Pow) rPowD := opI fun i j _ _ _ _ _ hc q => by
  have h := Bool.and_eq_true_iff.mp hc
  exact pow_int (of_decide_eq_true h.1) (of_decide_eq_true h.2) q
end
section
variable {K : PySem.W.Frag} {cm : Cm}
theorem cat_sub (A B : List Addr) (Fs1 Fs2 : List (List Addr)) : (Fs1 ++ Fs2).flatten.Sublist [A ++ Fs1.flatten, B ++ Fs2.flatten].flatten := by
  rw [List.flatten_append]
  simp only [List.flatten_cons, List.flatten_nil, List.append_nil]
  exact (List.sublist_append_right _ _).append (List.sublist_append_right _ _)
theorem ok_add : OkPr K cm (r2L (rAdd4 K)) pAdd := by
  intro H Z ds vs Fs d dm rp nd nf e Q q
  unfold pAdd at e
  split at e
  · cases e
    obtain ⟨v, u, F, G, rfl, rfl, ⟨rfl, rfl⟩, ⟨rfl, rfl⟩⟩ := repL2 rp
    exact ⟨_, _, rfl, .inl ⟨_, _, rfl, rfl, q _ H Z [] (.atom (.refl dm) rep_int)⟩⟩
  · split at e
    · rename_i hl
      cases e
      obtain ⟨v, u, F, G, rfl, rfl, ⟨rfl, rfl⟩, ⟨rfl, rfl⟩⟩ := repL2 rp
      exact ⟨_, _, rfl, .inr (.inl ⟨_, _, rfl, rfl, hl, q _ H Z [] (.atom (.refl dm) rep_str)⟩)⟩
    · cases e
  · split at e
    · rename_i hl
      cases e
      obtain ⟨v, u, F, G, rfl, rfl, ⟨a, vs1, Fs1, rfl, c1, l1, rfl⟩, ⟨b, vs2, Fs2, rfl, c2, l2, rfl⟩⟩ := repL2 rp
      have lv1 := l1.len.1
      have lv2 := l2.len.1
      have sub := fun A B => cat_sub A B Fs1 Fs2
      refine ⟨_, _, rfl, .inr (.inr (.inl ⟨a, b, vs1, vs2, rfl, rfl, c1.2.1, c2.2.1, by omega, fun p hp => ?_⟩))⟩
      exact q _ _ Z _ (.newL dm (l1.app l2) (nd.sublist (sub _ _)) (fun x hx => .inr ((sub _ _).subset hx)) (fun x hx => nf x ((sub _ _).subset hx)) hp)
    · cases e
  · split at e
    · rename_i hl
      cases e
      obtain ⟨v, u, F, G, rfl, rfl, ⟨a, vs1, Fs1, rfl, c1, l1, rfl⟩, ⟨b, vs2, Fs2, rfl, c2, l2, rfl⟩⟩ := repL2 rp
      have lv1 := l1.len.1
      have lv2 := l2.len.1
      have sub := fun A B => cat_sub A B Fs1 Fs2
      refine ⟨_, _, rfl, .inr (.inr (.inr ⟨a, b, vs1, vs2, rfl, rfl, c1, c2, fun z => by subst z; simp at lv1, by omega, fun z => by subst z; simp at lv2, fun _ p hp => ?_⟩))⟩
      exact q _ _ Z _ (.newT dm (l1.app l2) (nd.sublist (sub _ _)) (fun x hx => .inr ((sub _ _).subset hx)) (fun x hx => nf x ((sub _ _).subset hx)) hp)
    · cases e
  · cases e
theorem ok_int2 {C : Int → Int → Prop} {g : Int → Int → Int} {p : List D → Option D} (hp : ∀ ds d, p ds = some d → ∃ i j, ds = [.int i, .int j] ∧ C i j ∧ d = .int (g i j)) : OkPr K cm (r2L (rI C fun i j => .int (g i j))) p := by
  intro H Z ds vs Fs d dm rp nd nf e Q q
  obtain ⟨i, j, rfl, hc, rfl⟩ := hp _ _ e
  obtain ⟨v, u, F, G, rfl, rfl, ⟨rfl, rfl⟩, ⟨rfl, rfl⟩⟩ := repL2 rp
  exact ⟨_, _, rfl, i, j, rfl, rfl, hc, q _ H Z [] (.atom (.refl dm) rep_int)⟩
theorem ok_sub : OkPr K cm (r2L (rI0 fun i j => .int (i - j))) pSub := by
  intro H Z ds vs Fs d dm rp nd nf e Q q
  unfold pSub at e
  split at e
  · cases e
    obtain ⟨v, u, F, G, rfl, rfl, ⟨rfl, rfl⟩, ⟨rfl, rfl⟩⟩ := repL2 rp
    exact ⟨_, _, rfl, _, _, rfl, rfl, q _ H Z [] (.atom (.refl dm) rep_int)⟩
  · cases e
theorem ok_div : OkPr K cm (r2L rDivD) pDiv := ok_int2 fun ds d e => by
  unfold pDiv at e
  split at e
  · split at e
    · rename_i h
      cases e
      exact ⟨_, _, rfl, h, rfl⟩
    · cases e
  · cases e
theorem ok_mod : OkPr K cm (r2L rModD) pMod := ok_int2 fun ds d e => by
  unfold pMod at e
  split at e
  · split at e
    · rename_i h
      cases e
      exact ⟨_, _, rfl, h, rfl⟩
    · cases e
  · cases e
theorem ok_pow : OkPr K cm (r2L rPowD) pPow := ok_int2 fun ds d e => by
  unfold pPow at e
  split at e
  · split at e
    · rename_i h
      cases e
      exact ⟨_, _, rfl, h, rfl⟩
    · cases e
  · cases e
theorem ok_neg : OkPr K cm (r1L (rU fun i => .int (-i))) pNeg := by
  intro H Z ds vs Fs d dm rp nd nf e Q q
  unfold pNeg at e
  split at e
  · cases e
    obtain ⟨v, F, rfl, rfl, ⟨rfl, rfl⟩⟩ := repL1 rp
    exact ⟨_, rfl, _, rfl, q _ H Z [] (.atom (.refl dm) rep_int)⟩
  · cases e
theorem repL_strs : ∀ (n : Nat) (d : Str), RepL K cm H Z (List.replicate n (.str d)) (List.replicate n (.str d)) (List.replicate n [])
  | 0, _ => repL_nil
  | n + 1, d => repL_cons ⟨rfl, rfl⟩ (repL_strs n d)
theorem flatten_nils : ∀ n : Nat, (List.replicate n ([] : List Addr)).flatten = []
  | 0 => rfl
  | n + 1 => by rw [List.replicate_succ, List.flatten_cons, flatten_nils n]; rfl
theorem flatten_ones {α : Type} (x : α) : ∀ n : Nat, (List.replicate n [x]).flatten = List.replicate n x
  | 0 => rfl
  | n + 1 => by rw [List.replicate_succ, List.flatten_cons, flatten_ones x n]; rfl
theorem ok_mul : OkPr K cm (r2L rMul3) pMul := by
  intro H Z ds vs Fs d dm rp nd nf e Q q
  unfold pMul at e
  split at e
  · split at e
    · rename_i hl
      cases e
      obtain ⟨v, u, F, G, rfl, rfl, ⟨rfl, rfl⟩, ⟨rfl, rfl⟩⟩ := repL2 rp
      exact ⟨_, _, rfl, .inl ⟨_, _, rfl, rfl, hl, q _ H Z [] (.atom (.refl dm) rep_int)⟩⟩
    · cases e
  · split at e
    · rename_i hl
      cases e
      obtain ⟨v, u, F, G, rfl, rfl, ⟨rfl, rfl⟩, ⟨rfl, rfl⟩⟩ := repL2 rp
      exact ⟨_, _, rfl, .inr (.inl ⟨_, _, rfl, rfl, hl.1, hl.2.1, hl.2.2.1, hl.2.2.2, q _ H Z [] (.atom (.refl dm) rep_str)⟩)⟩
    · cases e
  · split at e
    · rename_i d0 k hl
      cases e
      obtain ⟨v, u, F, G, rfl, rfl, ⟨a, vs1, Fs1, rfl, c1, l1, rfl⟩, ⟨rfl, rfl⟩⟩ := repL2 rp
      obtain ⟨v1, F1, rfl, rfl, ⟨rfl, rfl⟩⟩ := repL1 l1
      refine ⟨_, _, rfl, .inr (.inr ⟨a, k, _, rfl, rfl, c1.1 (by decide), by omega, by omega, by simp only [List.length_singleton, Nat.one_mul]; exact hl.1, fun p hp => ?_⟩)⟩
      rw [flatten_ones]
      refine q _ _ Z _ (.newL dm (repL_strs k.toNat d0) ?_ ?_ ?_ hp)
      · rw [flatten_nils]; exact List.nodup_nil
      · rw [flatten_nils]; exact fun _ z => nomatch z
      · rw [flatten_nils]; exact fun _ z => nomatch z
    · cases e
  · cases e
end
end OB

namespace OB
open PySem PySem.Spec PyProof.Rows L2

/-! ### reading a name: what is owned is lent for the moment -/
def Fl.toTmp : Fl → Fl
  | .own => .tmp
  | f => f
def getV (ρ : En) (i : Nat) : Option D := (ρ[i]?).join
def eVar (i : Nat) : En → Ot D := fun ρ => .of ((getV ρ i).map (mapF Fl.toTmp))
def eC (d : D) : En → Ot D := fun _ => .ok d
theorem getV_some {ρ : En} {i : Nat} {d : D} (h : getV ρ i = some d) : ρ[i]? = some (some d) := by
  unfold getV at h
  cases q : ρ[i]? with
  | none => rw [q] at h; cases h
  | some o => rw [q] at h; rw [show o = some d from h]
theorem flat_mem {Fs : List (List Addr)} {i : Nat} {F : List Addr} (e : Fs[i]? = some F) {x : Addr} (h : x ∈ F) : x ∈ Fs.flatten := (flatten_get e).subset h
/-- what a slot holds, lent -/
theorem OkP.lent {K : PySem.W.Frag} {cm : Cm} {H : Hp} {σ : L2.St} {ρ : En} {Fs : List (List Addr)} {Z : Zn} (ok : OkP K cm H σ ρ Fs Z) {i : Nat} {d : D} (h : getV ρ i = some d) :
    ∃ v, σ[i]? = some (some v) ∧ Rep K cm H Z (mapF Fl.toTmp d) v [] := by
  obtain ⟨v, F, e1, e2, r⟩ := ok.rep.get i d (getV_some h)
  refine ⟨v, e1, Rep.give (O := fun a => a ∈ F) (cell_flag (fun a ha f ef _ => ?_) (fun a f hf hz => ?_) (fun f e => ?_)) (fun f e => ?_) d r fun a ha => ha⟩
  · subst ef
    exact ok.tm a (flat_mem e2 ha)
  · cases f with
    | own => exact absurd rfl hf
    | _ => exact hz
  · cases f <;> first | rfl | cases e
  · cases f <;> cases e
section
variable {X : Cx} {cm : Cm} {W : WX} {e a b c : Expr} {f g h : En → Ot D} {pos : Pos}
theorem s_var {i : Nat} {x : Str} (he : PE X (.Name x pos) (tVar i)) : SE X cm W (.Name x pos) (eVar i) := PE.imp he fun σ H Q h => by
  obtain ⟨Z, ρ, Fs, ok, h⟩ := h
  unfold eVar at h
  cases q : getV ρ i with
  | none => rw [q] at h; exact h.elim
  | some d =>
    rw [q] at h
    obtain ⟨v, e, r⟩ := ok.lent q
    exact ⟨v, e, h v H Z [] (.atom (.refl ok.dom) r)⟩
/-- a constant: an atom -/
theorem s_c {d : D} {v : V} (he : PE X e (tC v)) (hr : ∀ (H : Hp) (Z : Zn), Rep X.K cm H Z d v []) : SE X cm W e (eC d) := PE.imp he fun σ H Q h => by
  obtain ⟨Z, ρ, Fs, ok, h⟩ := h
  exact h v H Z [] (.atom (.refl ok.dom) (hr H Z))
theorem s_int {i j} : SE X cm W (.Constant (.int i) j pos) (eC (.int i)) := s_c pe_int fun _ _ => rep_int
theorem s_bl {b j} : SE X cm W (.Constant (.bool b) j pos) (eC (.bl b)) := s_c pe_bl fun _ _ => rep_bl
theorem s_non {j} : SE X cm W (.Constant .none j pos) (eC .non) := s_c pe_non fun _ _ => rep_non
theorem s_str {x j} : SE X cm W (.Constant (.str x) j pos) (eC (.str x)) := s_c pe_str fun _ _ => rep_str
/-- a module's int, text, class -/
theorem s_globI {x : Str} {i : Int} {t : Tok} (hg : Gl X x) (hm : X.mg x = some (.int i t)) (hd : (x == ("__debug__" : Str)) = false := by decide) : SE X cm W (.Name x pos) (eC (.int i)) := s_c (pe_glob (v := .int i) hg hm ⟨t, rfl⟩ hd) fun _ _ => rep_int
theorem s_globS {x : Str} {i : Str} {t : Tok} (hg : Gl X x) (hm : X.mg x = some (.str i t)) (hd : (x == ("__debug__" : Str)) = false := by decide) : SE X cm W (.Name x pos) (eC (.str i)) := s_c (pe_glob (v := .str i) hg hm ⟨t, rfl⟩ hd) fun _ _ => rep_str

/-! ### displays -/
def pLst (ds : List D) : Option D := if ds.length ≤ sizeLine then some (.nd (.lst .own) ds) else none
def pTup (ds : List D) : Option D := if ds.length ≤ sizeLine then some (.nd .tup ds) else none
theorem s_lst {es : List Expr} {fs : List (En → Ot D)} (ha : SA X cm W es (eL fs)) : SE X cm W (.List es pos) (ePr pLst fs) := PE.imp (pe_lst ha) fun σ H Q h =>
  pr_end (r := fun xs H1 Q => xs.length ≤ sizeLine ∧ ∀ p, H1 p = none → Q (.ref p) (upd H1 p (.lst xs))) (fun H Z ds vs Fs d dm rp nd nf e Q q => by
    unfold pLst at e
    split at e
    · rename_i hl
      cases e
      exact ⟨by rw [rp.len.1]; exact hl, fun p hp => q _ _ Z _ (.newL dm rp nd (fun x hx => .inr hx) nf hp)⟩
    · cases e) h
theorem s_tup {es : List Expr} {x1} {fs : List (En → Ot D)} (ha : SA X cm W es (eL fs)) : SE X cm W (.Tuple es x1 pos) (ePr pTup fs) := PE.imp (pe_tup ha) fun σ H Q h =>
  pr_end (r := fun xs H1 Q => xs.length ≤ sizeLine ∧ ∀ p, H1 p = none → Q (.ref p) (upd H1 p (.tup xs))) (fun H Z ds vs Fs d dm rp nd nf e Q q => by
    unfold pTup at e
    split at e
    · rename_i hl
      cases e
      exact ⟨by rw [rp.len.1]; exact hl, fun p hp => q _ _ Z _ (.newT dm rp nd (fun x hx => .inr hx) nf hp)⟩
    · cases e) h
/-- {} -/
theorem s_dict0 : SE X cm W (.Dict [] [] pos) (eC (.nd (.dct .own []) [])) := PE.imp pe_dnewK fun σ H Q h => by
  obtain ⟨Z, ρ, Fs, ok, h⟩ := h
  exact fun p hp => h _ _ Z _ (.newNd (k := .dct .own []) ok.dom repL_nil List.nodup_nil (fun _ z => nomatch z) (fun _ z => nomatch z) hp ⟨fun _ => upd_same, .inl upd_same, rfl, trivial⟩)

/-! ### and, or, not, if -/
def asB : D → Ot Bool
  | .bl b => .ok b
  | _ => .no
def eAnd (f g : En → Ot D) : En → Ot D := fun ρ => (f ρ).bind fun d => (asB d).bind fun b => if b then g ρ else .ok (.bl false)
def eOr (f g : En → Ot D) : En → Ot D := fun ρ => (f ρ).bind fun d => (asB d).bind fun b => if b then .ok (.bl true) else g ρ
def eNot (f : En → Ot D) : En → Ot D := fun ρ => (f ρ).bind fun d => (asB d).bind fun b => .ok (.bl (!b))
def eT (f : En → Ot D) : En → Ot Bool := fun ρ => (f ρ).bind asB
def bAnd (f g : En → Ot Bool) : En → Ot Bool := fun ρ => (f ρ).bind fun b => if b then g ρ else .ok false
def bOr (f g : En → Ot Bool) : En → Ot Bool := fun ρ => (f ρ).bind fun b => if b then .ok true else g ρ
def bNot (f : En → Ot Bool) : En → Ot Bool := fun ρ => (f ρ).bind fun b => .ok (!b)
def eIf (t : En → Ot Bool) (f g : En → Ot D) : En → Ot D := fun ρ => (t ρ).bind fun b => if b then f ρ else g ρ
theorem asB_ok {d : D} {b : Bool} (h : asB d = .ok b) : d = .bl b := by
  cases d <;> first | (cases h; done) | (cases h; rfl)
theorem asB_ex {d : D} {x : XD} : asB d ≠ .ex x := by cases d <;> exact fun h => nomatch h
/-- after f: a bool -/
theorem tP_asB {K : PySem.W.Frag} {f : En → Ot D} {k : Bool → Ot D} {σ : L2.St} {H : Hp} {Q : VK} {Z : Zn} {ρ : En} {Fs : List (List Addr)} (ok : OkP K cm H σ ρ Fs Z) {o : Ot D} (ho : o = (f ρ).bind fun d => (asB d).bind k)
    (h : FinD K cm W σ H Z Q o) {R : VK}
    (hk : ∀ b H1 Z1, Ext H Z H1 Z1 → k b = o → R (.bl b) H1) : tP K cm W f σ H R := by
  subst ho
  refine tP_bind ok (fun q => ?_) (fun d q v H1 Z1 F r => ?_) (fun x q => ?_)
  · rw [q] at h; exact h
  · rw [q, Ot.bind_ok] at h
    cases q2 : asB d with
    | no => rw [q2] at h; exact h.elim
    | ex x => exact absurd q2 asB_ex
    | ok b =>
      have e := asB_ok q2
      subst e
      obtain ⟨rfl, rfl⟩ := r.rep
      refine hk b H1 Z1 r.ext ?_
      rw [q, Ot.bind_ok, q2, Ot.bind_ok]
  · rw [q] at h; exact h
theorem s_one {op : BoolOp} (ha : SE X cm W a f) : SE X cm W (.BoolOp op [a] pos) f := pe_one ha
theorem tP_go {K : PySem.W.Frag} {f : En → Ot D} {σ : L2.St} {H H1 : Hp} {Q : VK} {Z Z1 : Zn} {ρ : En} {Fs : List (List Addr)} (ok : OkP K cm H σ ρ Fs Z) (ex : Ext H Z H1 Z1)
    (h : FinD K cm W σ H Z Q (f ρ)) : tP K cm W f σ H1 Q := by
  refine tP_bind (ok.ext ex) (fun q => ?_) (fun d q v H2 Z2 F r => ?_) (fun x q => ?_)
  · rw [q] at h; exact h
  · rw [q] at h; exact h v H2 Z2 F (r.trans0 ex)
  · rw [q] at h; exact fun cls dd H' Z' ex2 xr => h cls dd H' Z' (ex.trans ex2) xr
theorem s_and {rest : List Expr} (ha : SE X cm W a f) (hb : SE X cm W (.BoolOp .And (b :: rest) pos) g) : SE X cm W (.BoolOp .And (a :: b :: rest) pos) (eAnd f g) := PE.imp (pe_and ha hb) fun σ H Q h => by
  obtain ⟨Z, ρ, Fs, ok, h⟩ := h
  refine tP_asB ok (k := fun b => if b then g ρ else .ok (.bl false)) rfl h fun k H1 Z1 ex hk => ⟨k, rfl, ?_⟩
  cases k with
  | true =>
    show tP _ _ _ _ _ _ _
    have e : eAnd f g ρ = g ρ := hk.symm
    rw [e] at h
    exact tP_go ok ex h
  | false =>
    show Q (.bl false) H1
    have e : eAnd f g ρ = .ok (.bl false) := hk.symm
    rw [e] at h
    exact h _ H1 Z1 [] (.atom ex rep_bl)
theorem s_or {rest : List Expr} (ha : SE X cm W a f) (hb : SE X cm W (.BoolOp .Or (b :: rest) pos) g) : SE X cm W (.BoolOp .Or (a :: b :: rest) pos) (eOr f g) := PE.imp (pe_or ha hb) fun σ H Q h => by
  obtain ⟨Z, ρ, Fs, ok, h⟩ := h
  refine tP_asB ok (k := fun b => if b then .ok (.bl true) else g ρ) rfl h fun k H1 Z1 ex hk => ⟨k, rfl, ?_⟩
  cases k with
  | false =>
    show tP _ _ _ _ _ _ _
    have e : eOr f g ρ = g ρ := hk.symm
    rw [e] at h
    exact tP_go ok ex h
  | true =>
    show Q (.bl true) H1
    have e : eOr f g ρ = .ok (.bl true) := hk.symm
    rw [e] at h
    exact h _ H1 Z1 [] (.atom ex rep_bl)
theorem s_not (ha : SE X cm W a f) : SE X cm W (.UnaryOp .Not a pos) (eNot f) := PE.imp (pe_not ha) fun σ H Q h => by
  obtain ⟨Z, ρ, Fs, ok, h⟩ := h
  refine tP_asB ok (k := fun b => .ok (.bl (!b))) rfl h fun k H1 Z1 ex hk => ⟨k, rfl, ?_⟩
  have e : eNot f ρ = .ok (.bl (!k)) := hk.symm
  rw [e] at h
  exact h _ H1 Z1 [] (.atom ex rep_bl)

/-! ### tests -/
theorem tP_T {K : PySem.W.Frag} {f : En → Ot D} {σ : L2.St} {H : Hp} {Q : Bool → Hp → Prop} (h : tPT K cm W (eT f) σ H Q) : tP K cm W f σ H (fun x H1 => ∃ k, x = .bl k ∧ Q k H1) := by
  obtain ⟨Z, ρ, Fs, ok, h⟩ := h
  unfold eT at h
  refine tP_bind ok (fun q => ?_) (fun d q v H1 Z1 F r => ?_) (fun x q => ?_)
  · rw [q] at h; exact h
  · rw [q, Ot.bind_ok] at h
    cases q2 : asB d with
    | no => rw [q2] at h; exact h.elim
    | ex x => exact absurd q2 asB_ex
    | ok b =>
      rw [q2] at h
      have e := asB_ok q2
      subst e
      obtain ⟨rfl, rfl⟩ := r.rep
      exact ⟨b, rfl, h H1 Z1 r.ext⟩
  · rw [q] at h; exact h
/-- an expression whose value is a bool, as a test (no comparison, no and, or, not) -/
theorem st_val (ha : SE X cm W e f) (he : ∀ whole, isTrue e X.env whole = (do let v ← whole; standAt e.pos; holding [v] (truthy v)) := by intro _; rfl) : ST X cm W e (eT f) := PT.imp (pt_val ha he) fun σ H Q h => tP_T h
theorem st_cmp {op : CmpOp} {r : R2} {p : List D → Option D} (ho : OpR X (compareOp op) r) (hp : OkPr X.K cm (r2L r) p) (ha : SE X cm W a f) (hb : SE X cm W b g) (hm : behindInMarks op b = false) : ST X cm W (.Compare a [op] [b] pos) (eT (ePr p [f, g])) :=
  PT.imp (pt_cmpR ho ha hb hm) fun σ H Q h => two_of (R := fun x y H1 => r x y H1 fun z H2 => ∃ k, z = .bl k ∧ Q k H2) (pr_end (Q := fun z H2 => ∃ k, z = .bl k ∧ Q k H2) hp (tP_T h))
theorem tPT_go {K : PySem.W.Frag} {f : En → Ot Bool} {σ : L2.St} {H H1 : Hp} {Q : Bool → Hp → Prop} {Z Z1 : Zn} {ρ : En} {Fs : List (List Addr)} (ok : OkP K cm H σ ρ Fs Z) (ex : Ext H Z H1 Z1)
    (h : FinB K cm W σ H Z Q (f ρ)) : tPT K cm W f σ H1 Q := by
  refine ⟨Z1, ρ, Fs, ok.ext ex, ?_⟩
  cases q : f ρ with
  | no => rw [q] at h; exact h
  | ok b => rw [q] at h; exact fun H' Z' ex2 => h H' Z' (ex.trans ex2)
  | ex x => rw [q] at h; exact fun cls dd H' Z' ex2 xr => h cls dd H' Z' (ex.trans ex2) xr
theorem tPT_bind {K : PySem.W.Frag} {f : En → Ot Bool} {k : Bool → Ot Bool} {σ : L2.St} {H : Hp} {Q R : Bool → Hp → Prop} {Z : Zn} {ρ : En} {Fs : List (List Addr)} (ok : OkP K cm H σ ρ Fs Z)
    (h : FinB K cm W σ H Z Q ((f ρ).bind k))
    (hk : ∀ b H1 Z1, Ext H Z H1 Z1 → (f ρ).bind k = k b → R b H1) : tPT K cm W f σ H R := by
  refine ⟨Z, ρ, Fs, ok, ?_⟩
  cases q : f ρ with
  | no => rw [q] at h; exact h
  | ok b => exact fun H' Z' ex => hk b H' Z' ex (by rw [q]; rfl)
  | ex x => rw [q] at h; exact h
theorem sw_and1 {t : En → Ot Bool} (ha : ST X cm W a t) : SW X cm W (.BoolOp .And [a] pos) t := pw_and1 ha
theorem sw_or1 {t : En → Ot Bool} (ha : ST X cm W a t) : SW X cm W (.BoolOp .Or [a] pos) t := pw_or1 ha
theorem sw_and {t u : En → Ot Bool} {rest : List Expr} (ha : ST X cm W a t) (hb : SW X cm W (.BoolOp .And (b :: rest) pos) u) : SW X cm W (.BoolOp .And (a :: b :: rest) pos) (bAnd t u) := PW.imp (pw_and ha hb) fun σ H Q h => by
  obtain ⟨Z, ρ, Fs, ok, h⟩ := h
  refine tPT_bind ok (k := fun b => if b then u ρ else .ok false) h fun k H1 Z1 ex hk => ?_
  have h' := h
  unfold bAnd at h'
  rw [hk] at h'
  cases k with
  | true => exact tPT_go ok ex h'
  | false => exact h' H1 Z1 ex
theorem sw_or {t u : En → Ot Bool} {rest : List Expr} (ha : ST X cm W a t) (hb : SW X cm W (.BoolOp .Or (b :: rest) pos) u) : SW X cm W (.BoolOp .Or (a :: b :: rest) pos) (bOr t u) := PW.imp (pw_or ha hb) fun σ H Q h => by
  obtain ⟨Z, ρ, Fs, ok, h⟩ := h
  refine tPT_bind ok (k := fun b => if b then .ok true else u ρ) h fun k H1 Z1 ex hk => ?_
  have h' := h
  unfold bOr at h'
  rw [hk] at h'
  cases k with
  | false => exact tPT_go ok ex h'
  | true => exact h' H1 Z1 ex
theorem st_w {t : En → Ot Bool} (h : SW X cm W e t) : ST X cm W e t := h.pt
theorem st_not {t : En → Ot Bool} (ha : ST X cm W a t) : ST X cm W (.UnaryOp .Not a pos) (bNot t) := PT.imp (pt_not ha) fun σ H Q h => by
  obtain ⟨Z, ρ, Fs, ok, h⟩ := h
  refine tPT_bind ok (k := fun b => .ok (!b)) h fun k H1 Z1 ex hk => ?_
  have h' := h
  unfold bNot at h'
  rw [hk] at h'
  exact h' H1 Z1 ex
theorem s_ifExp {t : En → Ot Bool} (hc : ST X cm W c t) (ha : SE X cm W a f) (hb : SE X cm W b g) : SE X cm W (.IfExp c a b pos) (eIf t f g) := PE.imp (pe_ifExp hc ha hb) fun σ H Q h => by
  obtain ⟨Z, ρ, Fs, ok, h⟩ := h
  unfold eIf at h
  refine ⟨Z, ρ, Fs, ok, ?_⟩
  cases q : t ρ with
  | no => rw [q] at h; exact h
  | ex x => rw [q] at h; exact h
  | ok k =>
    rw [q, Ot.bind_ok] at h
    intro H1 Z1 ex
    cases k with
    | true => exact tP_go ok ex h
    | false => exact tP_go ok ex h

/-! ### chains a < b < c -/
def eChain (p p' : List D → Option D) (f g h : En → Ot D) : En → Ot D := fun ρ => (f ρ).bind fun x => (g ρ).bind fun y => (Ot.of (p [x, y])).bind fun z => (asB z).bind fun b => if b then (h ρ).bind fun w => .of (p' [y, w]) else .ok (.bl false)
/-- the middle one an atom -/
def isAt : D → Bool
  | .nd _ _ => false
  | _ => true
theorem chain_end {K : PySem.W.Frag} {r r' : R2} {p p' : List D → Option D} (hp : OkPr K cm (r2L r) p) (hp' : OkPr K cm (r2L r') p') (hy : ∀ x y z, p [x, y] = some z → isAt y = true) {σ : L2.St} {H : Hp} {Q : VK} (q0 : tP K cm W (eChain p p' f g h) σ H Q) :
    tChain r r' (tP K cm W f) (tP K cm W g) (tP K cm W h) σ H Q := by
  obtain ⟨Z, ρ, Fs, ok, q0⟩ := q0
  unfold eChain at q0
  refine tP_bind ok (fun q => ?_) (fun x q v H1 Z1 F r1 => ?_) (fun x q => ?_)
  · rw [q] at q0; exact q0
  · rw [q, Ot.bind_ok] at q0
    have ok1 := ok.ext r1.ext
    refine tP_bind ok1 (fun q => ?_) (fun y q u H2 Z2 G r2 => ?_) (fun x q => ?_)
    · rw [q] at q0; exact q0
    · rw [q, Ot.bind_ok] at q0
      have ok2 := ok1.ext r2.ext
      cases e : p [x, y] with
      | none => rw [e] at q0; exact q0.elim
      | some z =>
        rw [e, Ot.of_some, Ot.bind_ok] at q0
        have hat := hy x y z e
        have rl := ResL.cons r1 (ResL.cons r2 (.nil ok2.dom))
        have two : ∀ v u R (r0 : R2), r2L r0 [v, u] H2 R → r0 v u H2 R := fun v u R r0 ⟨_, _, e, k⟩ => by cases e; exact k
        refine two v u _ r (hp H2 Z2 [x, y] [v, u] _ z ok2.dom rl.rep rl.nd rl.nf e _ fun z' H3 Z3 F3 r3 => ?_)
        cases e2 : asB z with
        | no => rw [e2] at q0; exact q0.elim
        | ex x => exact absurd e2 asB_ex
        | ok k =>
          rw [e2, Ot.bind_ok] at q0
          have e3 := asB_ok e2
          subst e3
          obtain ⟨rfl, rfl⟩ := r3.rep
          have ex3 : Ext H Z H3 Z3 := r1.ext.trans (r2.ext.trans r3.ext)
          refine ⟨k, rfl, ?_⟩
          cases k with
          | false => exact q0 _ H3 Z3 [] (.atom ex3 rep_bl)
          | true =>
            show tP _ _ _ _ _ _ _
            have q0 : FinD K cm W σ H Z Q ((h ρ).bind fun w => Ot.of (p' [y, w])) := q0
            refine tP_bind (ok.ext ex3) (fun q => ?_) (fun w q t H4 Z4 F4 r4 => ?_) (fun x q => ?_)
            · rw [q] at q0; exact q0
            · rw [q, Ot.bind_ok] at q0
              cases e5 : p' [y, w] with
              | none => rw [e5] at q0; exact q0.elim
              | some d =>
                rw [e5] at q0
                have dm4 := (ok.ext ex3).dom.ext r4.ext
                have ry : Rep K cm H4 Z4 y u [] := by
                  cases y with
                  | nd k ds => cases hat
                  | non => exact ⟨r2.rep.1, rfl⟩
                  | bl b => exact ⟨r2.rep.1, rfl⟩
                  | int i => exact ⟨r2.rep.1, rfl⟩
                  | str s => exact ⟨r2.rep.1, rfl⟩
                have key := hp' H4 Z4 [y, w] [u, t] [[], F4] d dm4 (repL_cons ry (repL_cons r4.rep repL_nil)) (by simpa using r4.nd) (by simpa using r4.nf) e5 Q fun v5 H5 Z5 F5 r5 =>
                  q0 v5 H5 Z5 F5 (r5.trans (ex3.trans r4.ext) fun a ha => .inl (ex3.gr.back (r4.new a (by simpa using ha))))
                obtain ⟨_, _, e6, k6⟩ := key
                cases e6
                exact k6
            · rw [q] at q0; exact fun cls dd H' Z' ex xr => q0 cls dd H' Z' (ex3.trans ex) xr
    · rw [q] at q0; exact fun cls dd H' Z' ex xr => q0 cls dd H' Z' (r1.ext.trans ex) xr
  · rw [q] at q0; exact q0
theorem s_chain {op op' : CmpOp} {r r' : R2} {p p' : List D → Option D} (ho : OpR X (compareOp op) r) (ho' : OpR X (compareOp op') r') (hp : OkPr X.K cm (r2L r) p) (hp' : OkPr X.K cm (r2L r') p') (ha : SE X cm W a f) (hb : SE X cm W b g) (hc : SE X cm W c h)
    (hy : ∀ x y z, p [x, y] = some z → isAt y = true) (hm : lastMarks [op, op'] [b, c] = false := by rfl) : SE X cm W (.Compare a [op, op'] [b, c] pos) (eChain p p' f g h) :=
  PE.imp (pe_chain ho ho' ha hb hc hm) fun σ H Q q0 => chain_end hp hp' hy q0
theorem st_chain {op op' : CmpOp} {r r' : R2} {p p' : List D → Option D} (ho : OpR X (compareOp op) r) (ho' : OpR X (compareOp op') r') (hp : OkPr X.K cm (r2L r) p) (hp' : OkPr X.K cm (r2L r') p') (ha : SE X cm W a f) (hb : SE X cm W b g) (hc : SE X cm W c h)
    (hy : ∀ x y z, p [x, y] = some z → isAt y = true) (hm : lastMarks [op, op'] [b, c] = false := by rfl) : ST X cm W (.Compare a [op, op'] [b, c] pos) (eT (eChain p p' f g h)) :=
  PT.imp (pt_chain ho ho' ha hb hc hm) fun σ H Q q0 => chain_end hp hp' hy (tP_T q0)
end
end OB

namespace OB
open PySem PySem.Spec PyProof.Rows L2

/-! ### atoms -/
def toV : D → V
  | .non => .non
  | .bl b => .bl b
  | .int i => .int i
  | .str s => .str s
  | .nd _ _ => .non
def eqA : D → D → Bool
  | .non, .non => true
  | .bl a, .bl b => a == b
  | .bl a, .int b => (if a then 1 else 0) == b
  | .int a, .bl b => a == (if b then 1 else 0)
  | .int a, .int b => a == b
  | .str a, .str b => a == b
  | _, _ => false
section
variable {K : PySem.W.Frag} {cm : Cm} {H : Hp} {Z : Zn}
theorem rep_at {d : D} {v : V} {F : List Addr} (h : Rep K cm H Z d v F) (a : isAt d = true) : v = toV d ∧ F = [] ∧ flatV v = true := by
  cases d with
  | nd k ds => cases a
  | non => obtain ⟨rfl, rfl⟩ := h; exact ⟨rfl, rfl, rfl⟩
  | bl b => obtain ⟨rfl, rfl⟩ := h; exact ⟨rfl, rfl, rfl⟩
  | int i => obtain ⟨rfl, rfl⟩ := h; exact ⟨rfl, rfl, rfl⟩
  | str s => obtain ⟨rfl, rfl⟩ := h; exact ⟨rfl, rfl, rfl⟩
theorem eqV_toV {x y : D} (hx : isAt x = true) (hy : isAt y = true) : eqV (toV x) (toV y) = eqA x y := by
  cases x <;> first | (cases hx; done) | (cases y <;> first | (cases hy; done) | rfl)
theorem repL_at : ∀ {ds : List D} {vs : List V} {Fs : List (List Addr)}, RepL K cm H Z ds vs Fs → ds.all isAt = true → vs = ds.map toV ∧ vs.all flatV = true
  | [], _, _, h, _ => by obtain ⟨rfl, rfl⟩ := h; exact ⟨rfl, rfl⟩
  | d :: ds, _, _, h, a => by
    obtain ⟨v, vs', F, Fs', rfl, rfl, h1, h2⟩ := h
    rw [List.all_cons, Bool.and_eq_true] at a
    obtain ⟨e1, e2⟩ := repL_at h2 a.2
    obtain ⟨e3, _, e4⟩ := rep_at h1 a.1
    subst e1 e3
    exact ⟨rfl, by rw [List.all_cons, e4, e2]; rfl⟩
theorem any_toV {x : D} (hx : isAt x = true) : ∀ {ds : List D}, ds.all isAt = true → (ds.map toV).any (fun y => eqV y (toV x)) = ds.any fun y => eqA y x
  | [], _ => rfl
  | d :: ds, a => by
    rw [List.all_cons, Bool.and_eq_true] at a
    rw [List.map_cons, List.any_cons, List.any_cons, any_toV hx a.2, eqV_toV a.1 hx]
/-! lists of one kind -/
def intsD : List D → Option (List Int)
  | [] => some []
  | .int i :: ds => (intsD ds).map (i :: ·)
  | _ => none
def strsD : List D → Option (List Str)
  | [] => some []
  | .str s :: ds => (strsD ds).map (s :: ·)
  | _ => none
def blsD : List D → Option (List Bool)
  | [] => some []
  | .bl b :: ds => (blsD ds).map (b :: ·)
  | _ => none
theorem intsD_eq : ∀ {ds : List D} {ns : List Int}, intsD ds = some ns → ds = ns.map .int
  | [], _, h => by cases h; rfl
  | d :: ds, ns, h => by
    cases d with
    | int i =>
      unfold intsD at h
      cases q : intsD ds with
      | none => rw [q] at h; cases h
      | some ms => rw [q] at h; cases h; rw [intsD_eq q]; rfl
    | _ => cases h
theorem strsD_eq : ∀ {ds : List D} {ns : List Str}, strsD ds = some ns → ds = ns.map .str
  | [], _, h => by cases h; rfl
  | d :: ds, ns, h => by
    cases d with
    | str i =>
      unfold strsD at h
      cases q : strsD ds with
      | none => rw [q] at h; cases h
      | some ms => rw [q] at h; cases h; rw [strsD_eq q]; rfl
    | _ => cases h
theorem blsD_eq : ∀ {ds : List D} {ns : List Bool}, blsD ds = some ns → ds = ns.map .bl
  | [], _, h => by cases h; rfl
  | d :: ds, ns, h => by
    cases d with
    | bl i =>
      unfold blsD at h
      cases q : blsD ds with
      | none => rw [q] at h; cases h
      | some ms => rw [q] at h; cases h; rw [blsD_eq q]; rfl
    | _ => cases h
theorem repL_map {α : Type} {g : α → D} {g' : α → V} (hr : ∀ x, isAt (g x) = true ∧ toV (g x) = g' x) : ∀ {ns : List α} {vs : List V} {Fs : List (List Addr)}, RepL K cm H Z (ns.map g) vs Fs → vs = ns.map g'
  | [], _, _, h => h.1
  | n :: ns, _, _, h => by
    obtain ⟨v, vs', F, Fs', rfl, rfl, h1, h2⟩ := h
    obtain ⟨e, _⟩ := rep_at h1 (hr n).1
    rw [List.map_cons, ← (hr n).2, e, repL_map hr h2]
theorem repL_ints {ns : List Int} {vs : List V} {Fs : List (List Addr)} (h : RepL K cm H Z (ns.map .int) vs Fs) : vs = ns.map .int := repL_map (g' := .int) (fun _ => ⟨rfl, rfl⟩) h
theorem repL_strS {ns : List Str} {vs : List V} {Fs : List (List Addr)} (h : RepL K cm H Z (ns.map .str) vs Fs) : vs = ns.map .str := repL_map (g' := .str) (fun _ => ⟨rfl, rfl⟩) h
theorem repL_bls {ns : List Bool} {vs : List V} {Fs : List (List Addr)} (h : RepL K cm H Z (ns.map .bl) vs Fs) : vs = ns.map .bl := repL_map (g' := .bl) (fun _ => ⟨rfl, rfl⟩) h
/-- a list of atoms is made -/
theorem repL_mk {α : Type} {g : α → D} {g' : α → V} (hr : ∀ x, Rep K cm H Z (g x) (g' x) []) : ∀ ns : List α, RepL K cm H Z (ns.map g) (ns.map g') (List.replicate ns.length [])
  | [] => repL_nil
  | n :: ns => repL_cons (hr n) (repL_mk hr ns)
end

/-! ### comparisons -/
def pLt : List D → Option D
  | [.int i, .int j] => some (.bl (decide (i < j)))
  | _ => none
def pLe : List D → Option D
  | [.int i, .int j] => some (.bl (decide (i ≤ j)))
  | _ => none
def pGt : List D → Option D
  | [.int i, .int j] => some (.bl (decide (j < i)))
  | _ => none
def pGe : List D → Option D
  | [.int i, .int j] => some (.bl (decide (j ≤ i)))
  | _ => none
/-- == of atoms -/
def atEq : D → D → Option Bool
  | .int i, .int j => some (i == j)
  | .str a, .str b => some (a == b)
  | .bl a, .bl b => some (a == b)
  | .non, .non => some true
  | .int _, .str _ => some false
  | .str _, .int _ => some false
  | .non, .int _ => some false
  | .int _, .non => some false
  | .non, .str _ => some false
  | .str _, .non => some false
  | .bl _, .str _ => some false
  | .str _, .bl _ => some false
  | .bl _, .non => some false
  | .non, .bl _ => some false
  | _, _ => none
mutual
def toPy : D → Option PyData
  | .non => some .none
  | .bl b => some (.bool b)
  | .int i => some (.int i)
  | .str s => some (.str s)
  | .nd (.lst _) ds => (toPyL ds).map .list
  | .nd .tup ds => (toPyL ds).map .tuple
  | .nd _ _ => none
def toPyL : List D → Option (List PyData)
  | [] => some []
  | d :: ds => (toPy d).bind fun e => (toPyL ds).map (e :: ·)
end
def deepEq (x y : D) : Option Bool := (toPy x).bind fun a => (toPy y).bind fun b => if SeqAt.shaped a && SeqAt.shaped b then some (PyData.eqv a b) else none
def pEq : List D → Option D
  | [x, y] => ((atEq x y).or (deepEq x y)).map .bl
  | _ => none
def pNe : List D → Option D
  | [x, y] => ((atEq x y).or (deepEq x y)).map fun b => .bl (!b)
  | _ => none
def rEqQ (K : PySem.W.Frag) : R2 := fun x y H Q => rEq x y H Q ∨ rEqD K x y H Q
def rNeQ (K : PySem.W.Frag) : R2 := fun x y H Q => rNe x y H Q ∨ rNeD K x y H Q
theorem op_eqQ {X : Cx} (hu : X.A.units + 64 < cLine) : OpR X (compareOp .Eq) (rEqQ X.K) := op_eq.or (op_eqD hu)
theorem op_neQ {X : Cx} (hu : X.A.units + 64 < cLine) : OpR X (compareOp .NotEq) (rNeQ X.K) := op_ne.or (op_neD hu)
section
variable {K : PySem.W.Frag} {cm : Cm}
theorem ok_cmpI {g : Int → Int → Bool} {p : List D → Option D} (hp : ∀ ds d, p ds = some d → ∃ i j, ds = [.int i, .int j] ∧ d = .bl (g i j)) : OkPr K cm (r2L (rI0 fun i j => .bl (g i j))) p := by
  intro H Z ds vs Fs d dm rp nd nf e Q q
  obtain ⟨i, j, rfl, rfl⟩ := hp _ _ e
  obtain ⟨v, u, F, G, rfl, rfl, ⟨rfl, rfl⟩, ⟨rfl, rfl⟩⟩ := repL2 rp
  exact ⟨_, _, rfl, _, _, rfl, rfl, q _ H Z [] (.atom (.refl dm) rep_bl)⟩
theorem ok_lt : OkPr K cm (r2L (rI0 fun i j => .bl (decide (i < j)))) pLt := ok_cmpI fun ds d e => by
  unfold pLt at e
  split at e
  · cases e; exact ⟨_, _, rfl, rfl⟩
  · cases e
theorem ok_le : OkPr K cm (r2L (rI0 fun i j => .bl (decide (i ≤ j)))) pLe := ok_cmpI fun ds d e => by
  unfold pLe at e
  split at e
  · cases e; exact ⟨_, _, rfl, rfl⟩
  · cases e
theorem ok_gt : OkPr K cm (r2L (rI0 fun i j => .bl (decide (j < i)))) pGt := ok_cmpI (g := fun i j => decide (j < i)) fun ds d e => by
  unfold pGt at e
  split at e
  · cases e; exact ⟨_, _, rfl, rfl⟩
  · cases e
theorem ok_ge : OkPr K cm (r2L (rI0 fun i j => .bl (decide (j ≤ i)))) pGe := ok_cmpI (g := fun i j => decide (j ≤ i)) fun ds d e => by
  unfold pGe at e
  split at e
  · cases e; exact ⟨_, _, rfl, rfl⟩
  · cases e
theorem mid_lt {x y z : D} (h : pLt [x, y] = some z) : isAt y = true := by
  unfold pLt at h; split at h
  · rename_i e; cases e; rfl
  · cases h
theorem mid_le {x y z : D} (h : pLe [x, y] = some z) : isAt y = true := by
  unfold pLe at h; split at h
  · rename_i e; cases e; rfl
  · cases h
mutual
theorem dp_of {H : Hp} {Z : Zn} : ∀ (d : D) {v : V} {F : List Addr} {e : PyData}, Rep K cm H Z d v F → toPy d = some e → Dp K H v e
  | .non, _, _, _, h, q => by cases q; rw [h.1]; exact .non
  | .bl b, _, _, _, h, q => by cases q; rw [h.1]; exact .bl b
  | .int b, _, _, _, h, q => by cases q; rw [h.1]; exact .int b
  | .str b, _, _, _, h, q => by cases q; rw [h.1]; exact .str b
  | .nd (.lst f) ds, _, _, _, h, q => by
    obtain ⟨a, vs, Fs, rfl, hc, hl, rfl⟩ := h
    unfold toPy at q
    cases q2 : toPyL ds with
    | none => rw [q2] at q; cases q
    | some es => rw [q2] at q; cases q; exact .lst (rdL hc.2.1) (dps_of ds hl q2)
  | .nd .tup ds, _, _, _, h, q => by
    obtain ⟨a, vs, Fs, rfl, hc, hl, rfl⟩ := h
    unfold toPy at q
    cases q2 : toPyL ds with
    | none => rw [q2] at q; cases q
    | some es => rw [q2] at q; cases q; exact .tup hc (dps_of ds hl q2)
  | .nd (.dct _ _) ds, _, _, _, h, q => by cases q
  | .nd (.obj _ _ _) ds, _, _, _, h, q => by cases q
  | .nd (.exc _ _ _) ds, _, _, _, h, q => by cases q
theorem dps_of {H : Hp} {Z : Zn} : ∀ (ds : List D) {vs : List V} {Fs : List (List Addr)} {es : List PyData}, RepL K cm H Z ds vs Fs → toPyL ds = some es → DpAll K H vs es
  | [], _, _, _, h, q => by cases q; rw [h.1]; exact .nil
  | d :: ds, _, _, es, h, q => by
    obtain ⟨v, vs', F, Fs', rfl, rfl, h1, h2⟩ := h
    unfold toPyL at q
    cases q1 : toPy d with
    | none => rw [q1] at q; cases q
    | some e =>
      rw [q1] at q
      cases q2 : toPyL ds with
      | none => simp [q2] at q
      | some es' =>
        simp [q2] at q
        subst q
        exact .cons (dp_of d h1 q1) (dps_of ds h2 q2)
end
theorem atEq_ok {H : Hp} {Z : Zn} {x y : D} {v u : V} {F G : List Addr} {b : Bool} (h1 : Rep K cm H Z x v F) (h2 : Rep K cm H Z y u G) (e : atEq x y = some b) : scal v u = true ∧ decide (v = u) = b := by
  unfold atEq at e
  split at e <;> first | (cases e; done) | (cases e; obtain ⟨rfl, rfl⟩ := h1; obtain ⟨rfl, rfl⟩ := h2; first | exact ⟨rfl, dec_int⟩ | exact ⟨rfl, dec_str⟩ | exact ⟨rfl, dec_bl⟩ | exact ⟨rfl, by decide⟩ | exact ⟨rfl, by simp⟩)
theorem ok_eq : OkPr K cm (r2L (rEqQ K)) pEq := by
  intro H Z ds vs Fs d dm rp nd nf e Q q
  unfold pEq at e
  split at e
  · rename_i x y
    obtain ⟨v, u, F, G, rfl, rfl, h1, h2⟩ := repL2 rp
    refine ⟨v, u, rfl, ?_⟩
    cases q1 : atEq x y with
    | some b =>
      obtain ⟨a, c⟩ := atEq_ok h1 h2 q1
      refine .inl ⟨a, ?_⟩
      rw [q1] at e
      cases e
      rw [c]
      exact q _ H Z [] (.atom (.refl dm) rep_bl)
    | none =>
      rw [q1] at e
      have e' : (deepEq x y).map D.bl = some d := e
      unfold deepEq at e'
      cases q2 : toPy x with
      | none => rw [q2] at e'; cases e'
      | some a =>
        cases q3 : toPy y with
        | none => rw [q2, q3] at e'; cases e'
        | some b =>
          rw [q2, q3] at e'
          have e2 : (if SeqAt.shaped a && SeqAt.shaped b then some (PyData.eqv a b) else none).map D.bl = some d := e'
          split at e2
          · rename_i sh
            rw [Bool.and_eq_true] at sh
            cases e2
            exact .inr ⟨a, b, dp_of x h1 q2, dp_of y h2 q3, sh.1, sh.2, q _ H Z [] (.atom (.refl dm) rep_bl)⟩
          · cases e2
  · cases e
theorem ok_ne : OkPr K cm (r2L (rNeQ K)) pNe := by
  intro H Z ds vs Fs d dm rp nd nf e Q q
  unfold pNe at e
  split at e
  · rename_i x y
    obtain ⟨v, u, F, G, rfl, rfl, h1, h2⟩ := repL2 rp
    refine ⟨v, u, rfl, ?_⟩
    cases q1 : atEq x y with
    | some b =>
      obtain ⟨a, c⟩ := atEq_ok h1 h2 q1
      refine .inl ⟨a, ?_⟩
      rw [q1] at e
      cases e
      rw [c]
      exact q _ H Z [] (.atom (.refl dm) rep_bl)
    | none =>
      rw [q1] at e
      have e' : (deepEq x y).map (fun b => D.bl (!b)) = some d := e
      unfold deepEq at e'
      cases q2 : toPy x with
      | none => rw [q2] at e'; cases e'
      | some a =>
        cases q3 : toPy y with
        | none => rw [q2, q3] at e'; cases e'
        | some b =>
          rw [q2, q3] at e'
          have e2 : (if SeqAt.shaped a && SeqAt.shaped b then some (PyData.eqv a b) else none).map (fun b => D.bl (!b)) = some d := e'
          split at e2
          · rename_i sh
            rw [Bool.and_eq_true] at sh
            cases e2
            exact .inr ⟨a, b, dp_of x h1 q2, dp_of y h2 q3, sh.1, sh.2, q _ H Z [] (.atom (.refl dm) rep_bl)⟩
          · cases e2
  · cases e
end

/-! ### is None, is True -/
def isNon : D → Bool
  | .non => true
  | _ => false
def pIs : List D → Option D
  | [x, .non] => some (.bl (isNon x))
  | [.bl a, .bl b] => some (.bl (decide (a = b)))
  | _ => none
def pIsN : List D → Option D
  | [x, .non] => some (.bl (!isNon x))
  | [.bl a, .bl b] => some (.bl (!decide (a = b)))
  | _ => none
def rIsQ : R2 := fun x y H Q => (y = .non ∧ Q (.bl (decide (x = .non))) H) ∨ rIsB x y H Q
def rIsNQ : R2 := fun x y H Q => (y = .non ∧ Q (.bl (!decide (x = .non))) H) ∨ rNotB x y H Q
theorem op_isQ {X : Cx} : OpR X (compareOp .Is) rIsQ := op_isN.or op_isBl
theorem op_isNQ {X : Cx} : OpR X (compareOp .IsNot) rIsNQ := op_notN.or op_notBl
section
variable {K : PySem.W.Frag} {cm : Cm}
theorem isNon_ok {H : Hp} {Z : Zn} {x : D} {v : V} {F : List Addr} (h : Rep K cm H Z x v F) : decide (v = .non) = isNon x := by
  cases x with
  | nd k ds => obtain ⟨a, vs, Fs, rfl, _⟩ := h; simp [isNon]
  | _ => obtain ⟨rfl, rfl⟩ := h; simp [isNon]
theorem ok_is : OkPr K cm (r2L rIsQ) pIs := by
  intro H Z ds vs Fs d dm rp nd nf e Q q
  unfold pIs at e
  split at e
  · cases e
    obtain ⟨v, u, F, G, rfl, rfl, h1, ⟨rfl, rfl⟩⟩ := repL2 rp
    refine ⟨v, _, rfl, .inl ⟨rfl, ?_⟩⟩
    rw [isNon_ok h1]
    exact q _ H Z [] (.atom (.refl dm) rep_bl)
  · cases e
    obtain ⟨v, u, F, G, rfl, rfl, ⟨rfl, rfl⟩, ⟨rfl, rfl⟩⟩ := repL2 rp
    exact ⟨_, _, rfl, .inr ⟨_, _, rfl, rfl, q _ H Z [] (.atom (.refl dm) rep_bl)⟩⟩
  · cases e
theorem ok_isN : OkPr K cm (r2L rIsNQ) pIsN := by
  intro H Z ds vs Fs d dm rp nd nf e Q q
  unfold pIsN at e
  split at e
  · cases e
    obtain ⟨v, u, F, G, rfl, rfl, h1, ⟨rfl, rfl⟩⟩ := repL2 rp
    refine ⟨v, _, rfl, .inl ⟨rfl, ?_⟩⟩
    rw [isNon_ok h1]
    exact q _ H Z [] (.atom (.refl dm) rep_bl)
  · cases e
    obtain ⟨v, u, F, G, rfl, rfl, ⟨rfl, rfl⟩, ⟨rfl, rfl⟩⟩ := repL2 rp
    exact ⟨_, _, rfl, .inr ⟨_, _, rfl, rfl, q _ H Z [] (.atom (.refl dm) rep_bl)⟩⟩
  · cases e
end
end OB

namespace OB
open PySem PySem.Spec PyProof.Rows L2

/-! ### keys -/
theorem DGet.rk {H : Hp} {a : Addr} {kvs : List (Key × V)} {k : Key} (e : Rd H a (.dK kvs)) : DGet H a (kV k) (valV kvs k) := .inl ⟨kvs, k, e, rfl, rfl⟩
def keyD : D → Option Key
  | .int i => some (.inl i)
  | .str s => some (.inr s)
  | _ => none
/-- what a dict holds under a key -/
def look {α : Type} : List Key → List α → Key → Option α
  | k :: ks, d :: ds, q => if k = q then some d else look ks ds q
  | _, _, _ => none
section
variable {K : PySem.W.Frag} {cm : Cm} {H : Hp} {Z : Zn}
theorem key_ok {d : D} {k : Key} {v : V} {F : List Addr} (h : Rep K cm H Z d v F) (e : keyD d = some k) : v = kV k := by
  cases d with
  | int i => cases e; exact h.1
  | str i => cases e; exact h.1
  | _ => cases e
theorem look_valV : ∀ {ks : List Key} {vs : List V}, ks.length = vs.length → ∀ k, valV (ks.zip vs) k = look ks vs k
  | [], [], _, _ => rfl
  | q :: ks, v :: vs, l, k => by
    have ih := look_valV (ks := ks) (vs := vs) (by simpa using l) k
    unfold valV at ih ⊢
    rw [List.zip_cons_cons, List.find?_cons]
    unfold look
    by_cases e : q = k
    · simp [e]
    · simp [e, ih]
theorem look_rep : ∀ {ks : List Key} {ds : List D} {vs : List V} {Fs : List (List Addr)}, RepL K cm H Z ds vs Fs → ∀ k, (look ks vs k).isSome = (look ks ds k).isSome ∧ ∀ d, look ks ds k = some d → ∃ (v : V) (F : List Addr) (i : Nat), look ks vs k = some v ∧ Fs[i]? = some F ∧ ds[i]? = some d ∧ Rep K cm H Z d v F
  | [], ds, vs, Fs, _, _ => by
    refine ⟨by cases ds <;> cases vs <;> rfl, fun d e => ?_⟩
    cases ds <;> cases e
  | q :: ks, [], vs, Fs, h, _ => by
    obtain ⟨rfl, rfl⟩ := h
    exact ⟨rfl, fun d e => nomatch e⟩
  | q :: ks, d0 :: ds, _, _, h, k => by
    obtain ⟨v, vs', F, Fs', rfl, rfl, h1, h2⟩ := h
    unfold look
    by_cases e : q = k
    · rw [if_pos e, if_pos e]
      exact ⟨rfl, fun d e2 => by cases e2; exact ⟨v, F, 0, rfl, rfl, rfl, h1⟩⟩
    · rw [if_neg e, if_neg e]
      obtain ⟨a, b⟩ := look_rep (ks := ks) h2 k
      refine ⟨a, fun d e2 => ?_⟩
      obtain ⟨v2, F2, i, c1, c2, c3, c4⟩ := b d e2
      exact ⟨v2, F2, i + 1, c1, by simpa using c2, by simpa using c3, c4⟩
end

/-! ### in -/
def inV? : List D → Option Bool
  | [x, .nd (.lst _) ds] => if isAt x && ds.all isAt then some (ds.any fun y => eqA y x) else none
  | [x, .nd .tup ds] => if isAt x && ds.all isAt then some (ds.any fun y => eqA y x) else none
  | [.str s, .str z] => match s.cps.toList with
    | [c] => some (decide (c ∈ z.cps.toList))
    | _ => none
  | [x, .nd (.dct _ ks) ds] => (keyD x).map fun k => (look ks ds k).isSome
  | _ => none
def pIn (ds : List D) : Option D := (inV? ds).map .bl
def pNotIn (ds : List D) : Option D := (inV? ds).map fun b => .bl (!b)
def rDIn : R2 := fun x y H Q => ∃ a o, y = .ref a ∧ DGet H a x o ∧ Q (.bl o.isSome) H
def rDNotIn : R2 := fun x y H Q => ∃ a o, y = .ref a ∧ DGet H a x o ∧ Q (.bl (!o.isSome)) H
section
variable {X : Cx}
theorem op_din (hu : X.A.units + 1 < cLine) : OpR X (compareOp .In) rDIn := by
  intro pins s σ H x y v u Q I rx ry h
  obtain ⟨a, o, rfl, g, q⟩ := h
  cases ry
  exact d_in hu I g rx fun s' I' => ⟨.bl o.isSome, H, I', rfl, q⟩
theorem op_dnotIn (hu : X.A.units + 1 < cLine) : OpR X (compareOp .NotIn) rDNotIn := by
  intro pins s σ H x y v u Q I rx ry h
  obtain ⟨a, o, rfl, g, q⟩ := h
  cases ry
  exact d_notIn hu I g rx fun s' I' => ⟨.bl (!o.isSome), H, I', rfl, q⟩
end
def rIn3 (K : PySem.W.Frag) : R2 := fun x y H Q => rIn K false x y H Q ∨ (∃ (c : Nat) (z : Str), x = .str ⟨#[c]⟩ ∧ y = .str z ∧ Q (.bl (decide (c ∈ z.cps.toList))) H) ∨ rDIn x y H Q
def rNotIn3 (K : PySem.W.Frag) : R2 := fun x y H Q => rIn K true x y H Q ∨ (∃ (c : Nat) (z : Str), x = .str ⟨#[c]⟩ ∧ y = .str z ∧ Q (.bl (!decide (c ∈ z.cps.toList))) H) ∨ rDNotIn x y H Q
theorem op_in3 {X : Cx} (hu : X.A.units + 1 < cLine) : OpR X (compareOp .In) (rIn3 X.K) := op_in_seq.or (op_in_sign.or (op_din hu))
theorem op_notIn3 {X : Cx} (hu : X.A.units + 1 < cLine) : OpR X (compareOp .NotIn) (rNotIn3 X.K) := op_notIn_seq.or (op_notIn_sign.or (op_dnotIn hu))
section
variable {K : PySem.W.Frag} {cm : Cm}
/-- what in comes to, on values -/
theorem inV_ok {H : Hp} {Z : Zn} {ds : List D} {vs : List V} {Fs : List (List Addr)} {b : Bool} (rp : RepL K cm H Z ds vs Fs) (e : inV? ds = some b) :
    ∃ x y, vs = [x, y] ∧ ((∃ p xs, y = .ref p ∧ (SqL K H p xs ∨ SqT K H p xs) ∧ flatV x = true ∧ xs.all flatV = true ∧ inV x xs = b) ∨
      (∃ (c : Nat) (z : Str), x = .str ⟨#[c]⟩ ∧ y = .str z ∧ decide (c ∈ z.cps.toList) = b) ∨ ∃ a o, y = .ref a ∧ DGet H a x o ∧ o.isSome = b) := by
  unfold inV? at e
  split at e
  · rename_i x f ds'
    split at e
    · rename_i ha
      rw [Bool.and_eq_true] at ha
      cases e
      obtain ⟨v, u, F, G, rfl, rfl, h1, a, us, Gs, rfl, hc, hl, rfl⟩ := repL2 rp
      obtain ⟨e1, _, f1⟩ := rep_at h1 ha.1
      obtain ⟨e2, f2⟩ := repL_at hl ha.2
      refine ⟨v, _, rfl, .inl ⟨a, us, rfl, .inl (rdL hc.2.1), f1, f2, ?_⟩⟩
      subst e1 e2
      exact any_toV ha.1 ha.2
    · cases e
  · rename_i x ds'
    split at e
    · rename_i ha
      rw [Bool.and_eq_true] at ha
      cases e
      obtain ⟨v, u, F, G, rfl, rfl, h1, a, us, Gs, rfl, hc, hl, rfl⟩ := repL2 rp
      obtain ⟨e1, _, f1⟩ := rep_at h1 ha.1
      obtain ⟨e2, f2⟩ := repL_at hl ha.2
      refine ⟨v, _, rfl, .inl ⟨a, us, rfl, .inr hc, f1, f2, ?_⟩⟩
      subst e1 e2
      exact any_toV ha.1 ha.2
    · cases e
  · rename_i s z
    split at e
    · rename_i c hs
      cases e
      obtain ⟨v, u, F, G, rfl, rfl, ⟨rfl, rfl⟩, ⟨rfl, rfl⟩⟩ := repL2 rp
      have es : s = ⟨#[c]⟩ := by
        obtain ⟨a⟩ := s
        have : a = #[c] := Array.ext' (by simpa using hs)
        rw [this]
      exact ⟨_, _, rfl, .inr (.inl ⟨c, z, by rw [es], rfl, rfl⟩)⟩
    · cases e
  · rename_i x f ks ds'
    cases q : keyD x with
    | none => rw [q] at e; cases e
    | some k =>
      rw [q] at e
      cases e
      obtain ⟨v, u, F, G, rfl, rfl, h1, a, us, Gs, rfl, hc, hl, rfl⟩ := repL2 rp
      have ek := key_ok h1 q
      subst ek
      refine ⟨_, _, rfl, .inr (.inr ⟨a, _, rfl, DGet.rk hc.2.1, ?_⟩)⟩
      rw [look_valV hc.2.2.1]
      exact (look_rep hl k).1
  · cases e
theorem ok_in : OkPr K cm (r2L (rIn3 K)) pIn := by
  intro H Z ds vs Fs d dm rp nd nf e Q q
  unfold pIn at e
  cases q1 : inV? ds with
  | none => rw [q1] at e; cases e
  | some b =>
    rw [q1] at e
    cases e
    have fin := q _ H Z [] (.atom (.refl dm) rep_bl)
    obtain ⟨x, y, rfl, h | h | h⟩ := inV_ok rp q1
    · obtain ⟨p, xs, rfl, a, c, f, rfl⟩ := h
      exact ⟨_, _, rfl, .inl ⟨p, xs, rfl, a, c, f, fin⟩⟩
    · obtain ⟨c, z, rfl, rfl, rfl⟩ := h
      exact ⟨_, _, rfl, .inr (.inl ⟨c, z, rfl, rfl, fin⟩)⟩
    · obtain ⟨a, o, rfl, g, rfl⟩ := h
      exact ⟨_, _, rfl, .inr (.inr ⟨a, o, rfl, g, fin⟩)⟩
theorem ok_notIn : OkPr K cm (r2L (rNotIn3 K)) pNotIn := by
  intro H Z ds vs Fs d dm rp nd nf e Q q
  unfold pNotIn at e
  cases q1 : inV? ds with
  | none => rw [q1] at e; cases e
  | some b =>
    rw [q1] at e
    cases e
    have fin := q _ H Z [] (.atom (.refl dm) rep_bl)
    obtain ⟨x, y, rfl, h | h | h⟩ := inV_ok rp q1
    · obtain ⟨p, xs, rfl, a, c, f, rfl⟩ := h
      exact ⟨_, _, rfl, .inl ⟨p, xs, rfl, a, c, f, fin⟩⟩
    · obtain ⟨c, z, rfl, rfl, rfl⟩ := h
      exact ⟨_, _, rfl, .inr (.inl ⟨c, z, rfl, rfl, fin⟩)⟩
    · obtain ⟨a, o, rfl, g, rfl⟩ := h
      exact ⟨_, _, rfl, .inr (.inr ⟨a, o, rfl, g, fin⟩)⟩
end

/-! ### subscripts -/
def pIx : List D → Option D
  | [.nd (.lst _) ds, .int i] => atI ds i
  | [.nd .tup ds, .int i] => atI ds i
  | [.str z, .int i] => if z.length ≤ sizeLine then (atI z.cps.toList i).map fun c => .str ⟨#[c]⟩ else none
  | [.nd (.dct _ ks) ds, x] => (keyD x).bind fun k => look ks ds k
  | _ => none
def rIxK (K : PySem.W.Frag) : R2 := fun x y H Q => ∃ a v, x = .ref a ∧ DGet H a y (some v) ∧ Q v H
section
variable {X : Cx}
theorem ix_dict (hu : X.A.units + 1 < cLine) : IxR X (rIxK X.K) := by
  intro value slice pins s σ H x y v u Q I rx ry h hs
  obtain ⟨a, w, rfl, g, q⟩ := h
  cases rx
  exact tail_any (dict_typeIs I g) PySem.F.slot_dict_getitem.lookup (d_getItem hu I g ry fun w' s' I' rw' => ⟨w, H, I', rw', q⟩) hs
def rIx4 (K : PySem.W.Frag) : R2 := fun x y H Q => rIx K x y H Q ∨ rIxK K x y H Q
theorem ix_4 (hu : X.A.units + 1 < cLine) : IxR X (rIx4 X.K) := ix_seq.or (ix_dict hu)
end
theorem atI_get' {α : Type} {xs : List α} {i : Int} {x : α} (h : atI xs i = some x) : ∃ j, ixN xs.length i = some j ∧ xs[j]? = some x := by
  unfold atI at h
  cases q : ixN xs.length i with
  | none => rw [q] at h; cases h
  | some j => rw [q] at h; exact ⟨j, rfl, h⟩
section
variable {K : PySem.W.Frag} {cm : Cm}
theorem atI_rep {H : Hp} {Z : Zn} {ds : List D} {vs : List V} {Fs : List (List Addr)} {i : Int} {d : D} (rp : RepL K cm H Z ds vs Fs) (e : atI ds i = some d) : ∃ (v : V) (F : List Addr) (j : Nat), atI vs i = some v ∧ Fs[j]? = some F ∧ Rep K cm H Z d v F := by
  obtain ⟨j, e1, e2⟩ := atI_get' e
  obtain ⟨v, F, a, b, c⟩ := rp.get e2
  refine ⟨v, F, j, ?_, b, c⟩
  unfold atI
  rw [rp.len.1, e1]
  exact a
theorem ok_ix : OkPr K cm (r2L (rIx4 K)) pIx := by
  intro H Z ds vs Fs d dm rp nd nf e Q q
  have key : ∀ {a : Addr} {k : Kd} {Gs : List (List Addr)} {G F : List Addr} {j : Nat}, Fs = [ownA k a ++ Gs.flatten, G] → Gs[j]? = some F → F.Sublist Fs.flatten := fun {a k Gs G F j} e h => by
    subst e
    rw [List.flatten_cons]
    exact ((flatten_get h).trans (List.sublist_append_right _ _)).trans (List.sublist_append_left _ _)
  unfold pIx at e
  split at e
  · obtain ⟨v, u, F, G, rfl, hF, ⟨a, us, Gs, rfl, hc, hl, rfl⟩, ⟨rfl, rfl⟩⟩ := repL2 rp
    obtain ⟨w, F', j, e1, e2, e3⟩ := atI_rep hl e
    have sb := key hF e2
    exact ⟨_, _, rfl, .inl (.inl ⟨a, us, _, w, rfl, rfl, rdL hc.2.1, e1, q _ H Z _ (.same dm e3 (nd.sublist sb) (fun x hx => sb.subset hx) fun x hx => nf x (sb.subset hx))⟩)⟩
  · obtain ⟨v, u, F, G, rfl, hF, ⟨a, us, Gs, rfl, hc, hl, rfl⟩, ⟨rfl, rfl⟩⟩ := repL2 rp
    obtain ⟨w, F', j, e1, e2, e3⟩ := atI_rep hl e
    have sb := key hF e2
    exact ⟨_, _, rfl, .inl (.inr (.inl ⟨a, us, _, w, rfl, rfl, hc, e1, q _ H Z _ (.same dm e3 (nd.sublist sb) (fun x hx => sb.subset hx) fun x hx => nf x (sb.subset hx))⟩))⟩
  · split at e
    · rename_i z i hl
      cases e2 : atI z.cps.toList i with
      | none => rw [e2] at e; cases e
      | some c =>
        rw [e2] at e
        cases e
        obtain ⟨v, u, F, G, rfl, hF, ⟨rfl, rfl⟩, ⟨rfl, rfl⟩⟩ := repL2 rp
        exact ⟨_, _, rfl, .inl (.inr (.inr ⟨z, i, c, rfl, rfl, hl, e2, q _ H Z [] (.atom (.refl dm) rep_str)⟩))⟩
    · cases e
  · rename_i f ks ds' x
    cases e2 : keyD x with
    | none => rw [e2] at e; cases e
    | some k =>
      rw [e2] at e
      have e : look ks ds' k = some d := e
      obtain ⟨v, u, F, G, rfl, hF, ⟨a, us, Gs, rfl, hc, hl, rfl⟩, h2⟩ := repL2 rp
      have ek := key_ok h2 e2
      subst ek
      obtain ⟨w, F', j, e3, e4, e5, e6⟩ := (look_rep (ks := ks) hl k).2 d e
      have sb := key hF e4
      refine ⟨_, _, rfl, .inr ⟨a, w, rfl, ?_, q _ H Z _ (.same dm e6 (nd.sublist sb) (fun x hx => sb.subset hx) fun x hx => nf x (sb.subset hx))⟩⟩
      have g := DGet.rk (k := k) hc.2.1
      rw [look_valV hc.2.2.1, e3] at g
      exact g
  · cases e
end
end OB

namespace OB
open PySem PySem.Spec PyProof.Rows L2

/-! ### slices -/
def FinO (K : PySem.W.Frag) (cm : Cm) (W : WX) (σ : L2.St) (H : Hp) (Z : Zn) (Q : Option Int → Hp → Prop) : Ot (Option Int) → Prop
  | .no => False
  | .ok b => ∀ H' Z', Ext H Z H' Z' → Q b H'
  | .ex x => ∀ cls dd H' Z', Ext H Z H' Z' → XRep K cm H' Z' x cls dd → W cls dd σ H'
def tPO (K : PySem.W.Frag) (cm : Cm) (W : WX) (f : En → Ot (Option Int)) : TO := fun σ H Q => ∃ Z ρ Fs, OkP K cm H σ ρ Fs Z ∧ FinO K cm W σ H Z Q (f ρ)
abbrev SO (X : Cx) (cm : Cm) (W : WX) (e : Option Expr) (f : En → Ot (Option Int)) : Prop := PO X e (tPO X.K cm W f)
def oNone : En → Ot (Option Int) := fun _ => .ok none
def asI : D → Ot Int
  | .int i => .ok i
  | _ => .no
def oSome (f : En → Ot D) : En → Ot (Option Int) := fun ρ => (f ρ).bind fun d => (asI d).bind fun i => .ok (some i)
def eSl (p : D → Option Int → Option Int → Option D) (f : En → Ot D) (g h : En → Ot (Option Int)) : En → Ot D := fun ρ => (f ρ).bind fun d => (g ρ).bind fun lo => (h ρ).bind fun hi => .of (p d lo hi)
theorem PO.imp {X : Cx} {e : Option Expr} {t t' : TO} (h : PO X e t) (i : ∀ σ H Q, t' σ H Q → t σ H Q) : PO X e t' := ⟨fun pins s σ H Q I q => h.run pins s σ H Q I (i σ H Q q)⟩
theorem asI_ok {d : D} {b : Int} (h : asI d = .ok b) : d = .int b := by
  cases d <;> first | (cases h; done) | (cases h; rfl)
theorem asI_ex {d : D} {x : XD} : asI d ≠ .ex x := by cases d <;> exact fun h => nomatch h
section
variable {X : Cx} {cm : Cm} {W : WX} {e : Expr} {f : En → Ot D} {g h : En → Ot (Option Int)} {lo hi : Option Expr} {pos p2 : Pos}
theorem so_none : SO X cm W none oNone := PO.imp po_none fun σ H Q q => by
  obtain ⟨Z, ρ, Fs, ok, q⟩ := q
  exact q H Z (.refl ok.dom)
theorem so_some (he : SE X cm W e f) : SO X cm W (some e) (oSome f) := PO.imp (po_some he) fun σ H Q q => by
  obtain ⟨Z, ρ, Fs, ok, q0⟩ := q
  unfold oSome at q0
  refine tP_bind ok (fun q => ?_) (fun d q v H1 Z1 F r => ?_) (fun x q => ?_)
  · rw [q] at q0; exact q0
  · rw [q, Ot.bind_ok] at q0
    cases q2 : asI d with
    | no => rw [q2] at q0; exact q0.elim
    | ex x => exact absurd q2 asI_ex
    | ok i =>
      rw [q2, Ot.bind_ok] at q0
      have e := asI_ok q2
      subst e
      obtain ⟨rfl, rfl⟩ := r.rep
      exact ⟨i, rfl, q0 H1 Z1 r.ext⟩
  · rw [q] at q0; exact q0
def OkSl (K : PySem.W.Frag) (cm : Cm) (r : V → Option Int → Option Int → Hp → VK → Prop) (p : D → Option Int → Option Int → Option D) : Prop :=
  ∀ H Z d v F lo hi e, Dom H Z → Rep K cm H Z d v F → F.Nodup → (∀ a ∈ F, ¬ Z.f a) → p d lo hi = some e → ∀ Q : VK, (∀ u H' Z' G, Res K cm H Z H' Z' F e u G → Q u H') → r v lo hi H Q
theorem s_slice {r : V → Option Int → Option Int → Hp → VK → Prop} {p : D → Option Int → Option Int → Option D} (hr : SlR X r) (hp : OkSl X.K cm r p) (he : SE X cm W e f) (hl : SO X cm W lo g) (hu : SO X cm W hi h) :
    SE X cm W (.Subscript e (.Slice lo hi none p2) pos) (eSl p f g h) := PE.imp (pe_slice hr he hl hu) fun σ H Q q0 => by
  obtain ⟨Z, ρ, Fs, ok, q0⟩ := q0
  unfold eSl at q0
  refine tP_bind ok (fun q => ?_) (fun d q v H1 Z1 F r1 => ?_) (fun x q => ?_)
  · rw [q] at q0; exact q0
  · rw [q, Ot.bind_ok] at q0
    have ok1 := ok.ext r1.ext
    refine ⟨Z1, ρ, Fs, ok1, ?_⟩
    cases q2 : g ρ with
    | no => rw [q2] at q0; exact q0
    | ex x => rw [q2] at q0; exact fun cls dd H' Z' ex xr => q0 cls dd H' Z' (r1.ext.trans ex) xr
    | ok l =>
      rw [q2, Ot.bind_ok] at q0
      intro H2 Z2 ex2
      refine ⟨Z2, ρ, Fs, ok1.ext ex2, ?_⟩
      cases q3 : h ρ with
      | no => rw [q3] at q0; exact q0
      | ex x => rw [q3] at q0; exact fun cls dd H' Z' ex xr => q0 cls dd H' Z' (r1.ext.trans (ex2.trans ex)) xr
      | ok u =>
        rw [q3, Ot.bind_ok] at q0
        intro H3 Z3 ex3
        have ex23 := ex2.trans ex3
        cases q4 : p d l u with
        | none => rw [q4] at q0; exact q0.elim
        | some d' =>
          rw [q4] at q0
          have hm := Rep.mut d r1.rep
          exact hp H3 Z3 d v F l u d' (ok1.dom.ext ex23) (r1.rep.ext ex23) r1.nd (fun a ha => keep_nf ex23 (hm a ha) (r1.nf a ha)) q4 Q fun w H' Z' G r4 =>
            q0 w H' Z' G (r4.trans (r1.ext.trans ex23) fun a ha => .inl (r1.new a ha))
  · rw [q] at q0; exact q0
end
def cutD (xs : List D) (lo hi : Option Int) : List D := (xs.drop (HT.sIx xs.length 0 lo)).take (HT.sIx xs.length xs.length hi - HT.sIx xs.length 0 lo)
def pSl : D → Option Int → Option Int → Option D
  | .nd (.lst _) ds, lo, hi => some (.nd (.lst .own) (cutD ds lo hi))
  | .str z, lo, hi => if z.length ≤ sizeLine then some (.str (cutS z lo hi)) else none
  | .nd .tup ds, lo, hi => if HT.sIx ds.length 0 lo = 0 ∧ HT.sIx ds.length ds.length hi = ds.length then none else some (.nd .tup (cutD ds lo hi))
  | _, _, _ => none
def rSl3 (K : PySem.W.Frag) : V → Option Int → Option Int → Hp → VK → Prop := fun x lo hi H Q => rSlL K x lo hi H Q ∨ rSlS x lo hi H Q ∨ rSlT K x lo hi H Q
theorem sl_3 {X : Cx} : SlR X (rSl3 X.K) := sl_list.or (sl_str.or sl_tup)
section
variable {K : PySem.W.Frag} {cm : Cm}
theorem sub_flat {α : Type} {A B : List (List α)} (h : A.Sublist B) : A.flatten.Sublist B.flatten := by
  induction h with
  | slnil => exact List.Sublist.refl _
  | cons a _ ih => rw [List.flatten_cons]; exact ih.trans (List.sublist_append_right _ _)
  | cons_cons a _ ih => rw [List.flatten_cons, List.flatten_cons]; exact (List.Sublist.refl _).append ih
theorem cut_sub {Fs : List (List Addr)} {a b : Nat} : ((Fs.drop a).take b).flatten.Sublist Fs.flatten := sub_flat ((List.take_sublist _ _).trans (List.drop_sublist _ _))
theorem ok_sl : OkSl K cm (rSl3 K) pSl := by
  intro H Z d v F lo hi e dm rp nd nf q0 Q q
  unfold pSl at q0
  split at q0
  · rename_i f ds
    cases q0
    obtain ⟨a, vs, Fs, rfl, hc, hl, rfl⟩ := rp
    refine .inl ⟨a, vs, rfl, rdL hc.2.1, fun p hp => ?_⟩
    have rl := (hl.drop (HT.sIx ds.length 0 lo)).take (HT.sIx ds.length ds.length hi - HT.sIx ds.length 0 lo)
    have sb := (cut_sub (Fs := Fs) (a := HT.sIx ds.length 0 lo) (b := HT.sIx ds.length ds.length hi - HT.sIx ds.length 0 lo)).trans (List.sublist_append_right (ownA (.lst f) a) _)
    have ev : cutV vs lo hi = (vs.drop (HT.sIx ds.length 0 lo)).take (HT.sIx ds.length ds.length hi - HT.sIx ds.length 0 lo) := by unfold cutV; rw [hl.len.1]
    rw [ev]
    exact q _ _ Z _ (.newL dm rl (nd.sublist sb) (fun x hx => .inr (sb.subset hx)) (fun x hx => nf x (sb.subset hx)) hp)
  · split at q0
    · rename_i hz
      cases q0
      obtain ⟨rfl, rfl⟩ := rp
      exact .inr (.inl ⟨_, rfl, hz, q _ H Z [] (.atom (.refl dm) rep_str)⟩)
    · cases q0
  · split at q0
    · cases q0
    · rename_i ds hz
      cases q0
      obtain ⟨a, vs, Fs, rfl, hc, hl, rfl⟩ := rp
      have rl := (hl.drop (HT.sIx ds.length 0 lo)).take (HT.sIx ds.length ds.length hi - HT.sIx ds.length 0 lo)
      have sb := (cut_sub (Fs := Fs) (a := HT.sIx ds.length 0 lo) (b := HT.sIx ds.length ds.length hi - HT.sIx ds.length 0 lo)).trans (List.sublist_append_right (ownA .tup a) _)
      refine .inr (.inr ⟨a, vs, rfl, hc, by rw [hl.len.1]; exact hz, fun p hp => ?_⟩)
      have ev : cutV vs lo hi = (vs.drop (HT.sIx ds.length 0 lo)).take (HT.sIx ds.length ds.length hi - HT.sIx ds.length 0 lo) := by unfold cutV; rw [hl.len.1]
      rw [ev]
      exact q _ _ Z _ (.newT dm rl (nd.sublist sb) (fun x hx => .inr (sb.subset hx)) (fun x hx => nf x (sb.subset hx)) hp)
  · cases q0
end

/-! ### isinstance -/
def tyN : D → Option String
  | .non => some "NoneType"
  | .bl _ => some "bool"
  | .int _ => some "int"
  | .str _ => some "str"
  | .nd .tup _ => some "tuple"
  | .nd (.lst _) _ => some "list"
  | .nd (.dct _ _) _ => some "dict"
  | .nd (.obj _ _ _) _ => none
  | .nd (.exc _ _ _) _ => none
def objN : D → Option Str
  | .nd (.obj _ c _) _ => some c
  | _ => none
/-- the answer by the kind -/
def isiD (nb : String → Option Bool) (ob : Str → Option Bool) (d : D) : Option Bool := match tyN d with
  | some n => nb n
  | none => (objN d).bind ob
/-- a built-in class's answers -/
def nbTy (T : String) (n : String) : Option Bool := if ["NoneType", "bool", "int", "str", "tuple", "list", "dict"].contains n && ["bool", "int", "str", "tuple", "list", "dict"].contains T then some (n == T || (n == "bool" && T == "int")) else none
theorem nbTy_ok {K : PySem.W.Frag} {T n : String} {b : Bool} (h : nbTy T n = some b) : PySem.W.kitOne K (.type n) (.type T) = some b := by
  unfold nbTy at h
  split at h
  · rename_i hc
    cases h
    rw [Bool.and_eq_true] at hc
    have all : ∀ n ∈ ["NoneType", "bool", "int", "str", "tuple", "list", "dict"], ∀ T ∈ ["bool", "int", "str", "tuple", "list", "dict"], kitB n T = some (n == T || (n == "bool" && T == "int")) := by decide +kernel
    exact kit_ty (all n (by simpa using hc.1) T (by simpa using hc.2))
  · cases h
/-- what has to be known of an own class for isinstance of its instances -/
structure InsK (K : PySem.W.Frag) (C : Addr) : Prop where
  cl : Cls K C
  ha : PySem.W.findIn K (.ref C) "__class__" = some (some (.builtin "object.__class__"))
  hn : PySem.W.specialIn K (.builtin "object.__class__") "__get__" = some (some (.builtin "getset_descriptor.__get__"))
  htk : PySem.W.takesIn K (.builtin "object.__class__") = some true
  hm : PySem.W.mroIn K C (.type "object") = some true
section
variable {K : PySem.W.Frag} {cm : Cm} {H : Hp} {Z : Zn}
theorem isi_ok {nb : String → Option Bool} {ob : Str → Option Bool} {u : Value} (hn : ∀ n b, nb n = some b → PySem.W.kitOne K (.type n) u = some b) (ho : ∀ c b, ob c = some b → PySem.W.kitOne K (.ref (cm c)) u = some b ∧ InsK K (cm c))
    {d : D} {v : V} {F : List Addr} {b : Bool} (h : Rep K cm H Z d v F) (e : isiD nb ob d = some b) : ∃ t, TyX K H v t ∧ PySem.W.kitOne K t u = some b := by
  unfold isiD at e
  cases d with
  | non => obtain ⟨rfl, _⟩ := h; exact ⟨_, .base .non, hn _ _ e⟩
  | bl x => obtain ⟨rfl, _⟩ := h; exact ⟨_, .base (.bl x), hn _ _ e⟩
  | int x => obtain ⟨rfl, _⟩ := h; exact ⟨_, .base (.int x), hn _ _ e⟩
  | str x => obtain ⟨rfl, _⟩ := h; exact ⟨_, .base (.str x), hn _ _ e⟩
  | nd k ds =>
    obtain ⟨a, vs, Fs, rfl, hc, hl, rfl⟩ := h
    cases k with
    | tup =>
      rcases hc with (hc | ⟨o, hc⟩) | ⟨o, its, n, hk, h1, h2, _⟩
      · exact ⟨_, .base (.tup hc), hn _ _ e⟩
      · exact ⟨_, .fTuple hc, hn _ _ e⟩
      · exact ⟨_, .kTuple hk h1, hn _ _ e⟩
    | lst f =>
      rcases hc.2.1 with hc | ⟨o, hc⟩
      · exact ⟨_, .base (.lst hc), hn _ _ e⟩
      · exact ⟨_, .base (.frz hc), hn _ _ e⟩
    | dct f ks =>
      rcases hc.2.1 with hc | ⟨o, hc⟩
      · exact ⟨_, .base (.dK hc), hn _ _ e⟩
      · exact ⟨_, .fDict hc, hn _ _ e⟩
    | exc f c fs => cases e
    | obj f c fs =>
      obtain ⟨⟨dx, h1⟩, _⟩ := hc
      obtain ⟨k1, k2⟩ := ho c b e
      exact ⟨_, .base (.ins h1 k2.cl k2.ha k2.hn k2.htk k2.hm), k1⟩
end
def eIsi (nb : String → Option Bool) (ob : Str → Option Bool) (f : En → Ot D) : En → Ot D := fun ρ => (f ρ).bind fun d => .of ((isiD nb ob d).map .bl)
section
variable {X : Cx} {cm : Cm} {W : WX} {a c : Expr} {f : En → Ot D} {pos p : Pos}
theorem s_isi {nb : String → Option Bool} {ob : Str → Option Bool} {cv : V} {u : Value} (hn : ∀ n b, nb n = some b → PySem.W.kitOne X.K (.type n) u = some b) (ho : ∀ c b, ob c = some b → PySem.W.kitOne X.K (.ref (cm c)) u = some b ∧ InsK X.K (cm c))
    (hcv : ClsV cv u) (hg : Gl X "isinstance") (hm : X.mg "isinstance" = none) (hv : bootBuiltins "isinstance" = some (.builtin "isinstance")) (ha : SE X cm W a f) (hc : PE X c (tC cv))
    (he : starEach [a, c] X.env = (false, eval a X.env) :: starEach [c] X.env := by rfl) (he2 : starEach [c] X.env = (false, eval c X.env) :: starEach [] X.env := by rfl) (hpl : (backTo pos (starEach [c] X.env)).any (·.1) = false := by rfl) :
    SE X cm W (.Call (.Name "isinstance" p) [a, c] [] pos) (eIsi nb ob f) :=
  PE.imp (pe_callB call_isi hg hm hv (pa_cons ha (pa_cons hc pa_nil he2) he) (by decide) (by decide) he hpl) fun σ H Q q0 => by
    obtain ⟨Z, ρ, Fs, ok, q0⟩ := q0
    unfold eIsi at q0
    refine tP_bind ok (fun q => ?_) (fun d q v H1 Z1 F r1 => ?_) (fun x q => ?_)
    · rw [q] at q0; exact q0
    · rw [q, Ot.bind_ok] at q0
      cases q2 : isiD nb ob d with
      | none => rw [q2] at q0; exact q0.elim
      | some b =>
        rw [q2] at q0
        obtain ⟨t, ty, k⟩ := isi_ok hn ho r1.rep q2
        exact ⟨v, cv, t, u, b, rfl, hcv, ty, k, q0 _ H1 Z1 [] (.atom r1.ext rep_bl)⟩
    · rw [q] at q0; exact q0
/-- isinstance(x, T), T a built-in class, x no instance of an own class -/
theorem s_isiT {T : String} (hg : Gl X "isinstance") (hm : X.mg "isinstance" = none) (hv : bootBuiltins "isinstance" = some (.builtin "isinstance")) (ha : SE X cm W a f) (hc : PE X c (tC (.ty T)))
    (he : starEach [a, c] X.env = (false, eval a X.env) :: starEach [c] X.env := by rfl) (he2 : starEach [c] X.env = (false, eval c X.env) :: starEach [] X.env := by rfl) (hpl : (backTo pos (starEach [c] X.env)).any (·.1) = false := by rfl) :
    SE X cm W (.Call (.Name "isinstance" p) [a, c] [] pos) (eIsi (nbTy T) (fun _ => none) f) :=
  s_isi (fun _ _ e => nbTy_ok e) (fun _ _ e => nomatch e) (.ty T) hg hm hv ha hc he he2 hpl
end

/-! ### built-ins -/
def pLen : List D → Option D
  | [.nd (.lst _) ds] => some (.int (ds.length : Int))
  | [.nd .tup ds] => some (.int (ds.length : Int))
  | [.str s] => if s.length ≤ sizeLine then some (.int (s.length : Int)) else none
  | [.nd (.dct _ ks) _] => some (.int (ks.length : Int))
  | _ => none
def rLen2 (K : PySem.W.Frag) : List V → Hp → VK → Prop := fun xs H Q => (∃ x n, xs = [x] ∧ LenV K x H n ∧ Q (.int n) H) ∨ ∃ a kvs, xs = [.ref a] ∧ Rd H a (.dK kvs) ∧ Q (.int kvs.length) H
theorem call_lenR {X : Cx} : CallR X (.builtin "len") (fun xs H Q => ∃ a kvs, xs = [V.ref a] ∧ Rd H a (.dK kvs) ∧ Q (.int kvs.length) H) := by
  intro pins s σ H xs us Q I r h
  obtain ⟨a, kvs, rfl, ha, q⟩ := h
  obtain ⟨u, rfl, ru⟩ := vals1 r
  cases ru
  exact d_len I ha fun t s' I' => ⟨.int kvs.length, H, I', ⟨t, rfl⟩, q⟩
theorem CallR.or2 {X : Cx} {u : Value} {r r' : List V → Hp → VK → Prop} (h : CallR X u r) (h' : CallR X u r') : CallR X u (fun xs H Q => r xs H Q ∨ r' xs H Q) := fun pins s σ H xs us Q I rs q => q.elim (h pins s σ H xs us Q I rs) (h' pins s σ H xs us Q I rs)
theorem call_len2 {X : Cx} : CallR X (.builtin "len") (rLen2 X.K) := CallR.or2 call_len call_lenR
def pAbs : List D → Option D
  | [.int i] => some (.int (if i < 0 then -i else i))
  | _ => none
def pMin : List D → Option D
  | [.int i, .int j] => some (.int (if j < i then j else i))
  | _ => none
def pMax : List D → Option D
  | [.int i, .int j] => some (.int (if j > i then j else i))
  | _ => none
def pAll : List D → Option D
  | [.nd (.lst _) ds] => (blsD ds).map fun bs => .bl (bs.all id)
  | _ => none
def pAny : List D → Option D
  | [.nd (.lst _) ds] => (blsD ds).map fun bs => .bl (bs.any id)
  | _ => none
def pSum : List D → Option D
  | [.nd (.lst _) ds] => (intsD ds).map fun ns => .int ns.sum
  | _ => none
def pInt : List D → Option D
  | [.int i] => some (.int i)
  | [.bl b] => some (.int (if b then 1 else 0))
  | [.str a] => if a.length ≤ 640 then (PySem.intText? a).map .int else none
  | _ => none
def rInt3 : List V → Hp → VK → Prop := fun xs H Q => ((∃ i, xs = [.int i] ∧ Q (.int i) H) ∨ ∃ k, xs = [.bl k] ∧ Q (.int (if k then 1 else 0)) H) ∨ ∃ a n, xs = [.str a] ∧ PySem.intText? a = some n ∧ a.length ≤ 640 ∧ Q (.int n) H
theorem call_int3 {X : Cx} : CallR X (.type "int") rInt3 := CallR.or2 call_int1 call_int_str
def pStr : List D → Option D
  | [.int i] => if i.natAbs.log2 < 1920 then some (.str (toString i)) else none
  | _ => none
def pList : List D → Option D
  | [.nd (.lst _) ds] => some (.nd (.lst .own) ds)
  | [.nd .tup ds] => some (.nd (.lst .own) ds)
  | _ => none
section
variable {K : PySem.W.Frag} {cm : Cm}
theorem ok_len : OkPr K cm (rLen2 K) pLen := by
  intro H Z ds vs Fs d dm rp nd nf e Q q
  have fin : ∀ n : Int, d = .int n → Q (.int n) H := fun n en => by subst en; exact q _ H Z [] (.atom (.refl dm) rep_int)
  unfold pLen at e
  split at e
  · cases e
    obtain ⟨v, F, rfl, rfl, ⟨a, us, Gs, rfl, hc, hl, rfl⟩⟩ := repL1 rp
    exact .inl ⟨_, _, rfl, .inl ⟨us, rdL hc.2.1, rfl⟩, fin _ (by rw [hl.len.1])⟩
  · cases e
    obtain ⟨v, F, rfl, rfl, ⟨a, us, Gs, rfl, hc, hl, rfl⟩⟩ := repL1 rp
    exact .inl ⟨_, _, rfl, .inr ⟨us, hc, rfl⟩, fin _ (by rw [hl.len.1])⟩
  · split at e
    · rename_i hs
      cases e
      obtain ⟨v, F, rfl, rfl, ⟨rfl, rfl⟩⟩ := repL1 rp
      exact .inl ⟨_, _, rfl, ⟨hs, rfl⟩, fin _ rfl⟩
    · cases e
  · cases e
    obtain ⟨v, F, rfl, rfl, ⟨a, us, Gs, rfl, hc, hl, rfl⟩⟩ := repL1 rp
    refine .inr ⟨a, _, rfl, hc.2.1, fin _ ?_⟩
    rw [List.length_zip, ← hc.2.2.1, Nat.min_self]
  · cases e
theorem ok_abs : OkPr K cm (fun xs H Q => ∃ i, xs = [.int i] ∧ Q (.int (if i < 0 then -i else i)) H) pAbs := by
  intro H Z ds vs Fs d dm rp nd nf e Q q
  unfold pAbs at e
  split at e
  · cases e
    obtain ⟨v, F, rfl, rfl, ⟨rfl, rfl⟩⟩ := repL1 rp
    exact ⟨_, rfl, q _ H Z [] (.atom (.refl dm) rep_int)⟩
  · cases e
theorem ok_min : OkPr K cm (fun xs H Q => ∃ i j, xs = [.int i, .int j] ∧ Q (.int (if j < i then j else i)) H) pMin := by
  intro H Z ds vs Fs d dm rp nd nf e Q q
  unfold pMin at e
  split at e
  · cases e
    obtain ⟨v, u, F, G, rfl, rfl, ⟨rfl, rfl⟩, ⟨rfl, rfl⟩⟩ := repL2 rp
    exact ⟨_, _, rfl, q _ H Z [] (.atom (.refl dm) rep_int)⟩
  · cases e
theorem ok_max : OkPr K cm (fun xs H Q => ∃ i j, xs = [.int i, .int j] ∧ Q (.int (if j > i then j else i)) H) pMax := by
  intro H Z ds vs Fs d dm rp nd nf e Q q
  unfold pMax at e
  split at e
  · cases e
    obtain ⟨v, u, F, G, rfl, rfl, ⟨rfl, rfl⟩, ⟨rfl, rfl⟩⟩ := repL2 rp
    exact ⟨_, _, rfl, q _ H Z [] (.atom (.refl dm) rep_int)⟩
  · cases e
theorem ok_all : OkPr K cm (rAll K) pAll := by
  intro H Z ds vs Fs d dm rp nd nf e Q q
  unfold pAll at e
  split at e
  · rename_i f ds'
    cases q1 : blsD ds' with
    | none => rw [q1] at e; cases e
    | some bs =>
      rw [q1] at e
      cases e
      have eb := blsD_eq q1
      subst eb
      obtain ⟨v, F, rfl, rfl, ⟨a, us, Gs, rfl, hc, hl, rfl⟩⟩ := repL1 rp
      have ev := repL_bls hl
      subst ev
      exact ⟨a, bs, rfl, rdL hc.2.1, q _ H Z [] (.atom (.refl dm) rep_bl)⟩
  · cases e
theorem ok_any : OkPr K cm (rAny K) pAny := by
  intro H Z ds vs Fs d dm rp nd nf e Q q
  unfold pAny at e
  split at e
  · rename_i f ds'
    cases q1 : blsD ds' with
    | none => rw [q1] at e; cases e
    | some bs =>
      rw [q1] at e
      cases e
      have eb := blsD_eq q1
      subst eb
      obtain ⟨v, F, rfl, rfl, ⟨a, us, Gs, rfl, hc, hl, rfl⟩⟩ := repL1 rp
      have ev := repL_bls hl
      subst ev
      exact ⟨a, bs, rfl, rdL hc.2.1, q _ H Z [] (.atom (.refl dm) rep_bl)⟩
  · cases e
theorem ok_sum : OkPr K cm (rSum K) pSum := by
  intro H Z ds vs Fs d dm rp nd nf e Q q
  unfold pSum at e
  split at e
  · rename_i f ds'
    cases q1 : intsD ds' with
    | none => rw [q1] at e; cases e
    | some bs =>
      rw [q1] at e
      cases e
      have eb := intsD_eq q1
      subst eb
      obtain ⟨v, F, rfl, rfl, ⟨a, us, Gs, rfl, hc, hl, rfl⟩⟩ := repL1 rp
      have ev := repL_ints hl
      subst ev
      exact ⟨a, bs, rfl, rdL hc.2.1, q _ H Z [] (.atom (.refl dm) rep_int)⟩
  · cases e
theorem ok_int : OkPr K cm rInt3 pInt := by
  intro H Z ds vs Fs d dm rp nd nf e Q q
  unfold pInt at e
  split at e
  · cases e
    obtain ⟨v, F, rfl, rfl, ⟨rfl, rfl⟩⟩ := repL1 rp
    exact .inl (.inl ⟨_, rfl, q _ H Z [] (.atom (.refl dm) rep_int)⟩)
  · cases e
    obtain ⟨v, F, rfl, rfl, ⟨rfl, rfl⟩⟩ := repL1 rp
    exact .inl (.inr ⟨_, rfl, q _ H Z [] (.atom (.refl dm) rep_int)⟩)
  · split at e
    · rename_i a hl
      cases q1 : PySem.intText? a with
      | none => rw [q1] at e; cases e
      | some n =>
        rw [q1] at e
        cases e
        obtain ⟨v, F, rfl, rfl, ⟨rfl, rfl⟩⟩ := repL1 rp
        exact .inr ⟨_, _, rfl, q1, hl, q _ H Z [] (.atom (.refl dm) rep_int)⟩
    · cases e
  · cases e
theorem ok_str : OkPr K cm (fun xs H Q => ∃ i, xs = [.int i] ∧ i.natAbs.log2 < 1920 ∧ Q (.str (toString i)) H) pStr := by
  intro H Z ds vs Fs d dm rp nd nf e Q q
  unfold pStr at e
  split at e
  · split at e
    · rename_i hl
      cases e
      obtain ⟨v, F, rfl, rfl, ⟨rfl, rfl⟩⟩ := repL1 rp
      exact ⟨_, rfl, hl, q _ H Z [] (.atom (.refl dm) rep_str)⟩
    · cases e
  · cases e
theorem ok_list : OkPr K cm (fun xs H Q => ∃ p ys, xs = [.ref p] ∧ (SqL K H p ys ∨ SqT K H p ys) ∧ ∀ l, H l = none → Q (.ref l) (upd H l (.lst ys))) pList := by
  intro H Z ds vs Fs d dm rp nd nf e Q q
  have key : ∀ {a : Addr} {k : Kd} {Gs : List (List Addr)}, Fs = [ownA k a ++ Gs.flatten] → Gs.flatten.Sublist Fs.flatten := fun {a k Gs} e => by
    subst e
    simp only [List.flatten_cons, List.flatten_nil, List.append_nil]
    exact List.sublist_append_right _ _
  unfold pList at e
  split at e
  · cases e
    obtain ⟨v, F, rfl, hF, ⟨a, us, Gs, rfl, hc, hl, rfl⟩⟩ := repL1 rp
    have sb := key hF
    exact ⟨a, us, rfl, .inl (rdL hc.2.1), fun l hl' => q _ _ Z _ (.newL dm hl (nd.sublist sb) (fun x hx => .inr (sb.subset hx)) (fun x hx => nf x (sb.subset hx)) hl')⟩
  · cases e
    obtain ⟨v, F, rfl, hF, ⟨a, us, Gs, rfl, hc, hl, rfl⟩⟩ := repL1 rp
    have sb := key hF
    exact ⟨a, us, rfl, .inr hc, fun l hl' => q _ _ Z _ (.newL dm hl (nd.sublist sb) (fun x hx => .inr (sb.subset hx)) (fun x hx => nf x (sb.subset hx)) hl')⟩
  · cases e
end

/-! ### methods -/
def tyB (T : String) : D → Bool
  | .str _ => T == "str"
  | .nd (.lst _) _ => T == "list"
  | _ => false
def eM (T : String) (p : List D → Option D) (f : En → Ot D) (fs : List (En → Ot D)) : En → Ot D := fun ρ => (f ρ).bind fun x => if tyB T x then (eL fs ρ).bind fun ds => .of (p (x :: ds)) else .no
def rM (r : V → List V → Hp → VK → Prop) : List V → Hp → VK → Prop := fun vs H Q => ∃ x xs, vs = x :: xs ∧ r x xs H Q
theorem tyB_ok {K : PySem.W.Frag} {cm : Cm} {H : Hp} {Z : Zn} {T : String} {d : D} {v : V} {F : List Addr} (h : Rep K cm H Z d v F) (e : tyB T d = true) : tyV K T v H := by
  unfold tyB at e
  split at e
  · obtain ⟨rfl, _⟩ := h
    exact (beq_iff_eq.mp e)
  · obtain ⟨a, vs, Fs, rfl, hc, hl, rfl⟩ := h
    exact .inl ⟨beq_iff_eq.mp e, _, rdL hc.2.1⟩
  · cases e
section
variable {X : Cx} {cm : Cm} {W : WX} {o e : Expr} {es : List Expr} {f : En → Ot D} {fs : List (En → Ot D)} {name : Str} {apos cpos : Pos} {T id : String} {r : V → List V → Hp → VK → Prop} {p : List D → Option D}
theorem m_end {K : PySem.W.Frag} (hp : OkPr K cm (rM r) p) {σ : L2.St} {H : Hp} {Q : VK} (q0 : tP K cm W (eM T p f fs) σ H Q) : tP K cm W f σ H (fun x H1 => tyV K T x H1 ∧ tPL K cm W (eL fs) σ H1 (fun xs H2 => r x xs H2 Q)) := by
  obtain ⟨Z, ρ, Fs, ok, q0⟩ := q0
  unfold eM at q0
  refine tP_bind ok (fun q => ?_) (fun x q v H1 Z1 F r1 => ?_) (fun x q => ?_)
  · rw [q] at q0; exact q0
  · rw [q, Ot.bind_ok] at q0
    split at q0
    · rename_i ty
      refine ⟨tyB_ok r1.rep ty, Z1, ρ, Fs, ok.ext r1.ext, ?_⟩
      cases q2 : eL fs ρ with
      | no => rw [q2] at q0; exact q0
      | ex x => rw [q2] at q0; exact fun cls dd H' Z' ex xr => q0 cls dd H' Z' (r1.ext.trans ex) xr
      | ok ds =>
        rw [q2, Ot.bind_ok] at q0
        intro vs H2 Z2 Gs r2
        cases q3 : p (x :: ds) with
        | none => rw [q3] at q0; exact q0.elim
        | some d =>
          rw [q3] at q0
          have rl := ResL.cons r1 r2
          obtain ⟨_, _, e3, k⟩ := hp H2 Z2 (x :: ds) (v :: vs) _ d (ok.dom.ext rl.ext) rl.rep rl.nd rl.nf q3 Q fun w H' Z' G r4 => q0 w H' Z' G (r4.trans rl.ext fun a ha => .inl (rl.new a ha))
          cases e3
          exact k
    · exact q0.elim
  · rw [q] at q0; exact q0
theorem s_bm (pa : PlainAttrs T) (slot : Slot T name id) (hty : typeOf (.builtin id) = pure (.type "method_descriptor")) (hm : MtR X id r) (hp : OkPr X.K cm (rM r) p) (ho : SE X cm W o f) (ha : SA X cm W (e :: es) (eL fs))
    (hbase : attributeBase o name X.env (eval o X.env) = eval o X.env := by rfl)
    (hfew : ((backTo cpos (starEach (e :: es) X.env)).all (fun x => !x.1) && (backToKw cpos (keywordEach [] X.env)).all (fun x => x.1.isSome)
      && decide ((e :: es).length + ([] : List Keyword).length + (if ([] : List Keyword).isEmpty then 0 else 1) < 30)) = true := by rfl)
    (hline : (apos.endLine == cpos.line) = true := by rfl) (hs : starEach (e :: es) X.env = (false, eval e X.env) :: starEach es X.env := by rfl) (hplain : (backTo cpos (starEach es X.env)).any (·.1) = false := by rfl) :
    SE X cm W (.Call (.Attribute o name apos) (e :: es) [] cpos) (eM T p f fs) := PE.imp (pe_bm pa slot hty hm ho ha hbase hfew hline hs hplain) fun σ H Q q => m_end hp q
end
def pJoin : List D → Option D
  | [.str a, .nd (.lst _) ds] => (strsD ds).bind fun ys => if (ys.map (·.length)).sum + ys.length * a.length ≤ 16777216 then some (.str (Txt.join a ys)) else none
  | _ => none
def pSplit : List D → Option D
  | [.str a, .str b] => if (b.length == 0) = false ∧ a.length + 2 ≤ sizeLine then some (.nd (.lst .own) ((Txt.split a b).map .str)) else none
  | _ => none
def pPart : List D → Option D
  | [.str a, .str b] => if (b.length == 0) = false ∧ a.length ≤ sizeLine then some (.nd .tup [.str (Txt.partition a b).1, .str (Txt.partition a b).2.1, .str (Txt.partition a b).2.2]) else none
  | _ => none
section
variable {K : PySem.W.Frag} {cm : Cm}
theorem ok_join : OkPr K cm (rM (fun x xs H Q => ∃ a p, ∃ ys : List Str, x = .str a ∧ xs = [.ref p] ∧ (SqL K H p (ys.map V.str) ∨ SqT K H p (ys.map V.str)) ∧ (ys.map (·.length)).sum + ys.length * a.length ≤ 16777216 ∧ Q (.str (Txt.join a ys)) H)) pJoin := by
  intro H Z ds vs Fs d dm rp nd nf e Q q
  unfold pJoin at e
  split at e
  · rename_i a f ds'
    cases q1 : strsD ds' with
    | none => rw [q1] at e; cases e
    | some ys =>
      rw [q1] at e
      have e2 : (if (ys.map (·.length)).sum + ys.length * a.length ≤ 16777216 then some (D.str (Txt.join a ys)) else none) = some d := e
      split at e2
      · rename_i hz
        cases e2
        have es := strsD_eq q1
        subst es
        obtain ⟨v, u, F, G, rfl, rfl, ⟨rfl, rfl⟩, ⟨p, us, Gs, rfl, hc, hl, rfl⟩⟩ := repL2 rp
        have ev := repL_strS hl
        subst ev
        exact ⟨_, _, rfl, a, p, ys, rfl, rfl, .inl (rdL hc.2.1), hz, q _ H Z [] (.atom (.refl dm) rep_str)⟩
      · cases e2
  · cases e
theorem ok_split : OkPr K cm (rM (fun x xs H Q => ∃ a b, x = .str a ∧ xs = [.str b] ∧ (b.length == 0) = false ∧ a.length + 2 ≤ sizeLine ∧ rNewStrs (Txt.split a b) H Q)) pSplit := by
  intro H Z ds vs Fs d dm rp nd nf e Q q
  unfold pSplit at e
  split at e
  · rename_i a b
    split at e
    · rename_i hz
      cases e
      obtain ⟨v, u, F, G, rfl, rfl, ⟨rfl, rfl⟩, ⟨rfl, rfl⟩⟩ := repL2 rp
      refine ⟨_, _, rfl, a, b, rfl, rfl, hz.1, hz.2, fun p hp => ?_⟩
      have rl : RepL K cm H Z ((Txt.split a b).map .str) ((Txt.split a b).map V.str) (List.replicate (Txt.split a b).length []) := repL_mk (fun _ => rep_str) _
      exact q _ _ Z _ (.newL dm rl (by rw [flatten_nils]; exact List.nodup_nil) (by rw [flatten_nils]; exact fun _ z => nomatch z) (by rw [flatten_nils]; exact fun _ z => nomatch z) hp)
    · cases e
  · cases e
theorem ok_part : OkPr K cm (rM (fun x xs H Q => ∃ a b, x = .str a ∧ xs = [.str b] ∧ (b.length == 0) = false ∧ a.length ≤ sizeLine ∧ ∀ p, H p = none → Q (.ref p) (upd H p (.tup [.str (Txt.partition a b).1, .str (Txt.partition a b).2.1, .str (Txt.partition a b).2.2])))) pPart := by
  intro H Z ds vs Fs d dm rp nd nf e Q q
  unfold pPart at e
  split at e
  · rename_i a b
    split at e
    · rename_i hz
      cases e
      obtain ⟨v, u, F, G, rfl, rfl, ⟨rfl, rfl⟩, ⟨rfl, rfl⟩⟩ := repL2 rp
      refine ⟨_, _, rfl, a, b, rfl, rfl, hz.1, hz.2, fun p hp => ?_⟩
      have rl : RepL K cm H Z [.str (Txt.partition a b).1, .str (Txt.partition a b).2.1, .str (Txt.partition a b).2.2] [.str (Txt.partition a b).1, .str (Txt.partition a b).2.1, .str (Txt.partition a b).2.2] [[], [], []] := repL_cons rep_str (repL_cons rep_str (repL_cons rep_str repL_nil))
      exact q _ _ Z _ (.newT dm rl (by simp) (by simp) (by simp) hp)
    · cases e
  · cases e
end
end OB

namespace OB
open PySem PySem.Spec PyProof.Rows L2

/-! ### all but some objects are kept -/
def Kept (H : Hp) (O : List Addr) (H' : Hp) : Prop := ∀ a o, H a = some o → a ∉ O → H' a = some o
theorem Kept.refl {H : Hp} {O : List Addr} : Kept H O H := fun _ _ h _ => h
theorem Kept.grow {H H' : Hp} {O : List Addr} (g : Grow H H') : Kept H O H' := fun a o h _ => g a o h
theorem Kept.trans {H H1 H2 : Hp} {O : List Addr} (a : Kept H O H1) (b : Kept H1 O H2) : Kept H O H2 := fun x o h n => b x o (a x o h n) n
section
variable {K : PySem.W.Frag} {cm : Cm} {H H' : Hp} {Z Z' : Zn}
theorem cell_kept {O : List Addr} (k : Kept H O H') (mu : ∀ a ∈ O, Mut (H a)) (nz : ∀ a ∈ O, ¬ Z.f a ∧ ¬ Z.b a ∧ ¬ Z.t a) (f : ∀ a, Z.f a → Z'.f a) (b : ∀ a, Z.b a → Z'.b a) (t : ∀ a, Z.t a → Z'.t a) :
    CellMove K cm H H' Z Z' id (fun a => a ∉ O) := fun a kd vs h ho => by
  have nm : ∀ u, Mut (some u) = False → H a = some u → a ∉ O := fun u e q z => by have := mu a z; rw [q, e] at this; exact this
  have ne : ∀ fl : Fl, (fl = .own → a ∉ O) → Z.ok a fl → a ∉ O := fun fl h1 h2 z => by
    obtain ⟨n1, n2, n3⟩ := nz a z
    cases fl with
    | own => exact h1 rfl z
    | frz => exact n1 h2
    | bor => exact n2 h2
    | tmp => exact n3 h2
  have rd : ∀ u, a ∉ O → Rd H a u → Rd H' a u := fun u n r => by
    rcases r with r | ⟨ob, r⟩
    · exact .inl (k a _ r n)
    · exact .inr ⟨ob, k a _ r n⟩
  cases kd with
  | tup =>
    rcases h with (h | ⟨ob, h⟩) | h
    · exact .inl (.inl (k a _ h (nm _ rfl h)))
    · exact .inl (.inr ⟨ob, k a _ h (nm _ rfl h)⟩)
    · exact .inr h
  | lst fl =>
    have n := ne fl (fun e => ho (by rw [e]; rfl)) h.2.2
    exact ⟨fun e => k a _ (h.1 e) n, rd _ n h.2.1, Zn.ok_mono f b t h.2.2⟩
  | dct fl ks =>
    have n := ne fl (fun e => ho (by rw [e]; rfl)) h.2.2.2
    exact ⟨fun e => k a _ (h.1 e) n, rd _ n h.2.1, h.2.2.1, Zn.ok_mono f b t h.2.2.2⟩
  | obj fl c fs =>
    have n := ne fl (fun e => ho (by rw [e]; rfl)) h.2.2
    obtain ⟨⟨dx, e⟩, l, q⟩ := h
    exact ⟨⟨dx, k a _ e n⟩, l, Zn.ok_mono f b t q⟩
  | exc fl c fs =>
    have n := ne fl (fun e => ho (by rw [e]; rfl)) h.2.2
    obtain ⟨⟨dx, e, q⟩, l, z⟩ := h
    refine ⟨⟨dx, k a _ e n, ?_⟩, l, Zn.ok_mono f b t z⟩
    cases dx with
    | none => exact q
    | some d =>
      refine k d _ q fun hd => ?_
      have q : H d = some (.xd (fs.zip vs)) := q
      have := mu d hd
      rw [q] at this
      exact this
theorem Rep.kept {O : List Addr} {d : D} {v : V} {F : List Addr} (h : Rep K cm H Z d v F) (k : Kept H O H') (mu : ∀ a ∈ O, Mut (H a)) (nz : ∀ a ∈ O, ¬ Z.f a ∧ ¬ Z.b a ∧ ¬ Z.t a) (f : ∀ a, Z.f a → Z'.f a) (b : ∀ a, Z.b a → Z'.b a) (t : ∀ a, Z.t a → Z'.t a)
    (nF : ∀ a ∈ F, a ∉ O) : Rep K cm H' Z' d v F := h.stay (cell_kept k mu nz f b t) nF
/-- to lend -/
theorem cell_dom {a : Addr} {k : Kd} {vs : List V} (h : Cell K cm H Z a k vs) (n : k ≠ .tup) : H a ≠ none := by
  cases k with
  | tup => exact absurd rfl n
  | lst f =>
    rcases h.2.1 with h | ⟨o, h⟩
    · exact fun z => by rw [z] at h; cases h
    · exact fun z => by rw [z] at h; cases h
  | dct f ks =>
    rcases h.2.1 with h | ⟨o, h⟩
    · exact fun z => by rw [z] at h; cases h
    · exact fun z => by rw [z] at h; cases h
  | obj f c fs =>
    obtain ⟨⟨dx, e⟩, _⟩ := h
    exact fun z => by rw [z] at e; cases e
  | exc f c fs =>
    obtain ⟨⟨dx, e, _⟩, _⟩ := h
    exact fun z => by rw [z] at e; cases e
end
/-- handed over: a new thing is frozen, what is lent is borrowed -/
def Fl.toArg : Fl → Fl
  | .own => .frz
  | .frz => .frz
  | .bor => .bor
  | .tmp => .bor
def toArg (d : D) : D := mapF Fl.toArg d
def lentZ (H : Hp) (f : Addr → Prop) : Zn := ⟨f, fun a => H a ≠ none, fun _ => False⟩
theorem dom_lent {H : Hp} {f : Addr → Prop} (hf : ∀ a, f a → H a ≠ none) : Dom H (lentZ H f) := ⟨hf, fun _ h => h, fun _ h => h.elim⟩
section
variable {K : PySem.W.Frag} {cm : Cm} {H H' : Hp} {Z Z' : Zn}
theorem cell_arg {f : Addr → Prop} {O : Addr → Prop} (hO : ∀ a, O a → f a) (hf : ∀ a, Z.f a → f a) : CellMove K cm H H Z (lentZ H f) Fl.toArg O := fun a k vs h o => by
  have key : ∀ fl : Fl, k.fl = some fl → Z.ok a fl → (lentZ H f).ok a fl.toArg := fun fl e z => by
    have nt : k ≠ .tup := fun q => by rw [q] at e; cases e
    cases fl with
    | own => exact hO a (o (by unfold Kd.isOwn; rw [e]; rfl))
    | frz => exact hf a z
    | bor => exact cell_dom h nt
    | tmp => exact cell_dom h nt
  cases k with
  | tup => exact h
  | lst fl => exact ⟨(fun e => by cases fl <;> cases e), h.2.1, key fl rfl h.2.2⟩
  | dct fl ks => exact ⟨(fun e => by cases fl <;> cases e), h.2.1, h.2.2.1, key fl rfl h.2.2.2⟩
  | obj fl c fs => exact ⟨h.1, h.2.1, key fl rfl h.2.2⟩
  | exc fl c fs => exact ⟨h.1, h.2.1, key fl rfl h.2.2⟩
theorem RepL.arg {f : Addr → Prop} {ds : List D} {vs : List V} {Fs : List (List Addr)} (h : RepL K cm H Z ds vs Fs) (hO : ∀ a ∈ Fs.flatten, f a) (hf : ∀ a, Z.f a → f a) : ∃ Gs, Gs.flatten = [] ∧ RepL K cm H (lentZ H f) (ds.map toArg) vs Gs := by
  obtain ⟨Gs, a, b⟩ := RepL.give (g := Fl.toArg) (O := fun a => a ∈ Fs.flatten) (Z' := lentZ H f) (cell_arg hO hf) (fun f e => by cases f <;> cases e) ds h fun _ h => h
  rw [mapFL_eq] at b
  exact ⟨Gs, a, b⟩
end

/-! ### the promise of a def that changes nothing -/
def spP (K : PySem.W.Frag) (cm : Cm) (n : Nat) (m : List D → Ot D) : Sp := fun vs H Q E => ∃ f ds Gs, (∀ a, f a → H a ≠ none) ∧ ds.length = n ∧ Gs.flatten = [] ∧ RepL K cm H (lentZ H f) ds vs Gs ∧ FinD K cm (fun cls dd _ H' => E cls dd H') [] H (lentZ H f) Q (m ds)
theorem spP_len {K : PySem.W.Frag} {cm : Cm} {n : Nat} {m : List D → Ot D} {vs : List V} {H : Hp} {Q : VK} {E : XK} (h : spP K cm n m vs H Q E) : vs.length = n := by
  obtain ⟨f, ds, Gs, _, e, _, r, _⟩ := h
  rw [r.len.1, e]
/-- what comes back must be new or frozen -/
def back : Ot D → Ot D
  | .no => .no
  | .ok r => if noB r then .ok r else .no
  | .ex x => .ex x
/-- a call's value -/
def eCall (m : List D → Ot D) (dd : List D) (fs : List (En → Ot D)) : En → Ot D := fun ρ => (eL fs ρ).bind fun ds => back (m (ds.map toArg ++ dd))
section
variable {X : Cx} {cm : Cm} {W : WX}
/-- the call itself, behind its arguments -/
theorem call_end {K : PySem.W.Frag} {m : List D → Ot D} {n : Nat} {dd : List D} {fs : List (En → Ot D)} {dvs : List V} (hdd : dd.all isAt = true) (hdv : dvs = dd.map toV) (hlen : fs.length + dd.length = n) {σ : L2.St} {H : Hp} {Q : VK} (q0 : tP K cm W (eCall m dd fs) σ H Q) :
    tPL K cm W (eL fs) σ H (fun vs H1 => spP K cm n m (vs ++ dvs) H1 Q (fun cls d H' => W cls d σ H')) := by
  obtain ⟨Z, ρ, Fs, ok, q0⟩ := q0
  refine ⟨Z, ρ, Fs, ok, ?_⟩
  unfold eCall at q0
  cases q : eL fs ρ with
  | no => rw [q] at q0; exact q0
  | ex x => rw [q] at q0; exact q0
  | ok ds =>
    rw [q, Ot.bind_ok] at q0
    intro vs H1 Z1 Gs r1
    have dm1 := ok.dom.ext r1.ext
    obtain ⟨Ms, e1, e2⟩ := r1.rep.arg (f := fun a => Z1.f a ∨ a ∈ Gs.flatten) (fun a h => .inr h) (fun a h => .inl h)
    have rdd : ∀ (l : List D), l.all isAt = true → ∀ (Z2 : Zn), RepL K cm H1 Z2 l (l.map toV) (l.map fun _ => []) := by
      intro l
      induction l with
      | nil => exact fun _ _ => repL_nil
      | cons d l ih =>
        intro hl Z2
        rw [List.all_cons, Bool.and_eq_true] at hl
        refine repL_cons ?_ (ih hl.2 Z2)
        cases d with
        | nd k ds => cases hl.1
        | non => exact ⟨rfl, rfl⟩
        | bl b => exact ⟨rfl, rfl⟩
        | int i => exact ⟨rfl, rfl⟩
        | str s => exact ⟨rfl, rfl⟩
    have fl0 : ∀ l : List D, (l.map fun _ => ([] : List Addr)).flatten = [] := fun l => by induction l with
      | nil => rfl
      | cons d l ih => rw [List.map_cons, List.flatten_cons, ih]; rfl
    have hm := RepL.mut ds r1.rep
    have len : ds.length = fs.length := by
      have : ∀ (fs : List (En → Ot D)) (ds : List D), eL fs ρ = .ok ds → ds.length = fs.length := by
        intro fs
        induction fs with
        | nil => intro ds h; cases h; rfl
        | cons f fs ih =>
          intro ds h
          unfold eL at h
          cases q1 : f ρ with
          | no => rw [q1] at h; cases h
          | ex x => rw [q1] at h; cases h
          | ok d =>
            rw [q1, Ot.bind_ok] at h
            cases q2 : eL fs ρ with
            | no => rw [q2] at h; cases h
            | ex x => rw [q2] at h; cases h
            | ok es => rw [q2, Ot.bind_ok] at h; cases h; simp [ih es q2]
      exact this fs ds q
    refine ⟨fun a => Z1.f a ∨ a ∈ Gs.flatten, ds.map toArg ++ dd, Ms ++ (dd.map fun _ => []), fun a h => h.elim (dm1.f a) fun z => mut_ne (hm a z), by simp [len, hlen], by rw [List.flatten_append, e1, fl0]; rfl, ?_, ?_⟩
    · rw [hdv]; exact e2.app (rdd dd hdd _)
    · have extB : ∀ {H2 : Hp} {Z2 : Zn}, Ext H1 (lentZ H1 fun a => Z1.f a ∨ a ∈ Gs.flatten) H2 Z2 → Ext H Z H2 ⟨Z2.f, Z.b, Z.t⟩ := fun {H2 Z2} e =>
        ⟨r1.ext.gr.trans e.gr, fun a h => e.f a (.inl (r1.ext.f a h)), fun a h => (e.fn a h).elim (fun q => q.elim (r1.ext.fn a) fun z => .inr (r1.new a z)) fun q => .inr (r1.ext.gr.back q), e.fd, rfl, rfl⟩
      cases q2 : m (ds.map toArg ++ dd) with
      | no => rw [q2] at q0; exact q0
      | ok r =>
        rw [q2] at q0
        have q0 : FinD K cm W σ H Z Q (if noB r then .ok r else .no) := q0
        split at q0
        · rename_i nb
          intro v H2 Z2 F r2
          exact q0 v H2 ⟨Z2.f, Z.b, Z.t⟩ F ⟨extB r2.ext, noB_only r2.rep nb fun _ h => h, r2.nd, fun a h => .inl (r1.ext.gr.back (r2.new a h)), r2.nf⟩
        · exact q0.elim
      | ex x =>
        rw [q2] at q0
        have q0 : FinD K cm W σ H Z Q (.ex x) := q0
        intro cls d H2 Z2 e xr
        exact q0 cls d H2 ⟨Z2.f, Z.b, Z.t⟩ (extB e) (xr.back fun _ h => h)
variable {k : Nat} {f : Addr} {fd : FuncData} {ps : List Str} {n : Nat} {m : List D → Ot D} {dd : List D} {dvs : List V} {ds : List Value} {x : Str} {p pos : Pos} {e : Expr} {es : List Expr} {fs : List (En → Ot D)}
theorem s_call (tk : Takes X W) (F : FnOk X.prog X.w X.K X.mg X.base (L2.CX X.prog X.w) k f fd ps (spP X.K cm n m)) (hr : Room k X.A) (hg : Gl X x) (hm : X.mg x = some (.ref f)) (hk : PySem.W.keepIn X.K (.ref f) = true) (hb : Binds X.K fd ps ds) (hd : Vals dvs ds)
    (hdd : dd.all isAt = true) (hdv : dvs = dd.map toV) (hlen : fs.length + dd.length = n) (ha : SA X cm W (e :: es) (eL fs))
    (hdb : (x == ("__debug__" : Str)) = false := by decide) (he : starEach (e :: es) X.env = (false, eval e X.env) :: starEach es X.env := by rfl) (hpl : (backTo pos (starEach es X.env)).any (·.1) = false := by rfl) :
    SE X cm W (.Call (.Name x p) (e :: es) [] pos) (eCall m dd fs) :=
  PE.imp (pe_callSD (E := fun σ cls d H => W cls d σ H) F hr hg hm hk hb hd (fun σ => passAt tk σ) ha hdb he hpl) fun σ H Q q0 => call_end hdd hdv hlen q0
/-- without arguments: no exception is let out -/
def noX : Ot D → Ot D
  | .ok d => .ok d
  | _ => .no
theorem s_call0 (F : FnOk X.prog X.w X.K X.mg X.base (L2.CX X.prog X.w) k f fd ps (spP X.K cm n m)) (hr : Room k X.A) (hg : Gl X x) (hm : X.mg x = some (.ref f)) (hk : PySem.W.keepIn X.K (.ref f) = true) (hb : Binds X.K fd ps ds) (hd : Vals dvs ds)
    (hdd : dd.all isAt = true) (hdv : dvs = dd.map toV) (hlen : dd.length = n) (hdb : (x == ("__debug__" : Str)) = false := by decide) :
    SE X cm W (.Call (.Name x p) [] [] pos) (fun ρ => noX (eCall m dd [] ρ)) :=
  PE.imp (pe_call0 (E := E0) F hr hg hm hk hb hd passL hdb) fun σ H Q q0 => by
    have q1 : tP X.K cm (fun _ _ _ _ => False) (eCall m dd []) σ H Q := by
      obtain ⟨Z, ρ, Fs, ok, q0⟩ := q0
      refine ⟨Z, ρ, Fs, ok, ?_⟩
      have q0 : FinD X.K cm W σ H Z Q (noX (eCall m dd [] ρ)) := q0
      cases q : eCall m dd [] ρ with
      | no => rw [q] at q0; exact q0.elim
      | ok d => rw [q] at q0; exact q0
      | ex x => rw [q] at q0; exact q0.elim
    have q2 := call_end (n := n) hdd hdv (by simpa using hlen) q1
    obtain ⟨Z, ρ, Fs, ok, q3⟩ := q2
    exact q3 [] H Z [] (.nil ok.dom)
end
end OB

namespace OB
open PySem PySem.Spec PyProof.Rows L2

def Fl.toFrz : Fl → Fl
  | .own => .frz
  | f => f
def toFrz (d : D) : D := mapF Fl.toFrz d
def noT (d : D) : Bool := allF (fun f => f != .tmp) d
def Safe (H : Hp) (O : List Addr) (Z : Zn) : Prop := ∀ a ∈ O, Mut (H a) ∧ ¬ Z.f a ∧ ¬ Z.b a ∧ ¬ Z.t a
structure Walks (K : PySem.W.Frag) (cm : Cm) (J : It) (H : Hp) (O : List Addr) (Z : Zn) (ds : List D) : Prop where
  go : ∀ i H2, Kept H O H2 → i < ds.length → J.go i H2
  stop : ∀ i H2, Kept H O H2 → ds.length ≤ i → J.stop i H2
  yld : ∀ i H2 x H3, Kept H O H2 → J.yld i H2 x H3 → ∀ d, ds[i]? = some d → Grow H2 H3 ∧ Rep K cm H3 Z d x []
/-- the items, and whether none of them is lent -/
abbrev Its' := List D × Bool
def FinI (K : PySem.W.Frag) (cm : Cm) (W : WX) (σ : L2.St) (H : Hp) (Z : Zn) (R : It → Hp → Prop) : Ot Its' → Prop
  | .no => False
  | .ok p => ∀ J H' Z', Ext H Z H' Z' → (∀ O t', (p.2 = true ∨ t' = Z'.t) → Safe H' O ⟨Z'.f, Z'.b, t'⟩ → Walks K cm J H' O ⟨Z'.f, Z'.b, t'⟩ p.1) → R J H'
  | .ex x => ∀ cls dd H' Z', Ext H Z H' Z' → XRep K cm H' Z' x cls dd → W cls dd σ H'
def tPI (K : PySem.W.Frag) (cm : Cm) (W : WX) (g : En → Ot Its') : TI := fun σ H R => ∃ Z ρ Fs, OkP K cm H σ ρ Fs Z ∧ FinI K cm W σ H Z R (g ρ)
abbrev SI (X : Cx) (cm : Cm) (W : WX) (tg e : Expr) (g : En → Ot Its') : Prop := PI X tg e (tPI X.K cm W g)
theorem PI.imp {X : Cx} {tg e : Expr} {t t' : TI} (h : PI X tg e t) (i : ∀ σ H R, t' σ H R → t σ H R) : PI X tg e t' := ⟨fun pins s σ H R I q => h.run pins s σ H R I (i σ H R q)⟩
theorem PI.or {X : Cx} {tg e : Expr} {t t' : TI} (h : PI X tg e t) (h' : PI X tg e t') : PI X tg e (fun σ H R => t σ H R ∨ t' σ H R) := ⟨fun pins s σ H R I q => q.elim (h.run pins s σ H R I) (h'.run pins s σ H R I)⟩
def itemsD : D → Option Its'
  | .nd (.lst f) ds => some (ds.map toFrz, f != .tmp && ds.all noT)
  | .nd .tup ds => some (ds.map toFrz, ds.all noT)
  | .str s => some (s.cps.toList.map fun c => .str ⟨#[c]⟩, true)
  | _ => none
def itV (f : En → Ot D) : En → Ot Its' := fun ρ => (f ρ).bind fun d => .of (itemsD d)
section
variable {K : PySem.W.Frag} {cm : Cm} {H : Hp} {O : List Addr} {Z : Zn}
theorem Safe.kept {H' : Hp} (s : Safe H O Z) (k : Kept H O H') {d : D} {v : V} (r : Rep K cm H Z d v []) : Rep K cm H' Z d v [] :=
  r.kept k (fun a h => (s a h).1) (fun a h => (s a h).2) (fun _ h => h) (fun _ h => h) (fun _ h => h) (fun _ h => nomatch h)
theorem Kept.rd {H' : Hp} {a : Addr} {u : HO} (k : Kept H O H') (n : a ∉ O) (h : Rd H a u) : Rd H' a u := by
  rcases h with h | ⟨o, h⟩
  · exact .inl (k _ _ h n)
  · exact .inr ⟨o, k _ _ h n⟩
theorem walk_list {a : Addr} {vs : List V} {ds : List D} {Gs : List (List Addr)} (h : Rd H a (.lst vs)) (n : a ∉ O) (s : Safe H O Z) (r : RepL K cm H Z ds vs Gs) (e : Gs.flatten = []) : Walks K cm (Itl K a) H O Z ds := by
  have len := r.len.1
  refine ⟨fun i H2 k l => ⟨vs, vs[i]'(by omega), rdL (k.rd n h), by simp⟩, fun i H2 k l => ⟨vs, rdL (k.rd n h), by omega⟩, fun i H2 x H3 k y d hd => ?_⟩
  obtain ⟨rfl, y⟩ := y
  obtain ⟨v, F, e1, e2, e3⟩ := r.get hd
  have e4 := y vs (rdL (k.rd n h))
  rw [e1] at e4
  cases e4
  have eF : F = [] := List.eq_nil_iff_forall_not_mem.mpr fun z hz => by
    have := flat_mem e2 hz
    rw [e] at this; cases this
  subst eF
  exact ⟨.refl _, s.kept k e3⟩
theorem walk_tup {a : Addr} {vs : List V} {ds : List D} {Gs : List (List Addr)} (h : SqT K H a vs) (s : Safe H O Z) (r : RepL K cm H Z ds vs Gs) (e : Gs.flatten = []) : Walks K cm (Itt K a) H O Z ds := by
  have len := r.len.1
  have ht : ∀ H2, Kept H O H2 → SqT K H2 a vs := fun H2 k => by
    have nm : ∀ u, Mut (some u) = False → H a = some u → a ∉ O := fun u e q z => by have := (s a z).1; rw [q, e] at this; exact this
    rcases h with (h | ⟨ob, h⟩) | h
    · exact .inl (.inl (k a _ h (nm _ rfl h)))
    · exact .inl (.inr ⟨ob, k a _ h (nm _ rfl h)⟩)
    · exact .inr h
  refine ⟨fun i H2 k l => ⟨vs, vs[i]'(by omega), ht H2 k, by simp⟩, fun i H2 k l => ⟨vs, ht H2 k, by omega⟩, fun i H2 x H3 k y d hd => ?_⟩
  obtain ⟨rfl, y⟩ := y
  obtain ⟨v, F, e1, e2, e3⟩ := r.get hd
  have e4 := y vs (ht H3 k)
  rw [e1] at e4
  cases e4
  have eF : F = [] := List.eq_nil_iff_forall_not_mem.mpr fun z hz => by
    have := flat_mem e2 hz
    rw [e] at this; cases this
  subst eF
  exact ⟨.refl _, s.kept k e3⟩
theorem walk_str {x : Str} : Walks K cm (Its x) H O Z (x.cps.toList.map fun c => .str ⟨#[c]⟩) := by
  refine ⟨fun i H2 k l => (show i < x.cps.size by simpa using l), fun i H2 k l => (show x.cps.size ≤ i by simpa using l), fun i H2 v H3 k y d hd => ?_⟩
  obtain ⟨rfl, c, e, rfl⟩ := y
  have e2 : x.cps.toList[i]? = some c := by simpa using e
  rw [List.getElem?_map, e2] at hd
  cases hd
  exact ⟨.refl _, rep_str⟩
theorem walk_rng {lo : Int} {n : Nat} : Walks K cm (Itr lo n) H O Z ((List.range n).map fun i : Nat => .int (lo + (i : Int))) := by
  refine ⟨fun i H2 k l => (show i < n by simpa using l), fun i H2 k l => (show n ≤ i by simpa using l), fun i H2 v H3 k y d hd => ?_⟩
  obtain ⟨rfl, rfl⟩ := y
  rw [List.getElem?_map] at hd
  by_cases hi : i < n
  · rw [List.getElem?_range hi] at hd
    cases hd
    exact ⟨.refl _, rep_int⟩
  · rw [List.getElem?_eq_none (by simpa using hi)] at hd
    cases hd
theorem walk_rngC {lo c : Int} {n : Nat} : Walks K cm (Itc lo c n) H O Z ((List.range n).map fun i : Nat => .int (lo + (i : Int) * c)) := by
  refine ⟨fun i H2 k l => (show i < n by simpa using l), fun i H2 k l => (show n ≤ i by simpa using l), fun i H2 v H3 k y d hd => ?_⟩
  obtain ⟨rfl, rfl⟩ := y
  rw [List.getElem?_map] at hd
  by_cases hi : i < n
  · rw [List.getElem?_range hi] at hd
    cases hd
    exact ⟨.refl _, rep_int⟩
  · rw [List.getElem?_eq_none (by simpa using hi)] at hd
    cases hd
/-- enumerate -/
def enumD (ds : List D) : List D := (List.range ds.length).zipWith (fun (i : Nat) d => .nd .tup [.int (i : Int), d]) ds
theorem enumD_get {ds : List D} {i : Nat} {e : D} (h : (enumD ds)[i]? = some e) : ∃ d, ds[i]? = some d ∧ e = .nd .tup [.int (i : Int), d] := by
  unfold enumD at h
  rw [List.getElem?_zipWith] at h
  cases q : ds[i]? with
  | none => rw [q] at h; cases q2 : (List.range ds.length)[i]? <;> rw [q2] at h <;> cases h
  | some d =>
    have hi : i < ds.length := (List.getElem?_eq_some_iff.mp q).1
    rw [q, List.getElem?_range hi] at h
    cases h
    exact ⟨d, rfl, rfl⟩
theorem walk_enum {a : Addr} {vs : List V} {ds : List D} {Gs : List (List Addr)} (h : Rd H a (.lst vs)) (n : a ∉ O) (s : Safe H O Z) (r : RepL K cm H Z ds vs Gs) (e : Gs.flatten = []) : Walks K cm (Ite K a) H O Z (enumD ds) := by
  have len := r.len.1
  have len2 : (enumD ds).length = ds.length := by unfold enumD; simp
  refine ⟨fun i H2 k l => ⟨vs, vs[i]'(by omega), rdL (k.rd n h), by simp⟩, fun i H2 k l => ⟨vs, rdL (k.rd n h), by omega⟩, fun i H2 x H3 k y d hd => ?_⟩
  obtain ⟨T, x, rfl, hT, rfl, y⟩ := y
  obtain ⟨d0, hd0, rfl⟩ := enumD_get hd
  obtain ⟨v, F, e1, e2, e3⟩ := r.get hd0
  have e4 := y vs (rdL (k.rd n h))
  rw [e1] at e4
  cases e4
  have eF : F = [] := List.eq_nil_iff_forall_not_mem.mpr fun z hz => by
    have := flat_mem e2 hz
    rw [e] at this; cases this
  subst eF
  have g : Grow H2 (upd H2 T (.tup [.int (i : Nat), x])) := .new hT
  refine ⟨g, ⟨T, _, [[], []], rfl, SqT.of upd_same, repL_cons rep_int (repL_cons ?_ repL_nil), rfl⟩⟩
  exact (s.kept k e3).grow g (fun _ h => h) (fun _ h => h) (fun _ h => h)
/-- zip -/
def zipD (ds es : List D) : List D := ds.zipWith (fun a b => .nd .tup [a, b]) es
theorem zipD_get {ds es : List D} {i : Nat} {e : D} (h : (zipD ds es)[i]? = some e) : ∃ d d', ds[i]? = some d ∧ es[i]? = some d' ∧ e = .nd .tup [d, d'] := by
  unfold zipD at h
  rw [List.getElem?_zipWith] at h
  cases q : ds[i]? with
  | none => rw [q] at h; cases q2 : es[i]? <;> rw [q2] at h <;> cases h
  | some d =>
    cases q2 : es[i]? with
    | none => rw [q, q2] at h; cases h
    | some d' => rw [q, q2] at h; cases h; exact ⟨d, d', rfl, rfl, rfl⟩
theorem walk_zip {a b : Addr} {vs us : List V} {ds es : List D} {Gs Ms : List (List Addr)} (h : Rd H a (.lst vs)) (h' : Rd H b (.lst us)) (n : a ∉ O) (n' : b ∉ O) (s : Safe H O Z) (r : RepL K cm H Z ds vs Gs) (r' : RepL K cm H Z es us Ms) (e : Gs.flatten = []) (e' : Ms.flatten = []) :
    Walks K cm (Itz K a b) H O Z (zipD ds es) := by
  have len := r.len.1
  have len' := r'.len.1
  have len2 : (zipD ds es).length = min ds.length es.length := by unfold zipD; simp
  have nilOf : ∀ {Gs : List (List Addr)} {F : List Addr} {i : Nat}, Gs.flatten = [] → Gs[i]? = some F → F = [] := fun {Gs F i} e e2 => List.eq_nil_iff_forall_not_mem.mpr fun z hz => by
    have := flat_mem e2 hz
    rw [e] at this; cases this
  refine ⟨fun i H2 k l => ⟨vs, us, vs[i]'(by omega), us[i]'(by omega), rdL (k.rd n h), rdL (k.rd n' h'), by simp, by simp⟩, fun i H2 k l => ⟨vs, us, rdL (k.rd n h), rdL (k.rd n' h'), by omega⟩, fun i H2 x H3 k y d hd => ?_⟩
  obtain ⟨T, x, x', rfl, hT, rfl, y, y'⟩ := y
  obtain ⟨d0, d1, hd0, hd1, rfl⟩ := zipD_get hd
  obtain ⟨v, F, e1, e2, e3⟩ := r.get hd0
  obtain ⟨v', F', e1', e2', e3'⟩ := r'.get hd1
  have e4 := y vs (rdL (k.rd n h))
  have e4' := y' us (rdL (k.rd n' h'))
  rw [e1] at e4
  rw [e1'] at e4'
  cases e4
  cases e4'
  have eF := nilOf e e2
  have eF' := nilOf e' e2'
  subst eF eF'
  have g : Grow H2 (upd H2 T (.tup [x, x'])) := .new hT
  refine ⟨g, ⟨T, _, [[], []], rfl, SqT.of upd_same, repL_cons ?_ (repL_cons ?_ repL_nil), rfl⟩⟩
  · exact (s.kept k e3).grow g (fun _ h => h) (fun _ h => h) (fun _ h => h)
  · exact (s.kept k e3').grow g (fun _ h => h) (fun _ h => h) (fun _ h => h)
/-- reversed -/
theorem walk_rev {a : Addr} {vs : List V} {ds : List D} {Gs : List (List Addr)} (h : Rd H a (.lst vs)) (n : a ∉ O) (s : Safe H O Z) (r : RepL K cm H Z ds vs Gs) (e : Gs.flatten = []) : Walks K cm (Itv K a vs.length) H O Z ds.reverse := by
  have len := r.len.1
  refine ⟨fun i H2 k l => ⟨by simpa [len] using l, vs, vs[vs.length - 1 - i]'(by simp at l; omega), rdL (k.rd n h), by simp⟩, fun i H2 k l => (show vs.length ≤ i by simpa [len] using l), fun i H2 x H3 k y d hd => ?_⟩
  obtain ⟨rfl, y⟩ := y
  have hi : i < ds.length := by
    have := (List.getElem?_eq_some_iff.mp hd).1
    simpa using this
  rw [List.getElem?_reverse hi] at hd
  obtain ⟨v, F, e1, e2, e3⟩ := r.get hd
  have e4 := y vs (rdL (k.rd n h))
  rw [len] at e4
  rw [e1] at e4
  cases e4
  have eF : F = [] := List.eq_nil_iff_forall_not_mem.mpr fun z hz => by
    have := flat_mem e2 hz
    rw [e] at this; cases this
  subst eF
  exact ⟨.refl _, s.kept k e3⟩
end
/-! ### a sequence's value, ready to be walked: what is new in it is frozen -/
def noTK : Kd → Bool
  | .lst f => f != .tmp
  | .dct f _ => f != .tmp
  | .obj f _ _ => f != .tmp
  | .exc f _ _ => f != .tmp
  | .tup => true
section
variable {K : PySem.W.Frag} {cm : Cm} {H H1 : Hp} {Z Z1 : Zn}
/-- the frozen view -/
def frzZ (Z1 : Zn) (F : List Addr) : Zn := ⟨fun a => Z1.f a ∨ a ∈ F, Z1.b, Z1.t⟩
theorem Res.frzExt {d : D} {v : V} {F : List Addr} (r : Res K cm H Z H1 Z1 [] d v F) : Ext H Z H1 (frzZ Z1 F) := by
  have hm := Rep.mut d r.rep
  exact ⟨r.ext.gr, fun a h => .inl (r.ext.f a h), fun a h => h.elim (r.ext.fn a) fun q => .inr (r.new a q), fun a h => h.elim (r.ext.fd a) fun q => mut_ne (hm a q), r.ext.b, r.ext.t⟩
theorem RepL.frz {F : List Addr} {ds : List D} {vs : List V} {Fs : List (List Addr)} (r : RepL K cm H Z1 ds vs Fs) (hF : ∀ a ∈ Fs.flatten, a ∈ F) : ∃ Gs, Gs.flatten = [] ∧ RepL K cm H (frzZ Z1 F) (ds.map toFrz) vs Gs := by
  obtain ⟨Gs, a, b⟩ := RepL.give (g := Fl.toFrz) (O := fun a => a ∈ F) (Z' := frzZ Z1 F) (cell_flag (fun a ha f ef _ => by subst ef; exact .inr ha) (fun a f hf hz => by cases f with
      | own => exact absurd rfl hf
      | frz => exact .inl hz
      | _ => exact hz) (fun f e => by cases f <;> first | rfl | cases e)) (fun f e => by cases f <;> cases e) ds r fun a h => hF a h
  rw [mapFL_eq] at b
  exact ⟨Gs, a, b⟩
theorem noT_frz : ∀ {ds : List D}, ds.all noT = true → allFL (fun f => f != .tmp) (ds.map toFrz) = true
  | [], _ => rfl
  | d :: ds, h => by
    rw [List.all_cons, Bool.and_eq_true] at h
    rw [List.map_cons, allFL, noT_frz h.2, Bool.and_true]
    exact allF_mapF (p := fun f => f != .tmp) (fun f hf => by cases f <;> first | rfl | exact hf) d h.1

end
/-! ### the rules for what is walked -/
theorem allF_or {p : Fl → Bool} {Z Z' : Zn} (h : ∀ a f, p f = true → Z.ok a f → Z'.ok a f) : True := trivial
section
variable {X : Cx} {cm : Cm} {W : WX} {tg e e2 : Expr} {f g : En → Ot D} {p pos : Pos}
/-- a list's value, about to be walked -/
theorem seq_ready {K : PySem.W.Frag} {H H1 : Hp} {Z Z1 : Zn} {v : V} {F : List Addr} {fl : Fl} {ds : List D} (r : Res K cm H Z H1 Z1 [] (.nd (.lst fl) ds) v F) : ∃ a vs Gs, v = .ref a ∧ Rd H1 a (.lst vs) ∧ Gs.flatten = [] ∧ RepL K cm H1 (frzZ Z1 F) (ds.map toFrz) vs Gs ∧
    Ext H Z H1 (frzZ Z1 F) ∧ ∀ O t', (fl != .tmp && ds.all noT) = true ∨ t' = (frzZ Z1 F).t → Safe H1 O ⟨(frzZ Z1 F).f, (frzZ Z1 F).b, t'⟩ → a ∉ O ∧ RepL K cm H1 ⟨(frzZ Z1 F).f, (frzZ Z1 F).b, t'⟩ (ds.map toFrz) vs Gs := by
  have ext := r.frzExt
  obtain ⟨a, vs, Fs, rfl, hc, hl, rfl⟩ := r.rep
  obtain ⟨Gs, e1, e2⟩ := hl.frz (F := ownA (.lst fl) a ++ Fs.flatten) fun x hx => List.mem_append_right _ hx
  refine ⟨a, vs, Gs, rfl, hc.2.1, e1, e2, ext, fun O t' ht s => ⟨fun ha => ?_, ?_⟩⟩
  · obtain ⟨_, n1, n2, n3⟩ := s a ha
    cases fl with
    | own => exact n1 (.inr (List.mem_append_left _ (by simp [ownA, Kd.isOwn, Kd.fl])))
    | frz => exact n1 (.inl hc.2.2)
    | bor => exact n2 hc.2.2
    | tmp =>
      rcases ht with ht | ht
      · cases ht
      · rw [ht] at n3; exact n3 hc.2.2
  · rcases ht with ht | ht
    · rw [Bool.and_eq_true] at ht
      refine RepL.only (pf := fun f => f != .tmp) (fun a f hf hz => ?_) _ e2 (noT_frz ht.2)
      cases f with
      | tmp => cases hf
      | _ => exact hz
    · rw [ht]; exact e2
theorem tup_ready {K : PySem.W.Frag} {H H1 : Hp} {Z Z1 : Zn} {v : V} {F : List Addr} {ds : List D} (r : Res K cm H Z H1 Z1 [] (.nd .tup ds) v F) : ∃ a vs Gs, v = .ref a ∧ SqT K H1 a vs ∧ Gs.flatten = [] ∧ RepL K cm H1 (frzZ Z1 F) (ds.map toFrz) vs Gs ∧
    Ext H Z H1 (frzZ Z1 F) ∧ ∀ O t', (ds.all noT) = true ∨ t' = (frzZ Z1 F).t → Safe H1 O ⟨(frzZ Z1 F).f, (frzZ Z1 F).b, t'⟩ → RepL K cm H1 ⟨(frzZ Z1 F).f, (frzZ Z1 F).b, t'⟩ (ds.map toFrz) vs Gs := by
  have ext := r.frzExt
  obtain ⟨a, vs, Fs, rfl, hc, hl, rfl⟩ := r.rep
  obtain ⟨Gs, e1, e2⟩ := hl.frz (F := ownA .tup a ++ Fs.flatten) fun x hx => List.mem_append_right _ hx
  refine ⟨a, vs, Gs, rfl, hc, e1, e2, ext, fun O t' ht s => ?_⟩
  rcases ht with ht | ht
  · refine RepL.only (pf := fun f => f != .tmp) (fun a f hf hz => ?_) _ e2 (noT_frz ht)
    cases f with
    | tmp => cases hf
    | _ => exact hz
  · rw [ht]; exact e2
theorem si_val (he : SE X cm W e f) : SI X cm W tg e (itV f) := PI.imp (PI.or (pi_list he) (PI.or (pi_tup he) (pi_str he))) fun σ H R q0 => by
  obtain ⟨Z, ρ, Fs, ok, q0⟩ := q0
  unfold itV at q0
  cases q : f ρ with
  | no => rw [q] at q0; exact q0.elim
  | ex x =>
    rw [q] at q0
    exact .inl ⟨Z, ρ, Fs, ok, by rw [q]; exact q0⟩
  | ok d =>
    rw [q, Ot.bind_ok] at q0
    cases q2 : itemsD d with
    | none => rw [q2] at q0; exact q0.elim
    | some it =>
      rw [q2, Ot.of_some] at q0
      unfold itemsD at q2
      split at q2
      · rename_i fl ds
        cases q2
        refine .inl ⟨Z, ρ, Fs, ok, ?_⟩
        rw [q]
        intro v H1 Z1 F r1
        obtain ⟨a, vs, Gs, rfl, h1, h2, h3, h4, h5⟩ := seq_ready r1
        exact ⟨a, rfl, ⟨vs, rdL h1⟩, q0 _ H1 _ h4 fun O t' ht s => walk_list h1 (h5 O t' ht s).1 s (h5 O t' ht s).2 h2⟩
      · rename_i ds
        cases q2
        refine .inr (.inl ⟨Z, ρ, Fs, ok, ?_⟩)
        rw [q]
        intro v H1 Z1 F r1
        obtain ⟨a, vs, Gs, rfl, h1, h2, h3, h4, h5⟩ := tup_ready r1
        exact ⟨a, rfl, ⟨vs, h1⟩, q0 _ H1 _ h4 fun O t' ht s => walk_tup h1 s (h5 O t' ht s) h2⟩
      · rename_i x
        cases q2
        refine .inr (.inr ⟨Z, ρ, Fs, ok, ?_⟩)
        rw [q]
        intro v H1 Z1 F r1
        obtain ⟨rfl, rfl⟩ := r1.rep
        exact ⟨x, rfl, q0 _ H1 Z1 r1.ext fun O t' _ _ => walk_str⟩
      · cases q2
/-- range -/
def rngOk (i : Int) : Bool := decide (-(2 ^ 62) ≤ i) && decide (i < 2 ^ 62)
def rngD (lo hi : Int) : List D := (List.range (hi - lo).toNat).map fun i : Nat => .int (lo + (i : Int))
def itR1 (fs : List (En → Ot D)) : En → Ot Its' := fun ρ => (eL fs ρ).bind fun ds => match ds with
  | [.int j] => if rngOk j then .ok (rngD 0 j, true) else .no
  | _ => .no
def itR2 (fs : List (En → Ot D)) : En → Ot Its' := fun ρ => (eL fs ρ).bind fun ds => match ds with
  | [.int i, .int j] => if rngOk i && rngOk j then .ok (rngD i j, true) else .no
  | _ => .no
theorem rng_ok {i : Int} (h : rngOk i = true) : -(2 ^ 62) ≤ i ∧ i < 2 ^ 62 := by
  unfold rngOk at h
  rw [Bool.and_eq_true] at h
  exact ⟨of_decide_eq_true h.1, of_decide_eq_true h.2⟩
theorem si_r1 (hg : Gl X "range") (hm : X.mg "range" = none) (ha : SA X cm W [e] (eL [f])) (hs : starEach [e] X.env = [(false, eval e X.env)] := by rfl) : SI X cm W tg (.Call (.Name "range" p) [e] [] pos) (itR1 [f]) := PI.imp (pi_range1 hg hm ha hs) fun σ H R q0 => by
  obtain ⟨Z, ρ, Fs, ok, q0⟩ := q0
  unfold itR1 at q0
  refine ⟨Z, ρ, Fs, ok, ?_⟩
  cases q : eL [f] ρ with
  | no => rw [q] at q0; exact q0
  | ex x => rw [q] at q0; exact q0
  | ok ds =>
    rw [q, Ot.bind_ok] at q0
    intro vs H1 Z1 Gs r1
    split at q0
    · rename_i j
      split at q0
      · rename_i hj
        obtain ⟨v, F, rfl, rfl, ⟨rfl, rfl⟩⟩ := repL1 r1.rep
        obtain ⟨a, b⟩ := rng_ok hj
        refine ⟨j, rfl, a, b, q0 _ H1 Z1 r1.ext fun O t' _ _ => ?_⟩
        have := walk_rng (K := X.K) (cm := cm) (H := H1) (O := O) (Z := ⟨Z1.f, Z1.b, t'⟩) (lo := 0) (n := j.toNat)
        unfold rngD
        rw [Int.sub_zero]
        exact this
      · exact q0.elim
    · exact q0.elim
theorem si_r2 (hg : Gl X "range") (hm : X.mg "range" = none) (ha : SA X cm W [e, e2] (eL [f, g])) (hs : starEach [e, e2] X.env = [(false, eval e X.env), (false, eval e2 X.env)] := by rfl) (hs2 : starEach [e2] X.env = [(false, eval e2 X.env)] := by rfl) : SI X cm W tg (.Call (.Name "range" p) [e, e2] [] pos) (itR2 [f, g]) := PI.imp (pi_range2 hg hm ha hs hs2) fun σ H R q0 => by
  obtain ⟨Z, ρ, Fs, ok, q0⟩ := q0
  unfold itR2 at q0
  refine ⟨Z, ρ, Fs, ok, ?_⟩
  cases q : eL [f, g] ρ with
  | no => rw [q] at q0; exact q0
  | ex x => rw [q] at q0; exact q0
  | ok ds =>
    rw [q, Ot.bind_ok] at q0
    intro vs H1 Z1 Gs r1
    split at q0
    · rename_i i j
      split at q0
      · rename_i hj
        rw [Bool.and_eq_true] at hj
        obtain ⟨v, u, F, G, rfl, rfl, ⟨rfl, rfl⟩, ⟨rfl, rfl⟩⟩ := repL2 r1.rep
        obtain ⟨a, b⟩ := rng_ok hj.1
        obtain ⟨a', b'⟩ := rng_ok hj.2
        exact ⟨i, j, rfl, ⟨a, b, a', b'⟩, q0 _ H1 Z1 r1.ext fun O t' _ _ => walk_rng⟩
      · exact q0.elim
    · exact q0.elim
/-- enumerate(list), reversed(list) -/
def listOf : List D → Option Its'
  | [.nd (.lst fl) ds] => some (ds.map toFrz, fl != .tmp && ds.all noT)
  | _ => none
def itEnum (fs : List (En → Ot D)) : En → Ot Its' := fun ρ => (eL fs ρ).bind fun ds => .of ((listOf ds).map fun p => (enumD p.1, p.2))
def itRev (fs : List (En → Ot D)) : En → Ot Its' := fun ρ => (eL fs ρ).bind fun ds => .of ((listOf ds).map fun p => (p.1.reverse, p.2))
theorem ResL.one {K : PySem.W.Frag} {H H1 : Hp} {Z Z1 : Zn} {d : D} {vs : List V} {Fs : List (List Addr)} (r : ResL K cm H Z H1 Z1 [] [d] vs Fs) : ∃ v F, vs = [v] ∧ Res K cm H Z H1 Z1 [] d v F := by
  obtain ⟨v, F, rfl, rfl, h⟩ := repL1 r.rep
  exact ⟨v, F, rfl, r.ext, h, by simpa using r.nd, by simpa using r.fr, by simpa using r.nf⟩
theorem ResL.two {K : PySem.W.Frag} {H H1 : Hp} {Z Z1 : Zn} {d e : D} {vs : List V} {Fs : List (List Addr)} (r : ResL K cm H Z H1 Z1 [] [d, e] vs Fs) : ∃ v u F G, vs = [v, u] ∧ Fs = [F, G] ∧ Rep K cm H1 Z1 d v F ∧ Rep K cm H1 Z1 e u G := by
  obtain ⟨v, u, F, G, rfl, rfl, h, h'⟩ := repL2 r.rep
  exact ⟨v, u, F, G, rfl, rfl, h, h'⟩
theorem si_enum {elts : List Expr} {kk : Nat} {tpos : Pos} (hg : Gl X "enumerate") (hm : X.mg "enumerate" = none) (ha : SA X cm W [e] (eL [f])) (hs : starEach [e] X.env = [(false, eval e X.env)] := by rfl) :
    SI X cm W (.Tuple elts kk tpos) (.Call (.Name "enumerate" p) [e] [] pos) (itEnum [f]) := PI.imp (pi_enum hg hm ha hs) fun σ H R q0 => by
  obtain ⟨Z, ρ, Fs, ok, q0⟩ := q0
  unfold itEnum at q0
  refine ⟨Z, ρ, Fs, ok, ?_⟩
  cases q : eL [f] ρ with
  | no => rw [q] at q0; exact q0
  | ex x => rw [q] at q0; exact q0
  | ok ds =>
    rw [q, Ot.bind_ok] at q0
    intro vs H1 Z1 Gs r1
    cases q2 : listOf ds with
    | none => rw [q2] at q0; exact q0.elim
    | some it =>
      rw [q2] at q0
      unfold listOf at q2
      split at q2
      · rename_i fl ds'
        cases q2
        obtain ⟨v, F, rfl, r2⟩ := r1.one
        obtain ⟨a, us, Ms, rfl, h1, h2, h3, h4, h5⟩ := seq_ready r2
        exact ⟨a, us, rfl, rdL h1, q0 _ H1 _ h4 fun O t' ht s => walk_enum h1 (h5 O t' ht s).1 s (h5 O t' ht s).2 h2⟩
      · cases q2
theorem si_rev (hg : Gl X "reversed") (hm : X.mg "reversed" = none) (ha : SA X cm W [e] (eL [f])) (hs : starEach [e] X.env = [(false, eval e X.env)] := by rfl) :
    SI X cm W tg (.Call (.Name "reversed" p) [e] [] pos) (itRev [f]) := PI.imp (pi_reversed hg hm ha hs) fun σ H R q0 => by
  obtain ⟨Z, ρ, Fs, ok, q0⟩ := q0
  unfold itRev at q0
  refine ⟨Z, ρ, Fs, ok, ?_⟩
  cases q : eL [f] ρ with
  | no => rw [q] at q0; exact q0
  | ex x => rw [q] at q0; exact q0
  | ok ds =>
    rw [q, Ot.bind_ok] at q0
    intro vs H1 Z1 Gs r1
    cases q2 : listOf ds with
    | none => rw [q2] at q0; exact q0.elim
    | some it =>
      rw [q2] at q0
      unfold listOf at q2
      split at q2
      · rename_i fl ds'
        cases q2
        obtain ⟨v, F, rfl, r2⟩ := r1.one
        obtain ⟨a, us, Ms, rfl, h1, h2, h3, h4, h5⟩ := seq_ready r2
        exact ⟨a, us, rfl, rdL h1, q0 _ H1 _ h4 fun O t' ht s => walk_rev h1 (h5 O t' ht s).1 s (h5 O t' ht s).2 h2⟩
      · cases q2
end
end OB

namespace OB
open PySem PySem.Spec PyProof.Rows L2

section
variable {X : Cx} {cm : Cm} {W : WX} {tg e e2 : Expr} {f g : En → Ot D} {p pos : Pos}
def itZip (fs : List (En → Ot D)) : En → Ot Its' := fun ρ => (eL fs ρ).bind fun ds => match ds with
  | [.nd (.lst fl) ds, .nd (.lst fl') es] => .ok (zipD (ds.map toFrz) (es.map toFrz), (fl != .tmp && ds.all noT) && (fl' != .tmp && es.all noT))
  | _ => .no
theorem si_zip {elts : List Expr} {kk : Nat} {tpos : Pos} (hg : Gl X "zip") (hm : X.mg "zip" = none) (ha : SA X cm W [e, e2] (eL [f, g]))
    (hs : starEach [e, e2] X.env = (false, eval e X.env) :: starEach [e2] X.env := by rfl) (hpl : (backTo pos (starEach [e2] X.env)).any (·.1) = false := by rfl) :
    SI X cm W (.Tuple elts kk tpos) (.Call (.Name "zip" p) [e, e2] [] pos) (itZip [f, g]) := PI.imp (pi_zip hg hm ha hs hpl) fun σ H R q0 => by
  obtain ⟨Z, ρ, Fs, ok, q0⟩ := q0
  unfold itZip at q0
  refine ⟨Z, ρ, Fs, ok, ?_⟩
  cases q : eL [f, g] ρ with
  | no => rw [q] at q0; exact q0
  | ex x => rw [q] at q0; exact q0
  | ok ds0 =>
    rw [q, Ot.bind_ok] at q0
    intro vs H1 Z1 Gs r1
    split at q0
    · rename_i fl ds fl' es
      have hm := RepL.mut _ r1.rep
      obtain ⟨v, u, F, G, rfl, rfl, ⟨a, us, Ms, rfl, hc, hl, rfl⟩, ⟨b, ws, Ns, rfl, hc', hl', rfl⟩⟩ := repL2 r1.rep
      let A := [ownA (.lst fl) a ++ Ms.flatten, ownA (.lst fl') b ++ Ns.flatten].flatten
      have hA : A = (ownA (.lst fl) a ++ Ms.flatten) ++ (ownA (.lst fl') b ++ Ns.flatten) := by simp [A]
      have ext : Ext H Z H1 (frzZ Z1 A) := ⟨r1.ext.gr, fun a h => .inl (r1.ext.f a h), fun a h => h.elim (r1.ext.fn a) fun q => .inr (r1.new a q), fun a h => h.elim (r1.ext.fd a) fun q => mut_ne (hm a q), r1.ext.b, r1.ext.t⟩
      obtain ⟨Gs1, e1, r2⟩ := hl.frz (F := A) fun x hx => by rw [hA]; exact List.mem_append_left _ (List.mem_append_right _ hx)
      obtain ⟨Gs2, e2, r3⟩ := hl'.frz (F := A) fun x hx => by rw [hA]; exact List.mem_append_right _ (List.mem_append_right _ hx)
      have nin : ∀ {fl : Fl} {a : Addr} {vs : List V} {ds : List D} (hc : Cell X.K cm H1 Z1 a (.lst fl) vs) (hAa : fl = .own → a ∈ A) (O : List Addr) (t' : Addr → Prop), ((fl != .tmp && ds.all noT) = true ∨ t' = (frzZ Z1 A).t) → Safe H1 O ⟨(frzZ Z1 A).f, (frzZ Z1 A).b, t'⟩ → a ∉ O := fun {fl a vs ds} hc hAa O t' ht s ha => by
        obtain ⟨_, n1, n2, n3⟩ := s a ha
        cases fl with
        | own => exact n1 (.inr (hAa rfl))
        | frz => exact n1 (.inl hc.2.2)
        | bor => exact n2 hc.2.2
        | tmp =>
          rcases ht with ht | ht
          · cases ht
          · rw [ht] at n3; exact n3 hc.2.2
      have conv : ∀ {fl : Fl} {ds : List D} {vs : List V} {Gs : List (List Addr)} (r : RepL X.K cm H1 (frzZ Z1 A) (ds.map toFrz) vs Gs) (t' : Addr → Prop), ((fl != .tmp && ds.all noT) = true ∨ t' = (frzZ Z1 A).t) → RepL X.K cm H1 ⟨(frzZ Z1 A).f, (frzZ Z1 A).b, t'⟩ (ds.map toFrz) vs Gs := fun {fl ds vs Gs} r t' ht => by
        rcases ht with ht | ht
        · rw [Bool.and_eq_true] at ht
          refine RepL.only (pf := fun f => f != .tmp) (fun a f hf hz => ?_) _ r (noT_frz ht.2)
          cases f with
          | tmp => cases hf
          | _ => exact hz
        · rw [ht]; exact r
      refine ⟨a, b, us, ws, rfl, rdL hc.2.1, rdL hc'.2.1, q0 _ H1 _ ext fun O t' ht s => ?_⟩
      have h1 : (fl != .tmp && ds.all noT) = true ∨ t' = (frzZ Z1 A).t := ht.elim (fun q => .inl (by
        have q : ((fl != .tmp && ds.all noT) && (fl' != .tmp && es.all noT)) = true := q
        rw [Bool.and_eq_true] at q; exact q.1)) .inr
      have h2 : (fl' != .tmp && es.all noT) = true ∨ t' = (frzZ Z1 A).t := ht.elim (fun q => .inl (by
        have q : ((fl != .tmp && ds.all noT) && (fl' != .tmp && es.all noT)) = true := q
        rw [Bool.and_eq_true] at q; exact q.2)) .inr
      exact walk_zip hc.2.1 hc'.2.1 (nin (ds := ds) hc (fun e => by rw [hA]; subst e; simp [ownA, Kd.isOwn, Kd.fl]) O t' h1 s) (nin (ds := es) hc' (fun e => by rw [hA]; subst e; simp [ownA, Kd.isOwn, Kd.fl]) O t' h2 s) s (conv r2 t' h1) (conv r3 t' h2) e1 e2
    · exact q0.elim
end

/-! ### targets -/
theorem RepE.set {K : PySem.W.Frag} {cm : Cm} {H : Hp} {Z : Zn} {σ : L2.St} {ρ : En} {Fs : List (List Addr)} (r : RepE K cm H Z σ ρ Fs) (i : Nat) {d : D} {v : V} {F : List Addr} (h : Rep K cm H Z d v F) : RepE K cm H Z (σ.set i (some v)) (ρ.set i (some d)) (Fs.set i F) := by
  refine ⟨by simp [r.lσ], by simp [r.lF], fun j e q => ?_⟩
  have l1 := r.lσ
  have l2 := r.lF
  by_cases hj : i = j
  · subst hj
    by_cases hi : i < ρ.length
    · rw [List.getElem?_set_self hi] at q
      cases q
      exact ⟨v, F, List.getElem?_set_self (by omega), List.getElem?_set_self (by omega), h⟩
    · rw [List.getElem?_eq_none (by simpa using hi)] at q
      cases q
  · rw [List.getElem?_set_ne hj] at q ⊢
    rw [List.getElem?_set_ne hj]
    exact r.get j e q
theorem wipe_set {σ : L2.St} {i : Nat} {x : Option V} : ∀ {vs : List Nat}, i ∈ vs → wipe (σ.set i x) vs = wipe σ vs
  | [], h => nomatch h
  | v :: vs, h => by
    have sub : ∀ (vs : List Nat), i ∉ vs → wipe (σ.set i x) vs = (wipe σ vs).set i x := by
      intro vs
      induction vs with
      | nil => intro _; rfl
      | cons w vs ih =>
        intro h
        have h1 : i ≠ w := fun e => h (by simp [e])
        have h2 : i ∉ vs := fun e => h (by simp [e])
        unfold wipe
        rw [ih h2, List.set_comm _ _ h1]
    unfold wipe
    by_cases hv : i ∈ vs
    · rw [wipe_set hv]
    · have e : i = v := by
        rcases List.mem_cons.mp h with e | e
        · exact e
        · exact absurd e hv
      subst e
      rw [sub vs hv, List.set_set]
theorem wipe_in {σ : L2.St} {i : Nat} : ∀ {vs : List Nat}, i ∈ vs → (wipe σ vs).set i none = wipe σ vs
  | [], h => nomatch h
  | v :: vs, h => by
    unfold wipe
    by_cases e : i = v
    · subst e; rw [List.set_set]
    · have hv : i ∈ vs := by
        rcases List.mem_cons.mp h with e' | e'
        · exact absurd e' e
        · exact e'
      rw [List.set_comm _ _ (fun q => e q.symm), wipe_in hv]
theorem wipe_wipe {σ : L2.St} : ∀ {vs ws : List Nat}, (∀ i ∈ vs, i ∈ ws) → wipe (wipe σ ws) vs = wipe σ ws
  | [], _, _ => rfl
  | v :: vs, ws, h => by
    show (wipe (wipe σ ws) vs).set v none = wipe σ ws
    rw [wipe_wipe (fun i hi => h i (List.mem_cons_of_mem _ hi)), wipe_in (h v List.mem_cons_self)]
/-- a target keeps the relation, and stores at S alone -/
def OkTg (K : PySem.W.Frag) (cm : Cm) (S : List Nat) (g : TG) (t : D → En → Option En) : Prop := ∀ H Z d v σ ρ Fs ρ1, Rep K cm H Z d v [] → RepE K cm H Z σ ρ Fs → t d ρ = some ρ1 →
  ∀ Q : L2.St → Hp → Prop, (∀ σ1 Fs1, RepE K cm H Z σ1 ρ1 Fs1 → Fs1.flatten.Sublist Fs.flatten → (∀ vs, (∀ i ∈ S, i ∈ vs) → wipe σ1 vs = wipe σ vs) → (∀ i, i ∉ S → σ1[i]? = σ[i]?) → Q σ1 H) → g v σ H Q
def tgName (i : Nat) : D → En → Option En := fun d ρ => some (ρ.set i (some d))
theorem set_nil_sub : ∀ (Fs : List (List Addr)) (i : Nat), (Fs.set i []).flatten.Sublist Fs.flatten
  | [], _ => List.Sublist.refl _
  | F :: Fs, 0 => by rw [List.set_cons_zero, List.flatten_cons, List.flatten_cons]; exact (List.nil_sublist F).append (List.Sublist.refl _)
  | F :: Fs, i + 1 => by rw [List.set_cons_succ, List.flatten_cons, List.flatten_cons]; exact (List.Sublist.refl _).append (set_nil_sub Fs i)
theorem okTg_name {K : PySem.W.Frag} {cm : Cm} {i : Nat} : OkTg K cm [i] (gName i) (tgName i) := by
  intro H Z d v σ ρ Fs ρ1 hd hr e Q q
  cases e
  exact q _ _ (hr.set i hd) (set_nil_sub _ _) (fun vs h => wipe_set (h i (by simp))) (fun j hj => List.getElem?_set_ne (fun e => hj (by simp [e])))
/-- the parts of a tuple, one by one -/
def tgs : List (D → En → Option En) → List D → En → Option En
  | [], [], ρ => some ρ
  | t :: ts, d :: ds, ρ => (t d ρ).bind fun ρ1 => tgs ts ds ρ1
  | _, _, _ => none
def tgTup (ts : List (D → En → Option En)) : D → En → Option En := fun d ρ => match d with
  | .nd .tup ds => tgs ts ds ρ
  | _ => none
def OkTgs (K : PySem.W.Frag) (cm : Cm) (S : List Nat) (g : TGs) (t : List D → En → Option En) : Prop := ∀ H Z ds vs Gs σ ρ Fs ρ1, RepL K cm H Z ds vs Gs → Gs.flatten = [] → RepE K cm H Z σ ρ Fs → t ds ρ = some ρ1 →
  ∀ Q : L2.St → Hp → Prop, (∀ σ1 Fs1, RepE K cm H Z σ1 ρ1 Fs1 → Fs1.flatten.Sublist Fs.flatten → (∀ vs, (∀ i ∈ S, i ∈ vs) → wipe σ1 vs = wipe σ vs) → (∀ i, i ∉ S → σ1[i]? = σ[i]?) → Q σ1 H) → g vs σ H Q
theorem tgs_len : ∀ {ts : List (D → En → Option En)} {ds : List D} {ρ ρ1 : En}, tgs ts ds ρ = some ρ1 → ds.length = ts.length
  | [], [], _, _, _ => rfl
  | [], _ :: _, _, _, e => nomatch e
  | _ :: _, [], _, _, e => nomatch e
  | t :: ts, d :: ds, ρ, ρ1, e => by
    unfold tgs at e
    cases q1 : t d ρ with
    | none => rw [q1] at e; cases e
    | some ρ2 =>
      rw [q1] at e
      have e : tgs ts ds ρ2 = some ρ1 := e
      simp [tgs_len e]
theorem okTgs_nil {K : PySem.W.Frag} {cm : Cm} : OkTgs K cm [] gNil (tgs []) := by
  intro H Z ds vs Gs σ ρ Fs ρ1 hd _ hr e Q q
  cases ds with
  | nil => cases e; exact ⟨hd.1, q σ Fs hr (List.Sublist.refl _) (fun _ _ => rfl) fun _ _ => rfl⟩
  | cons d ds => cases e
theorem okTgs_cons {K : PySem.W.Frag} {cm : Cm} {S S' : List Nat} {g : TG} {gs : TGs} {t : D → En → Option En} {ts : List (D → En → Option En)} (h : OkTg K cm S g t) (hs : OkTgs K cm S' gs (tgs ts)) : OkTgs K cm (S ++ S') (gCons g gs) (tgs (t :: ts)) := by
  intro H Z ds vs Gs σ ρ Fs ρ1 hd hG hr e Q q
  cases ds with
  | nil => cases e
  | cons d ds =>
    obtain ⟨v, vs', F, Gs', rfl, rfl, h1, h2⟩ := hd
    rw [List.flatten_cons] at hG
    obtain ⟨eF, eG⟩ := List.append_eq_nil_iff.mp hG
    subst eF
    unfold tgs at e
    cases q1 : t d ρ with
    | none => rw [q1] at e; cases e
    | some ρ2 =>
      rw [q1] at e
      have e : tgs ts ds ρ2 = some ρ1 := e
      refine ⟨v, vs', rfl, ?_⟩
      refine h H Z d v σ ρ Fs ρ2 h1 hr q1 _ fun σ1 Fs1 r1 sb w1 k1 => ?_
      refine hs H Z ds vs' Gs' σ1 ρ2 Fs1 ρ1 h2 eG r1 e Q fun σ2 Fs2 r2 sb2 w2 k2 => q σ2 Fs2 r2 (sb2.trans sb) (fun vs hv => (w2 vs fun i hi => hv i (List.mem_append_right _ hi)).trans (w1 vs fun i hi => hv i (List.mem_append_left _ hi))) fun i hi => (k2 i fun z => hi (List.mem_append_right _ z)).trans (k1 i fun z => hi (List.mem_append_left _ z))
theorem okTg_tup {K : PySem.W.Frag} {cm : Cm} {S : List Nat} {gs : TGs} {ts : List (D → En → Option En)} {n : Nat} (hn : ts.length = n) (hs : OkTgs K cm S gs (tgs ts)) : OkTg K cm S (gTup K n gs) (tgTup ts) := by
  intro H Z d v σ ρ Fs ρ1 hd hr e Q q
  unfold tgTup at e
  split at e
  · rename_i ds
    obtain ⟨a, vs, Gs, rfl, hc, hl, eF⟩ := hd
    have eG : Gs.flatten = [] := by simpa [ownA, Kd.isOwn, Kd.fl] using eF.symm
    exact ⟨a, vs, rfl, hc, by rw [hl.len.1, tgs_len e, hn], hs H Z ds vs Gs σ ρ Fs ρ1 hl eG hr e Q q⟩
  · cases e

/-! ### comprehensions -/
def wipeE (ρ : En) : List Nat → En
  | [] => ρ
  | v :: vs => (wipeE ρ vs).set v none
theorem RepE.none {K : PySem.W.Frag} {cm : Cm} {H : Hp} {Z : Zn} {σ : L2.St} {ρ : En} {Fs : List (List Addr)} (r : RepE K cm H Z σ ρ Fs) (i : Nat) : RepE K cm H Z (σ.set i none) (ρ.set i none) (Fs.set i []) := by
  refine ⟨by simp [r.lσ], by simp [r.lF], fun j e q => ?_⟩
  by_cases hj : i = j
  · subst hj
    by_cases hi : i < ρ.length
    · rw [List.getElem?_set_self hi] at q; cases q
    · rw [List.getElem?_eq_none (by simpa using hi)] at q; cases q
  · rw [List.getElem?_set_ne hj] at q ⊢
    rw [List.getElem?_set_ne hj]
    exact r.get j e q
theorem RepE.wiped {K : PySem.W.Frag} {cm : Cm} {H : Hp} {Z : Zn} {σ : L2.St} {ρ : En} {Fs : List (List Addr)} (r : RepE K cm H Z σ ρ Fs) : ∀ vs, ∃ Gs, RepE K cm H Z (wipe σ vs) (wipeE ρ vs) Gs ∧ Gs.flatten.Sublist Fs.flatten
  | [] => ⟨Fs, r, List.Sublist.refl _⟩
  | v :: vs => by
    obtain ⟨Gs, a, b⟩ := RepE.wiped r vs
    exact ⟨Gs.set v [], a.none v, (set_nil_sub _ _).trans b⟩
def compL (tg : D → En → Option En) (c : En → Ot Bool) (f : En → Ot D) (ρ : En) : List D → Option (List D)
  | [] => some []
  | d :: ds => (tg d ρ).bind fun ρ1 => match c ρ1 with
    | .ok true => (match f ρ1 with
      | .ok y => (compL tg c f ρ ds).map (y :: ·)
      | _ => none)
    | .ok false => compL tg c f ρ ds
    | _ => none
def eComp (it : En → Ot Its') (tg : D → En → Option En) (c : En → Ot Bool) (f : En → Ot D) (vs : List Nat) : En → Ot D := fun ρ => (it ρ).bind fun p => match compL tg c f (wipeE ρ vs) p.1 with
  | some ys => if ys.length ≤ sizeLine then .ok (.nd (.lst .own) ys) else .no
  | none => .no
abbrev W0 : WX := fun _ _ _ _ => False
def cYes : En → Ot Bool := fun _ => .ok true
/-- the state between two turns: what the list at D holds so far -/
structure CompAt (K : PySem.W.Frag) (cm : Cm) (H1 : Hp) (Z1 : Zn) (D0 : Addr) (H2 : Hp) (ys : List D) : Prop where
  ex : ∃ (zf : Addr → Prop) (us : List V) (Gs : List (List Addr)), Grow H1 H2 ∧ H2 D0 = some (.lst us) ∧ (∀ a, Z1.f a → zf a) ∧ (∀ a, zf a → Z1.f a ∨ H1 a = none) ∧ (∀ a, zf a → a ≠ D0 ∧ H2 a ≠ none) ∧
    RepL K cm H2 ⟨zf, Z1.b, Z1.t⟩ ys us Gs ∧ Gs.flatten.Nodup ∧ ∀ a ∈ Gs.flatten, H1 a = none ∧ a ≠ D0 ∧ ¬ zf a
section
variable {X : Cx} {cm : Cm} {W : WX}
theorem comp_core {K : PySem.W.Frag} {tg : D → En → Option En} {g : TG} {S : List Nat} {c : En → Ot Bool} {tt : TT} {f : En → Ot D} {vs : List Nat} (hg : OkTg K cm S g tg) (hS : ∀ i ∈ S, i ∈ vs) (hT : ∀ σ H Q, tPT K cm W0 c σ H Q → tt σ H Q)
    {σ : L2.St} {H1 : Hp} {Z1 : Zn} {ρ : En} {Fs : List (List Addr)} {J : It} {ds all : List D} {D0 : Addr} {Q : VK} (ok1 : OkP K cm H1 σ ρ Fs Z1) (w : Walks K cm J H1 [] Z1 ds) (q1 : compL tg c f (wipeE ρ vs) ds = some all) (hz : all.length ≤ sizeLine) (hD : H1 D0 = none)
    (q0 : ∀ H2 Z2 F, Res K cm H1 Z1 H2 Z2 [] (.nd (.lst .own) all) (.ref D0) F → Q (.ref D0) H2) :
    ∃ W : Nat → Nat → Hp → Prop, (∃ m, W 0 m (L2.upd H1 D0 (.lst []))) ∧ ∀ i m H, W i m H →
      (J.stop i H ∧ Q (.ref D0) H) ∨ (J.go i H ∧ ∃ Nx : Hp → Prop, (∀ H', Nx H' → ∃ m', m' < m ∧ W (i + 1) m' H') ∧ ∀ x H', J.yld i H x H' → g x (wipe σ vs) H' fun σ2 H2 => wipe σ2 vs = wipe σ vs ∧ tt σ2 H2 fun b H3 =>
        if b = true then (tP K cm W0 f) σ2 H3 fun y H4 => ∃ acc, H4 D0 = some (.lst acc) ∧ acc.length < sizeLine ∧ Nx (L2.upd H4 D0 (.lst (acc ++ [y]))) else Nx H3) := by
  obtain ⟨Es, rE, sE⟩ := ok1.rep.wiped vs
  let Pv : Nat → Hp → Prop := fun i H2 => ∃ ys rest, CompAt K cm H1 Z1 D0 H2 ys ∧ compL tg c f (wipeE ρ vs) (ds.drop i) = some rest ∧ all = ys ++ rest
  have gD : Grow H1 (L2.upd H1 D0 (.lst [])) := .new hD
  have h0 : Pv 0 (L2.upd H1 D0 (.lst [])) := ⟨[], all, ⟨Z1.f, [], [], gD, upd_same, fun _ h => h, fun _ h => .inl h, fun a h => ⟨fun e => by subst e; exact ok1.dom.f _ h hD, fun e => ok1.dom.f a h (gD.back e)⟩, repL_nil, List.nodup_nil, fun _ h => nomatch h⟩, by simpa using q1, by simp⟩
  refine ⟨fun i m H2 => m = ds.length - i ∧ i ≤ ds.length ∧ Pv i H2, ⟨ds.length, by simp, Nat.zero_le _, h0⟩, ?_⟩
  rintro i m H2 ⟨rfl, hi, ys, rest, ⟨zf, us, Gs, gr, hD2, f1, f2, f3, rl, nd, nf⟩, hc, ea⟩
  by_cases hlt : i < ds.length
  · refine .inr ⟨w.go i H2 (.grow gr) hlt, Pv (i + 1), fun H' p' => ⟨ds.length - (i + 1), by omega, rfl, hlt, p'⟩, fun x H3 y => ?_⟩
    obtain ⟨d, hd⟩ : ∃ d, ds[i]? = some d := ⟨_, List.getElem?_eq_getElem hlt⟩
    obtain ⟨gr3, rx⟩ := w.yld i H2 x H3 (.grow gr) y d hd
    have drop_eq : ds.drop i = d :: ds.drop (i + 1) := by
      rw [List.drop_eq_getElem_cons hlt]
      rw [List.getElem?_eq_getElem hlt] at hd
      cases hd; rfl
    rw [drop_eq] at hc
    unfold compL at hc
    cases q2 : tg d (wipeE ρ vs) with
    | none => rw [q2] at hc; cases hc
    | some ρ1 =>
      rw [q2] at hc
      have gr13 : Grow H1 H3 := gr.trans gr3
      let Z3 : Zn := ⟨zf, Z1.b, Z1.t⟩
      have rx3 : Rep K cm H3 Z3 d x [] := rx.grow (.refl _) f1 (fun _ h => h) (fun _ h => h)
      have rE3 : RepE K cm H3 Z3 (wipe σ vs) (wipeE ρ vs) Es := ⟨rE.lσ, rE.lF, fun j e h => by
        obtain ⟨v, F, a1, a2, a3⟩ := rE.get j e h
        exact ⟨v, F, a1, a2, a3.grow gr13 f1 (fun _ h => h) (fun _ h => h)⟩⟩
      refine hg H3 Z3 d x (wipe σ vs) (wipeE ρ vs) Es ρ1 rx3 rE3 q2 _ fun σ1 Fs1 r1 sb wp _ => ⟨?_, ?_⟩
      · rw [wp vs hS, wipe_wipe (fun _ h => h)]
      · have ok3 : OkP K cm H3 σ1 ρ1 Fs1 Z3 := ⟨r1, ⟨fun a h z => (f3 a h).2 (gr3.back z), fun a h z => ok1.dom.b a h (gr13.back z), fun a h z => ok1.dom.t a h (gr13.back z)⟩, fun a h => ok1.tm a (sE.subset (sb.subset h))⟩
        refine hT _ _ _ ⟨Z3, ρ1, Fs1, ok3, ?_⟩
        have hc : (match c ρ1 with
          | .ok true => (match f ρ1 with
            | .ok y => (compL tg c f (wipeE ρ vs) (ds.drop (i + 1))).map (y :: ·)
            | _ => none)
          | .ok false => compL tg c f (wipeE ρ vs) (ds.drop (i + 1))
          | _ => none) = some rest := hc
        cases q3 : c ρ1 with
        | no => rw [q3] at hc; cases hc
        | ex x => rw [q3] at hc; cases hc
        | ok b =>
          rw [q3] at hc
          intro H4 Z4 ext4
          have nD : ∀ a, Z4.f a → a ≠ D0 := fun a h e => by
            subst e
            rcases ext4.fn _ h with h | h
            · exact (f3 _ h).1 rfl
            · rw [gr3 _ _ hD2] at h; cases h
          have gr4 : Grow H2 H4 := gr3.trans ext4.gr
          cases b with
          | false =>
            have hc : compL tg c f (wipeE ρ vs) (ds.drop (i + 1)) = some rest := hc
            refine ⟨ys, rest, ⟨Z4.f, us, Gs, gr.trans gr4, gr4 _ _ hD2, fun a h => ext4.f a (f1 a h), fun a h => (ext4.fn a h).elim (f2 a) fun z => .inr (gr13.back z), fun a h => ⟨nD a h, ext4.fd a h⟩, ?_, nd, fun a h => ?_⟩, hc, ea⟩
            · exact rl.grow gr4 ext4.f (fun _ h => h) (fun _ h => h)
            · obtain ⟨n1, n2, n3⟩ := nf a h
              refine ⟨n1, n2, fun z => (ext4.fn a z).elim n3 fun z2 => ?_⟩
              exact mut_ne (RepL.mut ys rl a h) (gr3.back z2)
          | true =>
            show tP K cm W0 f σ1 H4 _
            refine ⟨Z4, ρ1, Fs1, ok3.ext ext4, ?_⟩
            have hc : (match f ρ1 with
              | .ok y => (compL tg c f (wipeE ρ vs) (ds.drop (i + 1))).map (y :: ·)
              | _ => none) = some rest := hc
            cases q4 : f ρ1 with
            | no => rw [q4] at hc; cases hc
            | ex x => rw [q4] at hc; cases hc
            | ok yd =>
              rw [q4] at hc
              have hc : (compL tg c f (wipeE ρ vs) (ds.drop (i + 1))).map (yd :: ·) = some rest := hc
              cases q5 : compL tg c f (wipeE ρ vs) (ds.drop (i + 1)) with
              | none => rw [q5] at hc; cases hc
              | some rest' =>
                rw [q5] at hc
                cases hc
                intro yv H5 Z5 F5 r5
                have gr5 : Grow H2 H5 := gr4.trans r5.ext.gr
                have hD5 : H5 D0 = some (.lst us) := gr5 _ _ hD2
                have mD : Mut (H5 D0) := by rw [hD5]; trivial
                have hyl : us.length = ys.length := rl.len.1
                have nD5 : ∀ a, Z5.f a → a ≠ D0 := fun a h e => by
                  subst e
                  rcases r5.ext.fn _ h with h | h
                  · exact nD _ h rfl
                  · rw [gr4 _ _ hD2] at h; cases h
                refine ⟨us, hD5, ?_, ys ++ [yd], rest', ?_, q5, by simp [ea]⟩
                · have : all.length = ys.length + (rest'.length + 1) := by rw [ea]; simp
                  omega
                · have e5b : Z5.b = Z1.b := r5.ext.b.trans ext4.b
                  have e5t : Z5.t = Z1.t := r5.ext.t.trans ext4.t
                  have nbD : ¬ Z1.b D0 := fun h => ok1.dom.b _ h hD
                  have ntD : ¬ Z1.t D0 := fun h => ok1.dom.t _ h hD
                  have hyz : Rep K cm H5 ⟨Z5.f, Z1.b, Z1.t⟩ yd yv F5 := by
                    have := r5.rep
                    rw [show Z5 = ⟨Z5.f, Z1.b, Z1.t⟩ by rw [← e5b, ← e5t]] at this
                    exact this
                  have f15 : ∀ a, zf a → Z5.f a := fun a h => r5.ext.f a (ext4.f a h)
                  have rl5 : RepL K cm H5 ⟨Z5.f, Z1.b, Z1.t⟩ ys us Gs := rl.grow gr5 f15 (fun _ h => h) (fun _ h => h)
                  have newF : ∀ a ∈ F5, H4 a = none := r5.new
                  have nDF : D0 ∉ F5 := fun h => by
                    have := newF D0 h
                    rw [gr4 _ _ hD2] at this; cases this
                  refine ⟨Z5.f, us ++ [yv], Gs ++ [F5], fun a o h => ?_, upd_same, fun a h => f15 a (f1 a h), fun a h => ?_, fun a h => ⟨nD5 a h, ?_⟩, ?_, ?_, fun a h => ?_⟩
                  · have ne : a ≠ D0 := fun e => by subst e; rw [hD] at h; cases h
                    rw [upd_ne ne]; exact gr5 _ _ (gr _ _ h)
                  · rcases r5.ext.fn a h with h | h
                    · rcases ext4.fn a h with h | h
                      · exact f2 a h
                      · exact .inr (gr13.back h)
                    · exact .inr (gr.back (gr4.back h))
                  · rw [upd_ne (nD5 a h)]; exact r5.ext.fd a h
                  · exact (rl5.upd mD (fun h => (nf D0 h).2.1 rfl) (fun h => nD5 _ h rfl) nbD ntD).app (repL_cons (hyz.upd mD nDF (fun h => nD5 _ h rfl) nbD ntD) repL_nil)
                  · rw [List.flatten_append]
                    simp only [List.flatten_cons, List.flatten_nil, List.append_nil]
                    rw [List.nodup_append]
                    exact ⟨nd, r5.nd, fun a ha b hb e => by
                      subst e
                      exact mut_ne (RepL.mut ys rl a ha) (gr4.back (newF a hb))⟩
                  · rw [List.flatten_append] at h
                    simp only [List.flatten_cons, List.flatten_nil, List.append_nil] at h
                    rcases List.mem_append.mp h with h | h
                    · obtain ⟨n1, n2, n3⟩ := nf a h
                      refine ⟨n1, n2, fun z => ?_⟩
                      rcases r5.ext.fn a z with z | z
                      · rcases ext4.fn a z with z | z
                        · exact n3 z
                        · exact mut_ne (RepL.mut ys rl a h) (gr3.back z)
                      · exact mut_ne (RepL.mut ys rl a h) (gr4.back z)
                    · exact ⟨gr.back (gr4.back (newF a h)), fun e => nDF (e ▸ h), r5.nf a h⟩
  · have e : i = ds.length := by omega
    subst e
    refine .inl ⟨w.stop _ H2 (.grow gr) (Nat.le_refl _), ?_⟩
    rw [List.drop_length] at hc
    cases hc
    rw [List.append_nil] at ea
    subst ea
    refine q0 H2 ⟨zf, Z1.b, Z1.t⟩ (ownA (.lst .own) D0 ++ Gs.flatten) ⟨⟨gr, f1, f2, fun a h => (f3 a h).2, rfl, rfl⟩, ⟨D0, us, Gs, rfl, ⟨fun _ => hD2, .inl hD2, trivial⟩, rl, rfl⟩, ?_, fun a h => ?_, fun a h => ?_⟩
    · have eo : ownA (.lst .own) D0 = [D0] := by simp [ownA, Kd.isOwn, Kd.fl]
      rw [eo, List.nodup_append]
      refine ⟨by simp, nd, fun a ha b hb e => ?_⟩
      have e2 : a = D0 := by simpa using ha
      exact (nf b hb).2.1 (e ▸ e2)
    · have eo : ownA (.lst .own) D0 = [D0] := by simp [ownA, Kd.isOwn, Kd.fl]
      rw [eo] at h
      rcases List.mem_append.mp h with h | h
      · have e2 : a = D0 := by simpa using h
        rw [e2]; exact .inl hD
      · exact .inl (nf a h).1
    · have eo : ownA (.lst .own) D0 = [D0] := by simp [ownA, Kd.isOwn, Kd.fl]
      rw [eo] at h
      rcases List.mem_append.mp h with h | h
      · have e2 : a = D0 := by simpa using h
        rw [e2]; exact fun z => (f3 _ z).1 rfl
      · exact (nf a h).2.2
theorem comp_end {K : PySem.W.Frag} {it : En → Ot Its'} {tg : D → En → Option En} {g : TG} {S : List Nat} {c : En → Ot Bool} {tt : TT} {f : En → Ot D} {vs : List Nat} (hg : OkTg K cm S g tg) (hS : ∀ i ∈ S, i ∈ vs) (hT : ∀ σ H Q, tPT K cm W0 c σ H Q → tt σ H Q)
    {σ : L2.St} {H : Hp} {Q : VK} (q0 : tP K cm W (eComp it tg c f vs) σ H Q) : tLc (tPI K cm W it) g tt (tP K cm W0 f) vs σ H Q := by
  obtain ⟨Z, ρ, Fs, ok, q0⟩ := q0
  unfold eComp at q0
  refine ⟨Z, ρ, Fs, ok, ?_⟩
  cases q : it ρ with
  | no => rw [q] at q0; exact q0
  | ex x => rw [q] at q0; exact q0
  | ok p =>
    rw [q, Ot.bind_ok] at q0
    cases q1 : compL tg c f (wipeE ρ vs) p.1 with
    | none => rw [q1] at q0; exact q0.elim
    | some all =>
      rw [q1] at q0
      have q0 : FinD K cm W σ H Z Q (if all.length ≤ sizeLine then .ok (.nd (.lst .own) all) else .no) := q0
      split at q0
      · rename_i hz
        intro J H1 Z1 ext1 wk D0 hD
        exact comp_core hg hS hT (ok.ext ext1) (wk [] Z1.t (.inr rfl) (fun _ h => nomatch h)) q1 hz hD fun H2 Z2 F r => q0 _ H2 Z2 F (r.trans0 ext1)
      · exact q0.elim
variable {elt tgx iter : Expr} {ifs : List Expr} {scope : Scope} {own : List (Str × Nat)} {pos : Pos} {it : En → Ot Its'} {tg : D → En → Option En} {g : TG} {S : List Nat} {c : En → Ot Bool} {tt : TT} {f : En → Ot D} {t : Expr}
/-- [elt for target in iter if ..] -/
theorem s_comp (hc : X.calm = true) (hN : X.N.Nodup) (hi : SI X cm W tgx iter it) (ok : BlkOk X.N X.env.scope scope own) (hS : (S.all fun i => (own.map (·.2)).contains i) = true) (hgo : OkTg X.K cm S g tg)
    (hg : ∀ (s : Shared) (H : Hp) (C : Addr) (cl : List (Str × Addr)) (fp : List Addr), PG (X.blk s H scope (compEnvC scope cl C X.env) fp) tgx g) (ht : ∀ (s : Shared) (H : Hp) (C : Addr) (cl : List (Str × Addr)) (fp : List Addr), PTs (X.blk s H scope (compEnvC scope cl C X.env) fp) ifs tt)
    (hT : ∀ σ H Q, tPT X.K cm W0 c σ H Q → tt σ H Q)
    (he : ∀ (s : Shared) (H : Hp) (C : Addr) (cl : List (Str × Addr)) (fp : List Addr), SE (X.blk s H scope (compEnvC scope cl C X.env) fp) cm W0 elt f) (hs : ∀ x, foldedSetIterable iter X.env x = pure x := by intro _; rfl) :
    SE X cm W (.ListComp elt [⟨tgx, iter, ifs, 0⟩] scope pos) (eComp it tg c f (own.map (·.2))) :=
  PE.imp (pe_lc hc hN hi ok hg ht he hs) fun σ H Q q0 => comp_end hgo (fun i hi => by
    have := List.all_eq_true.mp hS i hi
    simpa using this) hT q0
theorem yes_T {K : PySem.W.Frag} : ∀ σ H Q, tPT K cm W0 cYes σ H Q → tYes σ H Q := fun σ H Q q0 => by
  obtain ⟨Z, ρ, Fs, ok, q0⟩ := q0
  exact q0 H Z (.refl ok.dom)
end
end OB

namespace OB
open PySem PySem.Spec PyProof.Rows L2

inductive Out where
  | nx | brk | cnt | ret (d : D) | ex (x : XD)
abbrev Mst := En → Option (Out × En)
structure Ok (K : PySem.W.Frag) (cm : Cm) (H : Hp) (σ : L2.St) (ρ : En) (Fs : List (List Addr)) (Z : Zn) : Prop where
  rep : RepE K cm H Z σ ρ Fs
  dom : Dom H Z
  mu : ∀ a ∈ Fs.flatten, Mut (H a)
  nd : Fs.flatten.Nodup
  nz : ∀ a ∈ Fs.flatten, ¬ Z.f a ∧ ¬ Z.b a
  t : ∀ a, ¬ Z.t a
structure SStep (P : List Nat) (σ : L2.St) (H : Hp) (Z : Zn) (Fs : List (List Addr)) (σ' : L2.St) (H' : Hp) (Z' : Zn) (Fs' : List (List Addr)) : Prop where
  keep : Kept H Fs.flatten H'
  own : ∀ a ∈ Fs'.flatten, a ∈ Fs.flatten ∨ H a = none
  f : ∀ a, Z.f a → Z'.f a
  fn : ∀ a, Z'.f a → Z.f a ∨ a ∈ Fs.flatten ∨ H a = none
  b : Z'.b = Z.b
  prot : ∀ i ∈ P, σ'[i]? = σ[i]?
section
variable {K : PySem.W.Frag} {cm : Cm} {P : List Nat} {H H1 H' : Hp} {Z Z1 Z' : Zn} {σ σ1 σ' : L2.St} {ρ ρ1 : En} {Fs Fs1 Fs' : List (List Addr)}
theorem Kept.back {O : List Addr} (k : Kept H O H') {a : Addr} (h : H' a = none) : H a = none ∨ a ∈ O := by
  cases e : H a with
  | none => exact .inl rfl
  | some o =>
    by_cases ho : a ∈ O
    · exact .inr ho
    · have := k a o e ho; rw [h] at this; cases this
theorem SStep.refl : SStep P σ H Z Fs σ H Z Fs := ⟨.refl, fun _ h => .inl h, fun _ h => h, fun _ h => .inl h, rfl, fun _ _ => rfl⟩
theorem SStep.trans (a : SStep P σ H Z Fs σ1 H1 Z1 Fs1) (b : SStep P σ1 H1 Z1 Fs1 σ' H' Z' Fs') : SStep P σ H Z Fs σ' H' Z' Fs' where
  keep := fun x o h n => b.keep x o (a.keep x o h n) fun z => (a.own x z).elim n fun q => by rw [h] at q; cases q
  own := fun x h => (b.own x h).elim (a.own x) fun q => (a.keep.back q).elim .inr .inl
  f := fun x h => b.f x (a.f x h)
  fn := fun x h => by
    rcases b.fn x h with h | h | h
    · exact a.fn x h
    · exact .inr (a.own x h)
    · exact .inr ((a.keep.back h).symm)
  b := b.b.trans a.b
  prot := fun i h => (b.prot i h).trans (a.prot i h)
/-- for expressions: what is owned may be lent -/
def lendZ (Z : Zn) (Fs : List (List Addr)) : Zn := ⟨Z.f, Z.b, fun a => a ∈ Fs.flatten⟩
theorem Ok.pure (ok : Ok K cm H σ ρ Fs Z) : OkP K cm H σ ρ Fs (lendZ Z Fs) :=
  ⟨⟨ok.rep.lσ, ok.rep.lF, fun i d q => by
    obtain ⟨v, F, a, b, c⟩ := ok.rep.get i d q
    exact ⟨v, F, a, b, c.grow (.refl _) (fun _ h => h) (fun _ h => h) fun a h => (ok.t a h).elim⟩⟩, ⟨ok.dom.f, ok.dom.b, fun a h => mut_ne (ok.mu a h)⟩, fun _ h => h⟩
theorem Grow.mut (g : Grow H H') {a : Addr} (h : Mut (H a)) : Mut (H' a) := by
  cases e : H a with
  | none => rw [e] at h; exact h.elim
  | some o => rw [g a o e, ← e]; exact h
/-- behind an expression -/
theorem Ok.ext (ok : Ok K cm H σ ρ Fs Z) (e : Ext H (lendZ Z Fs) H1 Z1) : Ok K cm H1 σ ρ Fs ⟨Z1.f, Z.b, fun _ => False⟩ := by
  have nf : ∀ a ∈ Fs.flatten, ¬ Z1.f a := fun a h q => (e.fn a q).elim (ok.nz a h).1 (mut_ne (ok.mu a h))
  refine ⟨⟨ok.rep.lσ, ok.rep.lF, fun i d q => ?_⟩, ⟨e.fd, fun a h q => ok.dom.b a h (e.gr.back q), fun _ h => h.elim⟩, fun a h => e.gr.mut (ok.mu a h), ok.nd, fun a h => ⟨nf a h, (ok.nz a h).2⟩, fun _ h => h⟩
  obtain ⟨v, F, a, b, c⟩ := ok.rep.get i d q
  exact ⟨v, F, a, b, c.grow e.gr e.f (fun _ h => h) fun a h => (ok.t a h).elim⟩
theorem SStep.ext (ok : Ok K cm H σ ρ Fs Z) (e : Ext H (lendZ Z Fs) H1 Z1) : SStep P σ H Z Fs σ H1 ⟨Z1.f, Z.b, fun _ => False⟩ Fs :=
  ⟨.grow e.gr, fun _ h => .inl h, e.f, fun a h => (e.fn a h).elim .inl fun q => .inr (.inr q), rfl, fun _ _ => rfl⟩
/-- .. with values in hand that are new, nothing in them lent -/
structure OkT (K : PySem.W.Frag) (cm : Cm) (H : Hp) (σ : L2.St) (ρ : En) (Fs : List (List Addr)) (Z : Zn) (ds : List D) (vs : List V) (Gs : List (List Addr)) : Prop where
  ok : Ok K cm H σ ρ Fs Z
  rep : RepL K cm H Z ds vs Gs
  nd : (Fs.flatten ++ Gs.flatten).Nodup
  nz : ∀ a ∈ Gs.flatten, ¬ Z.f a ∧ ¬ Z.b a
theorem noT_rep {d : D} {v : V} {F : List Addr} {t' : Addr → Prop} (r : Rep K cm H Z d v F) (h : noT d = true) : Rep K cm H ⟨Z.f, Z.b, t'⟩ d v F :=
  Rep.only (pf := fun f => f != .tmp) (fun a f hf hz => by
    cases f with
    | tmp => cases hf
    | _ => exact hz) d r h
theorem Ok.one (ok : Ok K cm H σ ρ Fs Z) {d : D} {v : V} {F : List Addr} (r : Res K cm H (lendZ Z Fs) H1 Z1 [] d v F) (h : noT d = true) : OkT K cm H1 σ ρ Fs ⟨Z1.f, Z.b, fun _ => False⟩ [d] [v] [F] := by
  have hb : Z1.b = Z.b := r.ext.b
  refine ⟨ok.ext r.ext, repL_cons ?_ repL_nil, ?_, fun a ha => ?_⟩
  · have := noT_rep (t' := fun _ => False) r.rep h
    rwa [hb] at this
  · simp only [List.flatten_cons, List.flatten_nil, List.append_nil]
    rw [List.nodup_append]
    exact ⟨ok.nd, r.nd, fun a ha b hb e => by subst e; exact mut_ne (ok.mu a ha) (r.new a hb)⟩
  · have ha : a ∈ F := by simpa using ha
    exact ⟨r.nf a ha, fun q => ok.dom.b a q (r.new a ha)⟩
theorem set_mem {α : Type} : ∀ {Fs : List (List α)} {i : Nat} {F : List α} {x : α}, x ∈ (Fs.set i F).flatten → x ∈ Fs.flatten ∨ x ∈ F
  | [], _, _, _, h => .inl h
  | G :: Fs, 0, F, x, h => by
    rw [List.set_cons_zero, List.flatten_cons] at h
    rcases List.mem_append.mp h with h | h
    · exact .inr h
    · exact .inl (by rw [List.flatten_cons]; exact List.mem_append_right _ h)
  | G :: Fs, i + 1, F, x, h => by
    rw [List.set_cons_succ, List.flatten_cons] at h
    rw [List.flatten_cons]
    rcases List.mem_append.mp h with h | h
    · exact .inl (List.mem_append_left _ h)
    · rcases set_mem h with h | h
      · exact .inl (List.mem_append_right _ h)
      · exact .inr h
theorem set_nodup {α : Type} : ∀ {Fs : List (List α)} {i : Nat} {F : List α}, Fs.flatten.Nodup → F.Nodup → (∀ x ∈ Fs.flatten, x ∉ F) → (Fs.set i F).flatten.Nodup
  | [], _, _, h, _, _ => h
  | G :: Fs, 0, F, h, hF, hx => by
    rw [List.flatten_cons, List.nodup_append] at h
    rw [List.set_cons_zero, List.flatten_cons, List.nodup_append]
    exact ⟨hF, h.2.1, fun a ha b hb e => hx b (by rw [List.flatten_cons]; exact List.mem_append_right _ hb) (e ▸ ha)⟩
  | G :: Fs, i + 1, F, h, hF, hx => by
    rw [List.flatten_cons, List.nodup_append] at h
    rw [List.set_cons_succ, List.flatten_cons, List.nodup_append]
    refine ⟨h.1, set_nodup h.2.1 hF fun x hx' => hx x (by rw [List.flatten_cons]; exact List.mem_append_right _ hx'), fun a ha b hb e => ?_⟩
    rcases set_mem hb with q | q
    · exact h.2.2 a ha b q e
    · exact hx a (by rw [List.flatten_cons]; exact List.mem_append_left _ ha) (e ▸ q)
/-- a slot takes the first value in hand -/
theorem OkT.set {d : D} {ds : List D} {v : V} {vs : List V} {F : List Addr} {Gs : List (List Addr)} (o : OkT K cm H σ ρ Fs Z (d :: ds) (v :: vs) (F :: Gs)) (i : Nat) : OkT K cm H (σ.set i (some v)) (ρ.set i (some d)) (Fs.set i F) Z ds vs Gs := by
  obtain ⟨ok, rp, nd, nz⟩ := o
  obtain ⟨_, _, _, _, e1, e2, h1, h2⟩ := rp
  cases e1
  cases e2
  rw [List.flatten_cons] at nd nz
  rw [List.nodup_append] at nd
  obtain ⟨n1, n2, n3⟩ := nd
  rw [List.nodup_append] at n2
  obtain ⟨n4, n5, n6⟩ := n2
  have hm := Rep.mut d h1
  have sm : ∀ a ∈ (Fs.set i F).flatten, a ∈ Fs.flatten ∨ a ∈ F := fun a h => set_mem h
  refine ⟨⟨ok.rep.set i h1, ok.dom, fun a h => (sm a h).elim (ok.mu a) (hm a), set_nodup ok.nd n4 (fun x hx hf => n3 x hx x (List.mem_append_left _ hf) rfl), fun a h => (sm a h).elim (ok.nz a) fun q => nz a (List.mem_append_left _ q), ok.t⟩, h2, ?_, fun a h => nz a (List.mem_append_right _ h)⟩
  rw [List.nodup_append]
  refine ⟨set_nodup ok.nd n4 (fun x hx hf => n3 x hx x (List.mem_append_left _ hf) rfl), n5, fun a ha b hb e => ?_⟩
  rcases sm a ha with q | q
  · exact n3 a q b (List.mem_append_right _ hb) e
  · exact n6 a q b hb e
theorem Ok.drop {ds : List D} {vs : List V} {Gs : List (List Addr)} (o : OkT K cm H σ ρ Fs Z ds vs Gs) : Ok K cm H σ ρ Fs Z := o.ok
end

/-! ### the reading of a statement -/
def EndO (K : PySem.W.Frag) (cm : Cm) (W : WX) (D0 : Ends) (H0 : Hp) (Fs0 : List (List Addr)) (σ : L2.St) (H : Hp) (Z : Zn) (Fs : List (List Addr)) : Out → Prop
  | .nx => D0.nx σ H
  | .brk => D0.bk σ H
  | .cnt => D0.ct σ H
  | .ret d => ∀ v F, Rep K cm H Z d v F → (Fs.flatten ++ F).Nodup → (∀ a ∈ F, ¬ Z.f a ∧ ¬ Z.b a) → (∀ a ∈ F, a ∈ Fs0.flatten ∨ H0 a = none) → D0.rt v H
  | .ex x => ∀ cls dd, XRep K cm H Z x cls dd → W cls dd σ H
def FinS (K : PySem.W.Frag) (cm : Cm) (W : WX) (P : List Nat) (D0 : Ends) (σ : L2.St) (H : Hp) (Z : Zn) (Fs : List (List Addr)) : Option (Out × En) → Prop
  | none => False
  | some p => ∀ σ' H' Z' Fs', SStep P σ H Z Fs σ' H' Z' Fs' → Ok K cm H' σ' p.2 Fs' Z' → EndO K cm W D0 H Fs σ' H' Z' Fs' p.1
def tS (K : PySem.W.Frag) (cm : Cm) (W : WX) (P : List Nat) (g : Mst) : TS := fun D0 σ H => ∃ Z ρ Fs, Ok K cm H σ ρ Fs Z ∧ FinS K cm W P D0 σ H Z Fs (g ρ)
abbrev SS (X : Cx) (cm : Cm) (W : WX) (P : List Nat) (st : Stmt) (g : Mst) : Prop := PS X st (tS X.K cm W P g)
abbrev SB (X : Cx) (cm : Cm) (W : WX) (P : List Nat) (sts : List Stmt) (g : Mst) : Prop := PSs X sts (tS X.K cm W P g)
theorem PS.imp {X : Cx} {e : Stmt} {t t' : TS} (h : PS X e t) (i : ∀ D σ H, t' D σ H → t D σ H) : PS X e t' := ⟨fun pins s σ H D I q => h.run pins s σ H D I (i D σ H q)⟩
theorem PSs.imp {X : Cx} {e : List Stmt} {t t' : TS} (h : PSs X e t) (i : ∀ D σ H, t' D σ H → t D σ H) : PSs X e t' := ⟨fun pins s σ H D I q => h.run pins s σ H D I (i D σ H q)⟩
def sNil : Mst := fun ρ => some (.nx, ρ)
def sSeq (g h : Mst) : Mst := fun ρ => match g ρ with
  | some (.nx, ρ1) => h ρ1
  | r => r
section
variable {K : PySem.W.Frag} {cm : Cm} {W : WX} {P : List Nat} {D0 : Ends} {H H1 : Hp} {Z Z1 : Zn} {σ σ1 : L2.St} {ρ ρ1 : En} {Fs Fs1 : List (List Addr)}
/-- from a later point -/
theorem FinS.step {r : Option (Out × En)} (h : FinS K cm W P D0 σ H Z Fs r) (s : SStep P σ H Z Fs σ1 H1 Z1 Fs1) : FinS K cm W P D0 σ1 H1 Z1 Fs1 r := by
  cases r with
  | none => exact h
  | some p =>
    intro σ' H' Z' Fs' s' ok'
    have := h σ' H' Z' Fs' (s.trans s') ok'
    cases e : p.1 with
    | ret d =>
      rw [e] at this
      exact fun v F r nd nz org => this v F r nd nz fun a ha => (org a ha).elim (s.own a) fun q => (s.keep.back q).symm
    | _ => rw [e] at this; exact this
theorem FinS.at_ (h : FinS K cm W P D0 σ H Z Fs (some (.nx, ρ1))) (s : SStep P σ H Z Fs σ1 H1 Z1 Fs1) (ok : Ok K cm H1 σ1 ρ1 Fs1 Z1) : D0.nx σ1 H1 := h σ1 H1 Z1 Fs1 s ok
theorem tS.of {g : Mst} (ok : Ok K cm H σ ρ Fs Z) (h : FinS K cm W P D0 σ H Z Fs (g ρ)) : tS K cm W P g D0 σ H := ⟨Z, ρ, Fs, ok, h⟩
/-- other ends -/
theorem FinS.ends {D1 : Ends} {r : Option (Out × En)} (h : FinS K cm W P D0 σ H Z Fs r) (h1 : ∀ σ' H' Z' Fs' p, r = some p → SStep P σ H Z Fs σ' H' Z' Fs' → Ok K cm H' σ' p.2 Fs' Z' → EndO K cm W D0 H Fs σ' H' Z' Fs' p.1 → EndO K cm W D1 H Fs σ' H' Z' Fs' p.1) : FinS K cm W P D1 σ H Z Fs r := by
  cases r with
  | none => exact h
  | some p => exact fun σ' H' Z' Fs' s ok => h1 σ' H' Z' Fs' p rfl s ok (h σ' H' Z' Fs' s ok)
end
section
variable {X : Cx} {cm : Cm} {W : WX} {P : List Nat} {st : Stmt} {rest : List Stmt} {g h : Mst} {e : Expr} {f : En → Ot D} {pos : Pos}
theorem sb_nil : SB X cm W P [] sNil := PSs.imp pss_nil fun D0 σ H q => by
  obtain ⟨Z, ρ, Fs, ok, q⟩ := q
  exact q.at_ .refl ok
theorem sb_cons (h1 : SS X cm W P st g) (h2 : SB X cm W P rest h) : SB X cm W P (st :: rest) (sSeq g h) := PSs.imp (pss_cons h1 h2) fun D0 σ H q => by
  obtain ⟨Z, ρ, Fs, ok, q⟩ := q
  refine ⟨Z, ρ, Fs, ok, ?_⟩
  unfold sSeq at q
  cases e : g ρ with
  | none => rw [e] at q; exact q
  | some p =>
    obtain ⟨o, ρ1⟩ := p
    rw [e] at q
    cases o with
    | nx => exact fun σ1 H1 Z1 Fs1 s ok1 => ⟨Z1, ρ1, Fs1, ok1, q.step s⟩
    | brk => exact q
    | cnt => exact q
    | ret d => exact q
    | ex x => exact q
theorem sb_one (h1 : SS X cm W P st g) : SB X cm W P [st] g := pss_one h1
theorem ss_pass : SS X cm W P (.Pass pos) sNil := PS.imp ps_pass fun D0 σ H q => by
  obtain ⟨Z, ρ, Fs, ok, q⟩ := q
  exact q.at_ .refl ok
theorem ss_cont : SS X cm W P (.Continue pos) (fun ρ => some (.cnt, ρ)) := PS.imp ps_continue fun D0 σ H q => by
  obtain ⟨Z, ρ, Fs, ok, q⟩ := q
  exact q σ H Z Fs .refl ok
theorem ss_brk : SS X cm W P (.Break pos) (fun ρ => some (.brk, ρ)) := PS.imp ps_break fun D0 σ H q => by
  obtain ⟨Z, ρ, Fs, ok, q⟩ := q
  exact q σ H Z Fs .refl ok
/-- never reached -/
theorem ss_never : SS X cm W P st (fun _ => none) := PS.imp ps_never fun D0 σ H q => by
  obtain ⟨Z, ρ, Fs, ok, q⟩ := q
  exact q
/-! an expression ahead of a statement's own work -/
def sOn (f : En → Ot D) (k : D → Mst) : Mst := fun ρ => match f ρ with
  | .no => none
  | .ok d => k d ρ
  | .ex x => some (.ex x, ρ)
theorem on_go {K : PySem.W.Frag} {k : D → Mst} {D0 : Ends} {σ : L2.St} {H : Hp} {Z : Zn} {ρ : En} {Fs : List (List Addr)} {Q : VK} (ok : Ok K cm H σ ρ Fs Z) (q : FinS K cm W P D0 σ H Z Fs (sOn f k ρ))
    (hk : ∀ d v H1 Z1 F, f ρ = .ok d → Res K cm H (lendZ Z Fs) H1 Z1 [] d v F → FinS K cm W P D0 σ H1 ⟨Z1.f, Z.b, fun _ => False⟩ Fs (k d ρ) → Q v H1) : tP K cm W f σ H Q := by
  refine ⟨lendZ Z Fs, ρ, Fs, ok.pure, ?_⟩
  unfold sOn at q
  cases e : f ρ with
  | no => rw [e] at q; exact q.elim
  | ok d =>
    rw [e] at q
    exact fun v H1 Z1 F r => hk d v H1 Z1 F e r (q.step (.ext ok r.ext))
  | ex x =>
    rw [e] at q
    intro cls dd H1 Z1 ex xr
    exact q σ H1 _ Fs (.ext ok ex) (ok.ext ex) cls dd (xr.back fun _ h => h)
/-- x = e -/
def sSet (i : Nat) (f : En → Ot D) : Mst := sOn f fun d ρ => if noT d then some (.nx, ρ.set i (some d)) else none
theorem prot_set {P : List Nat} {i : Nat} {σ : L2.St} {x : Option V} (hi : (!P.contains i) = true) : ∀ j ∈ P, (σ.set i x)[j]? = σ[j]? := fun j hj => List.getElem?_set_ne (fun e => by
  subst e
  rw [Bool.not_eq_true'] at hi
  rw [List.contains_iff_mem.mpr hj] at hi
  cases hi)
theorem SStep.set' {K : PySem.W.Frag} {cm : Cm} {H H1 : Hp} {Z Z1 : Zn} {σ : L2.St} {Fs : List (List Addr)} {ρ : En} {i : Nat} {d : D} {v : V} {F : List Addr} (ok : Ok K cm H σ ρ Fs Z) (r : Res K cm H (lendZ Z Fs) H1 Z1 [] d v F) (hi : (!P.contains i) = true) :
    SStep P σ H1 ⟨Z1.f, Z.b, fun _ => False⟩ Fs (σ.set i (some v)) H1 ⟨Z1.f, Z.b, fun _ => False⟩ (Fs.set i F) → True := fun _ => trivial
theorem ss_set {i : Nat} (hi : (!P.contains i) = true) (hs : PS X st (tAsg (tP X.K cm W f) (gName i))) : SS X cm W P st (sSet i f) := PS.imp hs fun D0 σ H q => by
  obtain ⟨Z, ρ, Fs, ok, q⟩ := q
  refine on_go ok q fun d v H1 Z1 F e r q1 => ?_
  split at q1
  · rename_i nt
    have o := (ok.one r nt).set i
    have ok1 := ok.ext r.ext
    -- one step from the very start: what the slot takes is new
    have s : SStep P σ H Z Fs (σ.set i (some v)) H1 ⟨Z1.f, Z.b, fun _ => False⟩ (Fs.set i F) :=
      ⟨.grow r.ext.gr, fun a h => (set_mem h).elim .inl fun q => .inr (r.new a q), r.ext.f, fun a h => (r.ext.fn a h).elim .inl fun q => .inr (.inr q), rfl, prot_set hi⟩
    have q2 : FinS X.K cm W P D0 σ H Z Fs (some (.nx, ρ.set i (some d))) := by
      have q3 := q
      unfold sSet sOn at q3
      rw [e] at q3
      have q3 : FinS X.K cm W P D0 σ H Z Fs (if noT d then some (.nx, ρ.set i (some d)) else none) := q3
      rw [if_pos nt] at q3
      exact q3
    exact q2.at_ s o.ok
  · exact q1.elim
/-- an expression alone -/
def sExpr (f : En → Ot D) : Mst := sOn f fun _ ρ => some (.nx, ρ)
theorem ss_expr (he : SE X cm W e f) (hs : swapsWith e none pos.line X.env = pure false := by rfl) : SS X cm W P (.Expr e pos) (sExpr f) := PS.imp (ps_expr he hs) fun D0 σ H q => by
  obtain ⟨Z, ρ, Fs, ok, q⟩ := q
  exact on_go ok q fun d v H1 Z1 F e r q1 => q1.at_ .refl (ok.ext r.ext)
/-- return e, nothing in it lent -/
def sRet (f : En → Ot D) : Mst := sOn f fun d ρ => if noT d then some (.ret d, ρ) else none
theorem ss_ret (he : SE X cm W e f) : SS X cm W P (.Return (some e) pos) (sRet f) := PS.imp (ps_ret he) fun D0 σ H q => by
  obtain ⟨Z, ρ, Fs, ok, q⟩ := q
  refine on_go ok q fun d v H1 Z1 F e r q1 => ?_
  have q2 := q
  unfold sRet sOn at q2
  rw [e] at q2
  have q2 : FinS X.K cm W P D0 σ H Z Fs (if noT d then some (.ret d, ρ) else none) := q2
  split at q2
  · rename_i nt
    have o := ok.one r nt
    obtain ⟨v', F', e1, e2, hr⟩ := repL1 o.rep
    cases e1
    cases e2
    exact q2 σ H1 _ Fs (.ext ok r.ext) o.ok v F hr (by simpa using o.nd) (by simpa using o.nz) fun a ha => .inr (r.new a ha)
  · exact q2.elim
def sRetN : Mst := fun ρ => some (.ret .non, ρ)
theorem ss_retN : SS X cm W P (.Return none pos) sRetN := PS.imp ps_retN fun D0 σ H q => by
  obtain ⟨Z, ρ, Fs, ok, q⟩ := q
  exact q σ H Z Fs .refl ok .non [] rep_non (by simpa using ok.nd) (fun _ h => nomatch h) fun _ h => nomatch h
/-- return x: the name's own thing goes along -/
def sRetV (i : Nat) : Mst := fun ρ => (getV ρ i).map fun d => (.ret d, ρ.set i none)
theorem flat_set_nil {Fs : List (List Addr)} {i : Nat} {F : List Addr} (h : Fs[i]? = some F) (nd : Fs.flatten.Nodup) : ((Fs.set i []).flatten ++ F).Nodup ∧ ∀ a ∈ F, a ∈ Fs.flatten := by
  refine ⟨?_, fun a ha => flat_mem h ha⟩
  have key : ∀ (Fs : List (List Addr)) (i : Nat) (F : List Addr), Fs[i]? = some F → Fs.flatten.Nodup → ((Fs.set i []).flatten ++ F).Nodup := by
    intro Fs
    induction Fs with
    | nil => intro i F h; simp at h
    | cons G Fs ih =>
      intro i F h nd
      rw [List.flatten_cons, List.nodup_append] at nd
      cases i with
      | zero =>
        simp at h
        subst h
        rw [List.set_cons_zero, List.flatten_cons, List.nil_append, List.nodup_append]
        exact ⟨nd.2.1, nd.1, fun a ha b hb e => nd.2.2 b hb a ha e.symm⟩
      | succ i =>
        have h : Fs[i]? = some F := by simpa using h
        have q := ih i F h nd.2.1
        rw [List.set_cons_succ, List.flatten_cons, List.append_assoc, List.nodup_append]
        refine ⟨nd.1, q, fun a ha b hb e => ?_⟩
        rcases List.mem_append.mp hb with hb | hb
        · rcases set_mem hb with hb | hb
          · exact nd.2.2 a ha b hb e
          · cases hb
        · exact nd.2.2 a ha b (flat_mem h hb) e
  exact key Fs i F h nd
theorem Ok.gone {K : PySem.W.Frag} {H : Hp} {σ : L2.St} {ρ : En} {Fs : List (List Addr)} {Z : Zn} (ok : Ok K cm H σ ρ Fs Z) (i : Nat) : Ok K cm H (σ.set i none) (ρ.set i none) (Fs.set i []) Z :=
  ⟨ok.rep.none i, ok.dom, fun a h => ok.mu a ((set_nil_sub _ _).subset h), ok.nd.sublist (set_nil_sub _ _), fun a h => ok.nz a ((set_nil_sub _ _).subset h), ok.t⟩
theorem ss_retV {i : Nat} {x : Str} {p : Pos} (hi : (!P.contains i) = true) (he : PE X (.Name x p) (tVar i)) : SS X cm W P (.Return (some (.Name x p)) pos) (sRetV i) := PS.imp (ps_ret he) fun D0 σ H q => by
  obtain ⟨Z, ρ, Fs, ok, q⟩ := q
  unfold sRetV at q
  cases e : getV ρ i with
  | none => rw [e] at q; exact q.elim
  | some d =>
    rw [e] at q
    obtain ⟨v, F, e1, e2, r⟩ := ok.rep.get i d (getV_some e)
    obtain ⟨n1, n2⟩ := flat_set_nil e2 ok.nd
    refine ⟨v, e1, ?_⟩
    exact q (σ.set i none) H Z (Fs.set i []) ⟨.refl, fun a h => .inl ((set_nil_sub _ _).subset h), fun _ h => h, fun _ h => .inl h, rfl, prot_set hi⟩ (ok.gone i) v F r n1 (fun a h => ok.nz a (n2 a h)) fun a h => .inl (n2 a h)
/-- return of what is lent: all is frozen -/
def Fl.tmpFrz : Fl → Fl
  | .own => .frz
  | .tmp => .frz
  | f => f
theorem flat_nils : ∀ (Fs : List (List Addr)), (Fs.map fun _ => ([] : List Addr)).flatten = []
  | [] => rfl
  | _ :: Fs => by rw [List.map_cons, List.flatten_cons, flat_nils Fs]; rfl
def frzE (ρ : En) : En := ρ.map (Option.map toFrz)
def sRetF (f : En → Ot D) : Mst := sOn f fun d ρ => some (.ret (mapF Fl.tmpFrz d), frzE ρ)
theorem Ok.frozen {K : PySem.W.Frag} {H : Hp} {σ : L2.St} {ρ : En} {Fs : List (List Addr)} {Z : Zn} (ok : Ok K cm H σ ρ Fs Z) {zf : Addr → Prop} (h1 : ∀ a, Z.f a → zf a) (h2 : ∀ a ∈ Fs.flatten, zf a) (h3 : ∀ a, zf a → H a ≠ none) : Ok K cm H σ (frzE ρ) (Fs.map fun _ => []) ⟨zf, Z.b, fun _ => False⟩ := by
  have fl0 : (Fs.map fun _ => ([] : List Addr)).flatten = [] := flat_nils Fs
  refine ⟨⟨by simp [frzE, ok.rep.lσ], by simp [frzE, ok.rep.lF], fun i d q => ?_⟩, ⟨h3, ok.dom.b, fun _ h => h.elim⟩, (by rw [fl0]; exact fun _ h => (nomatch h)), (by rw [fl0]; exact List.nodup_nil), (by rw [fl0]; exact fun _ h => (nomatch h)), fun _ h => h⟩
  unfold frzE at q
  rw [List.getElem?_map] at q
  cases e : ρ[i]? with
  | none => rw [e] at q; cases q
  | some o =>
    rw [e] at q
    cases o with
    | none => cases q
    | some d0 =>
      cases q
      obtain ⟨v, F, a, b, c⟩ := ok.rep.get i d0 e
      refine ⟨v, [], a, by rw [List.getElem?_map, b]; rfl, ?_⟩
      refine Rep.give (g := Fl.toFrz) (O := fun a => a ∈ F) (cell_flag (fun a ha f ef _ => by subst ef; exact h2 a (flat_mem b ha)) (fun a f hf hz => by cases f with
        | own => exact absurd rfl hf
        | frz => exact h1 a hz
        | bor => exact hz
        | tmp => exact (ok.t a hz).elim) (fun f e => by cases f <;> first | rfl | cases e)) (fun f e => by cases f <;> cases e) d0 c fun a h => h
theorem ss_retF (he : SE X cm W e f) : SS X cm W P (.Return (some e) pos) (sRetF f) := PS.imp (ps_ret he) fun D0 σ H q => by
  obtain ⟨Z, ρ, Fs, ok, q⟩ := q
  refine on_go ok q fun d v H1 Z1 F e r q1 => ?_
  have q2 := q
  unfold sRetF sOn at q2
  rw [e] at q2
  have ok1 := ok.ext r.ext
  have hm := Rep.mut d r.rep
  have ok2 := ok1.frozen (zf := fun a => Z1.f a ∨ a ∈ Fs.flatten ∨ a ∈ F) (fun a h => .inl h) (fun a h => .inr (.inl h)) (fun a h => h.elim (r.ext.fd a) fun h => h.elim (fun h => mut_ne (ok1.mu a h)) fun h => mut_ne (hm a h))
  have rr : Rep X.K cm H1 ⟨fun a => Z1.f a ∨ a ∈ Fs.flatten ∨ a ∈ F, Z.b, fun _ => False⟩ (mapF Fl.tmpFrz d) v [] :=
    Rep.give (g := Fl.tmpFrz) (O := fun a => a ∈ F) (cell_flag (fun a ha f ef _ => by subst ef; exact .inr (.inr ha)) (fun a f hf hz => by cases f with
        | own => exact absurd rfl hf
        | frz => exact .inl hz
        | bor => exact (show Z.b a by have := r.ext.b; rw [show (lendZ Z Fs).b = Z.b from rfl] at this; rw [← this]; exact hz)
        | tmp => exact .inr (.inl (show a ∈ Fs.flatten by have := r.ext.t; rw [show (lendZ Z Fs).t = fun a => a ∈ Fs.flatten from rfl] at this; have hz : Z1.t a := hz; rw [this] at hz; exact hz))) (fun f e => by cases f <;> first | rfl | cases e)) (fun f e => by cases f <;> cases e) d r.rep fun a h => h
  have fl0 : (Fs.map fun _ => ([] : List Addr)).flatten = [] := flat_nils Fs
  refine q2 σ H1 ⟨fun a => Z1.f a ∨ a ∈ Fs.flatten ∨ a ∈ F, Z.b, fun _ => False⟩ _ ⟨.grow r.ext.gr, (by rw [fl0]; exact fun _ h => (nomatch h)), fun a h => Or.inl (r.ext.f a h), fun a h => ?_, rfl, fun _ _ => rfl⟩ ok2 v [] rr (by rw [fl0]; exact List.nodup_nil) (fun _ h => (nomatch h)) fun _ h => (nomatch h)
  rcases h with h | h | h
  · exact (r.ext.fn a h).elim .inl fun q => .inr (.inr q)
  · exact .inr (.inl h)
  · exact .inr (.inr (r.new a h))

/-! ### if -/
def sIf (t : En → Ot Bool) (g h : Mst) : Mst := fun ρ => match t ρ with
  | .no => none
  | .ok b => if b then g ρ else h ρ
  | .ex x => some (.ex x, ρ)
theorem test_go {K : PySem.W.Frag} {t : En → Ot Bool} {k : Bool → Mst} {D0 : Ends} {σ : L2.St} {H : Hp} {Z : Zn} {ρ : En} {Fs : List (List Addr)} {Q : Bool → Hp → Prop} (ok : Ok K cm H σ ρ Fs Z)
    (q : FinS K cm W P D0 σ H Z Fs (match t ρ with
      | .no => none
      | .ok b => k b ρ
      | .ex x => some (.ex x, ρ)))
    (hk : ∀ b H1 Z1, t ρ = .ok b → Ext H (lendZ Z Fs) H1 Z1 → FinS K cm W P D0 σ H1 ⟨Z1.f, Z.b, fun _ => False⟩ Fs (k b ρ) → Q b H1) : tPT K cm W t σ H Q := by
  refine ⟨lendZ Z Fs, ρ, Fs, ok.pure, ?_⟩
  cases e : t ρ with
  | no => rw [e] at q; exact q.elim
  | ok d =>
    rw [e] at q
    exact fun H1 Z1 ex => hk d H1 Z1 e ex (q.step (.ext ok ex))
  | ex x =>
    rw [e] at q
    intro cls dd H1 Z1 ex xr
    exact q σ H1 _ Fs (.ext ok ex) (ok.ext ex) cls dd (xr.back fun _ h => h)
theorem ss_if {c : Expr} {a b : List Stmt} {t : En → Ot Bool} (hc : ST X cm W c t) (ha : SB X cm W P a g) (hb : SB X cm W P b h) : SS X cm W P (.If c a b pos) (sIf t g h) := PS.imp (ps_if hc ha hb) fun D0 σ H q => by
  obtain ⟨Z, ρ, Fs, ok, q⟩ := q
  refine test_go (k := fun b => if b then g else h) ok (by
    have q2 := q
    unfold sIf at q2
    cases e : t ρ with
    | no => rw [e] at q2; exact q2
    | ok b => rw [e] at q2; cases b <;> exact q2
    | ex x => rw [e] at q2; exact q2) fun k H1 Z1 e ex q1 => ?_
  cases k with
  | true => exact ⟨_, ρ, Fs, ok.ext ex, q1⟩
  | false => exact ⟨_, ρ, Fs, ok.ext ex, q1⟩

/-! ### for -/
def forL (tg : D → En → Option En) (body : Mst) : List D → Mst
  | [], ρ => some (.nx, ρ)
  | d :: ds, ρ => match tg d ρ with
    | none => none
    | some ρ1 => match body ρ1 with
      | none => none
      | some (.nx, ρ2) => forL tg body ds ρ2
      | some (.cnt, ρ2) => forL tg body ds ρ2
      | some (.brk, ρ2) => some (.nx, ρ2)
      | some (.ret d, ρ2) => some (.ret d, ρ2)
      | some (.ex x, ρ2) => some (.ex x, ρ2)
def sFor (it : En → Ot Its') (tg : D → En → Option En) (body : Mst) : Mst := fun ρ => match it ρ with
  | .no => none
  | .ok p => if p.2 then forL tg body p.1 ρ else none
  | .ex x => some (.ex x, ρ)
theorem Ok.grow {K : PySem.W.Frag} {H H1 : Hp} {σ : L2.St} {ρ : En} {Fs : List (List Addr)} {Z : Zn} (ok : Ok K cm H σ ρ Fs Z) (g : Grow H H1) : Ok K cm H1 σ ρ Fs Z :=
  ⟨⟨ok.rep.lσ, ok.rep.lF, fun i d q => by
    obtain ⟨v, F, a, b, c⟩ := ok.rep.get i d q
    exact ⟨v, F, a, b, c.grow g (fun _ h => h) (fun _ h => h) fun _ h => h⟩⟩, ⟨fun a h q => ok.dom.f a h (g.back q), fun a h q => ok.dom.b a h (g.back q), fun a h q => ok.dom.t a h (g.back q)⟩, fun a h => g.mut (ok.mu a h), ok.nd, ok.nz, ok.t⟩
theorem ss_for {tg iter : Expr} {body : List Stmt} {it : En → Ot Its'} {g : TG} {S : List Nat} {t : D → En → Option En} {b : Mst} (hp : PassesOwn (model X.prog X.w) X.A X.env X.xe) (hc : X.calm = true) (hi : SI X cm W tg iter it) (hg : PG X tg g) (hgo : OkTg X.K cm S g t)
    (hS : (S.all fun i => !P.contains i) = true) (hb : SB X cm W P body b) (hs : ∀ x, foldedSetIterable iter X.env x = pure x := by intro _; rfl) : SS X cm W P (.For tg iter body [] pos) (sFor it t b) := PS.imp (ps_for hp hc hi hg hb hs) fun D0 σ H q => by
  obtain ⟨Z, ρ, Fs, ok, q⟩ := q
  refine ⟨lendZ Z Fs, ρ, Fs, ok.pure, ?_⟩
  unfold sFor at q
  cases e : it ρ with
  | no => rw [e] at q; exact q.elim
  | ex x =>
    rw [e] at q
    intro cls dd H1 Z1 ex xr
    exact q σ H1 _ Fs (.ext ok ex) (ok.ext ex) cls dd (xr.back fun _ h => h)
  | ok p =>
    rw [e] at q
    have q : FinS X.K cm W P D0 σ H Z Fs (if p.2 then forL t b p.1 ρ else none) := q
    split at q
    · rename_i hp2
      intro J H1 Z1 ex wk
      have ok1 := ok.ext ex
      have q1 := q.step (.ext ok ex)
      have w := wk Fs.flatten (fun _ => False) (.inl hp2) fun a h => ⟨ok1.mu a h, (ok1.nz a h).1, (by have := (ok1.nz a h).2; have eb := ex.b; rw [show (lendZ Z Fs).b = Z.b from rfl] at eb; rw [eb]; exact this), fun h => h⟩
      let Zs : Zn := ⟨Z1.f, Z.b, fun _ => False⟩
      let Pv : Nat → L2.St → Hp → Prop := fun i σ2 H2 => ∃ Z2 ρ2 Fs2, Ok X.K cm H2 σ2 ρ2 Fs2 Z2 ∧ SStep P σ H1 Zs Fs σ2 H2 Z2 Fs2 ∧ FinS X.K cm W P D0 σ2 H2 Z2 Fs2 (forL t b (p.1.drop i) ρ2)
      have h0 : Pv 0 σ H1 := ⟨Zs, ρ, Fs, ok1, .refl, by simpa using q1⟩
      refine ⟨fun i m σ2 H2 => m = p.1.length - i ∧ i ≤ p.1.length ∧ Pv i σ2 H2, ⟨p.1.length, by simp, Nat.zero_le _, h0⟩, ?_⟩
      rintro i m σ2 H2 ⟨rfl, hi2, Z2, ρ2, Fs2, ok2, s2, q2⟩
      have kp : Kept H1 Fs.flatten H2 := s2.keep
      by_cases hlt : i < p.1.length
      · refine .inr ⟨w.go i H2 kp hlt, Pv (i + 1), fun σ' H' p' => ⟨p.1.length - (i + 1), by omega, rfl, hlt, p'⟩, fun x H3 y => ?_⟩
        obtain ⟨d, hd⟩ : ∃ d, p.1[i]? = some d := ⟨_, List.getElem?_eq_getElem hlt⟩
        obtain ⟨gr3, rx⟩ := w.yld i H2 x H3 kp y d hd
        have drop_eq : p.1.drop i = d :: p.1.drop (i + 1) := by
          rw [List.drop_eq_getElem_cons hlt]
          rw [List.getElem?_eq_getElem hlt] at hd
          cases hd; rfl
        rw [drop_eq] at q2
        unfold forL at q2
        cases e2 : t d ρ2 with
        | none => rw [e2] at q2; exact q2.elim
        | some ρ3 =>
          rw [e2] at q2
          have ok3 := ok2.grow gr3
          have rx3 : Rep X.K cm H3 Z2 d x [] := rx.grow (.refl _) (fun a h => s2.f a h) (fun a h => by rw [s2.b]; have eb := ex.b; rw [show (lendZ Z Fs).b = Z.b from rfl] at eb; have h : Z1.b a := h; rw [eb] at h; exact h) fun a h => h.elim
          refine hgo H3 Z2 d x σ2 ρ2 Fs2 ρ3 rx3 ok3.rep e2 _ fun σ3 Fs3 r3 sb _ kpr => ?_
          have ok4 : Ok X.K cm H3 σ3 ρ3 Fs3 Z2 := ⟨r3, ok3.dom, fun a h => ok3.mu a (sb.subset h), ok3.nd.sublist sb, fun a h => ok3.nz a (sb.subset h), ok3.t⟩
          have s3 : SStep P σ2 H2 Z2 Fs2 σ3 H3 Z2 Fs3 := ⟨.grow gr3, fun a h => .inl (sb.subset h), fun _ h => h, fun _ h => .inl h, rfl, fun j hj => kpr j fun hjS => by
            have := List.all_eq_true.mp hS j hjS
            rw [Bool.not_eq_true'] at this
            rw [List.contains_iff_mem.mpr hj] at this
            cases this⟩
          refine ⟨Z2, ρ3, Fs3, ok4, ?_⟩
          have q3 := q2.step s3
          dsimp only at q3
          cases e3 : b ρ3 with
          | none => rw [e3] at q3; exact q3
          | some r =>
            obtain ⟨o, ρ4⟩ := r
            rw [e3] at q3
            intro σ4 H4 Z4 Fs4 s4 ok5
            cases o with
            | nx => exact ⟨Z4, ρ4, Fs4, ok5, s2.trans (s3.trans s4), q3.step s4⟩
            | cnt => exact ⟨Z4, ρ4, Fs4, ok5, s2.trans (s3.trans s4), q3.step s4⟩
            | brk => exact (q3.step s4).at_ .refl ok5
            | ret dd => exact q3 σ4 H4 Z4 Fs4 s4 ok5
            | ex x => exact q3 σ4 H4 Z4 Fs4 s4 ok5
      · have ei : i = p.1.length := by omega
        subst ei
        rw [List.drop_length] at q2
        exact .inl ⟨w.stop _ H2 kp (Nat.le_refl _), q2.at_ .refl ok2⟩
    · exact q.elim

/-! ### while -/
def whileL (t : En → Ot Bool) (body : Mst) : Nat → Mst
  | 0, _ => none
  | n + 1, ρ => match t ρ with
    | .no => none
    | .ex x => some (.ex x, ρ)
    | .ok b => if b then (match body ρ with
      | none => none
      | some (.nx, ρ2) => whileL t body n ρ2
      | some (.cnt, ρ2) => whileL t body n ρ2
      | some (.brk, ρ2) => some (.nx, ρ2)
      | some (.ret d, ρ2) => some (.ret d, ρ2)
      | some (.ex x, ρ2) => some (.ex x, ρ2)) else some (.nx, ρ)
open Classical in
noncomputable def sWhile (t : En → Ot Bool) (body : Mst) : Mst := fun ρ => if h : ∃ n, (whileL t body n ρ).isSome then whileL t body (Classical.choose h) ρ else none
theorem ss_while {c : Expr} {body : List Stmt} {t : En → Ot Bool} {b : Mst} (hp : PassesOwn (model X.prog X.w) X.A X.env X.xe) (hc : ST X cm W c t) (hb : SB X cm W P body b) : SS X cm W P (.While c body [] pos) (sWhile t b) := PS.imp (ps_while hp hc hb) fun D0 σ H q => by
  obtain ⟨Z, ρ, Fs, ok, q⟩ := q
  unfold sWhile at q
  split at q
  · rename_i hex
    generalize Classical.choose hex = n at q
    refine ⟨fun m σ2 H2 => ∃ Z2 ρ2 Fs2, Ok X.K cm H2 σ2 ρ2 Fs2 Z2 ∧ FinS X.K cm W P D0 σ2 H2 Z2 Fs2 (whileL t b m ρ2), ⟨n, Z, ρ, Fs, ok, q⟩, ?_⟩
    rintro m σ2 H2 ⟨Z2, ρ2, Fs2, ok2, q2⟩
    cases m with
    | zero => exact q2.elim
    | succ m =>
      unfold whileL at q2
      refine test_go (k := fun bb ρ2 => if bb then (match b ρ2 with
        | none => none
        | some (.nx, ρ2) => whileL t b m ρ2
        | some (.cnt, ρ2) => whileL t b m ρ2
        | some (.brk, ρ2) => some (.nx, ρ2)
        | some (.ret d, ρ2) => some (.ret d, ρ2)
        | some (.ex x, ρ2) => some (.ex x, ρ2)) else some (.nx, ρ2)) ok2 (by
          cases e : t ρ2 with
          | no => rw [e] at q2; exact q2
          | ok bb => rw [e] at q2; exact q2
          | ex x => rw [e] at q2; exact q2) fun k H3 Z3 e ex q3 => ?_
      have ok3 := ok2.ext ex
      cases k with
      | false => exact q3.at_ .refl ok3
      | true =>
        rw [if_pos rfl]
        rw [if_pos rfl] at q3
        refine ⟨fun σ' H' => ∃ Z2 ρ2 Fs2, Ok X.K cm H' σ' ρ2 Fs2 Z2 ∧ FinS X.K cm W P D0 σ' H' Z2 Fs2 (whileL t b m ρ2), fun σ' H' n => ⟨m, Nat.lt_succ_self _, n⟩, _, ρ2, Fs2, ok3, ?_⟩
        cases e3 : b ρ2 with
        | none => rw [e3] at q3; exact q3
        | some r =>
          obtain ⟨o, ρ4⟩ := r
          rw [e3] at q3
          intro σ4 H4 Z4 Fs4 s4 ok5
          cases o with
          | nx => exact ⟨Z4, ρ4, Fs4, ok5, q3.step s4⟩
          | cnt => exact ⟨Z4, ρ4, Fs4, ok5, q3.step s4⟩
          | brk => exact (q3.step s4).at_ .refl ok5
          | ret dd => exact q3 σ4 H4 Z4 Fs4 s4 ok5
          | ex x => exact q3 σ4 H4 Z4 Fs4 s4 ok5
  · exact q.elim
/-- more turns change nothing -/
theorem whileL_mono {t : En → Ot Bool} {b : Mst} : ∀ {n m : Nat} {ρ : En} {r : Out × En}, whileL t b n ρ = some r → n ≤ m → whileL t b m ρ = some r
  | 0, _, _, _, h, _ => nomatch h
  | n + 1, 0, _, _, _, l => absurd l (by omega)
  | n + 1, m + 1, ρ, r, h, l => by
    have ih := fun ρ2 => whileL_mono (t := t) (b := b) (n := n) (m := m) (ρ := ρ2) (r := r)
    unfold whileL at h ⊢
    cases e : t ρ with
    | no => rw [e] at h; cases h
    | ex x => rw [e] at h; exact h
    | ok bb =>
      rw [e] at h
      cases bb with
      | false => exact h
      | true =>
        simp only [if_true] at h ⊢
        cases e2 : b ρ with
        | none => rw [e2] at h; cases h
        | some q =>
          obtain ⟨o, ρ2⟩ := q
          rw [e2] at h
          cases o with
          | nx => exact ih ρ2 h (by omega)
          | cnt => exact ih ρ2 h (by omega)
          | brk => exact h
          | ret d => exact h
          | ex x => exact h
theorem sWhile_of {t : En → Ot Bool} {b : Mst} {n : Nat} {ρ : En} {r : Out × En} (h : whileL t b n ρ = some r) : sWhile t b ρ = some r := by
  have hex : ∃ n, (whileL t b n ρ).isSome := ⟨n, by rw [h]; rfl⟩
  unfold sWhile
  rw [dif_pos hex]
  have h2 := Classical.choose_spec hex
  obtain ⟨r2, e2⟩ := Option.isSome_iff_exists.mp h2
  rw [e2]
  rcases Nat.le_total n (Classical.choose hex) with l | l
  · rw [← e2, whileL_mono h l]
  · rw [← h, whileL_mono e2 l]
end
end OB

namespace OB
open PySem PySem.Spec PyProof.Rows L2

def initE (n : Nat) (ds : List D) : En := ds.map some ++ List.replicate (n - ds.length) none
def bodyM (n : Nat) (g : Mst) : List D → Ot D := fun ds => match g (initE n ds) with
  | some (.nx, _) => .ok .non
  | some (.ret d, _) => .ok d
  | some (.ex x, _) => .ex x
  | _ => .no
section
variable {P : Program} {w : World} {K : PySem.W.Frag} {mg : Str → Option Value} {base : Heap} {cm : Cm}
theorem init_ok {H : Hp} {f : Addr → Prop} {ds : List D} {vs : List V} {Gs : List (List Addr)} {N : List Str} (hf : ∀ a, f a → H a ≠ none) (e : Gs.flatten = []) (r : RepL K cm H (lentZ H f) ds vs Gs) (hl : vs.length ≤ N.length) :
    Ok K cm H (start N vs) (initE N.length ds) (Gs ++ List.replicate (N.length - ds.length) []) (lentZ H f) := by
  have fl : (Gs ++ List.replicate (N.length - ds.length) ([] : List Addr)).flatten = [] := by
    rw [List.flatten_append, e, List.nil_append]
    induction N.length - ds.length with
    | zero => rfl
    | succ n ih => rw [List.replicate_succ, List.flatten_cons, ih]; rfl
  obtain ⟨l1, l2⟩ := r.len
  refine ⟨⟨?_, ?_, ?_⟩, dom_lent hf, (by rw [fl]; exact fun _ h => (nomatch h)), (by rw [fl]; exact List.nodup_nil), (by rw [fl]; exact fun _ h => (nomatch h)), fun _ h => h⟩
  · simp [L2.start, initE, l1]
  · simp [initE, l1, l2]
  · intro i d q
    unfold L2.start
    unfold initE at q
    by_cases hi : i < ds.length
    · rw [List.getElem?_append_left (by simpa using hi), List.getElem?_map] at q
      cases qd : ds[i]? with
      | none => rw [qd] at q; cases q
      | some d' =>
        rw [qd] at q
        cases q
        obtain ⟨v, F, a, b, c⟩ := r.get qd
        refine ⟨v, F, ?_, ?_, c⟩
        · rw [List.getElem?_append_left (by rw [List.length_map, l1]; exact hi), List.getElem?_map, a]; rfl
        · rw [List.getElem?_append_left (by rw [l2]; exact hi), b]
    · rw [List.getElem?_append_right (by simp; omega), List.getElem?_replicate] at q
      split at q <;> cases q
theorem body_fin {H : Hp} {f : Addr → Prop} {ds : List D} {vs : List V} {Gs : List (List Addr)} {N : List Str} {g : Mst} {Q : VK} {E : XK} (hf : ∀ a, f a → H a ≠ none) (e : Gs.flatten = []) (r : RepL K cm H (lentZ H f) ds vs Gs) (hl : vs.length ≤ N.length)
    (q : FinD K cm (fun cls dd _ H' => E cls dd H') [] H (lentZ H f) Q (bodyM N.length g ds)) : tS K cm (fun cls dd _ H' => E cls dd H') [] g { nx := fun _ H' => Q .non H', rt := Q } (start N vs) H := by
  refine ⟨_, _, _, init_ok hf e r hl, ?_⟩
  have fl : (Gs ++ List.replicate (N.length - ds.length) ([] : List Addr)).flatten = [] := by
    rw [List.flatten_append, e, List.nil_append]
    induction N.length - ds.length with
    | zero => rfl
    | succ n ih => rw [List.replicate_succ, List.flatten_cons, ih]; rfl
  have ext : ∀ {σ' H' Z' Fs'}, SStep [] (start N vs) H (lentZ H f) (Gs ++ List.replicate (N.length - ds.length) []) σ' H' Z' Fs' → Dom H' Z' → Ext H (lentZ H f) H' ⟨Z'.f, (lentZ H f).b, (lentZ H f).t⟩ := fun {σ' H' Z' Fs'} s dm =>
    ⟨fun a o h => s.keep a o h (by rw [fl]; exact fun h => (nomatch h)), s.f, fun a h => (s.fn a h).elim .inl fun h => h.elim (by rw [fl]; exact fun h => (nomatch h)) .inr, dm.f, rfl, rfl⟩
  have ze : ∀ {σ' H' Z' Fs' ρ'}, SStep [] (start N vs) H (lentZ H f) (Gs ++ List.replicate (N.length - ds.length) []) σ' H' Z' Fs' → Ok K cm H' σ' ρ' Fs' Z' → Z' = ⟨Z'.f, (lentZ H f).b, (lentZ H f).t⟩ := fun {σ' H' Z' Fs' ρ'} s ok => by
    have h1 := s.b
    have h2 : Z'.t = fun _ => False := funext fun a => propext ⟨ok.t a, fun h => h.elim⟩
    cases Z'
    simp only at h1 h2
    rw [h1, h2]
    rfl
  unfold bodyM at q
  cases e1 : g (initE N.length ds) with
  | none => rw [e1] at q; exact q.elim
  | some p =>
    obtain ⟨o, ρ1⟩ := p
    rw [e1] at q
    intro σ' H' Z' Fs' s ok
    have xt := ext s ok.dom
    have zz := ze s ok
    cases o with
    | nx => exact q .non H' _ [] ⟨xt, ⟨rfl, rfl⟩, List.nodup_nil, fun _ h => (nomatch h), fun _ h => (nomatch h)⟩
    | brk => exact q.elim
    | cnt => exact q.elim
    | ret d =>
      intro v F r nd nz org
      rw [zz] at r
      exact q v H' _ F ⟨xt, r, (List.nodup_append.mp nd).2.1, fun a h => (org a h).elim (by rw [fl]; exact fun h => (nomatch h)) .inl, fun a h => (nz a h).1⟩
    | ex x =>
      intro cls dd xr
      rw [zz] at xr
      exact q cls dd H' _ xt xr
theorem fn_pure {x qual : Str} {st : Stmt} {f : Addr} {fd : FuncData} {N ps : List Str} {k : Nat} {g : Mst} (F : Fun K x qual st f fd) (S : FnScope N ps (defScope st)) (hl : ps.length ≤ N.length)
    (hb : ∀ (cdv : Value) (A : Around) (outer : List Env) (s : Shared) (H : Hp) (E : XK), Room k (A.deeper (envOfC qual (defScope st) s.heap.objs.size f cdv)) →
      SB (cxOf (L2.CX P w) P w K mg base N qual (defScope st) f cdv A outer s H E) cm (fun cls dd _ H' => E cls dd H') [] (defBody st) g) :
    FnOk P w K mg base (L2.CX P w) (k + 1) f fd ps (spP K cm ps.length (bodyM N.length g)) :=
  F.okX S (fun _ _ _ _ h => spP_len h) fun cdv A outer s H vs Q E hr h => ⟨_, hb cdv A outer s H E hr, by
    have hv := spP_len h
    obtain ⟨f, ds, Gs, hf, _, e, r, q⟩ := h
    exact body_fin hf e r (by rw [hv]; exact hl) q⟩
end
end OB

namespace OB
open PySem PySem.Spec PyProof.Rows L2

def getP : D → List Nat → Option D
  | d, [] => some d
  | .nd _ ds, j :: js => match ds[j]? with
    | some dj => getP dj js
    | none => none
  | _, _ :: _ => none
def putP (d : D) (js : List Nat) (d1 : D) : D := match js with
  | [] => d1
  | j :: js => match d with
    | .nd k ds => match ds[j]? with
      | some dj => .nd k (ds.set j (putP dj js d1))
      | none => d
    | d => d
def Reach (K : PySem.W.Frag) (cm : Cm) (H : Hp) (Z : Zn) : D → V → List Nat → V → Prop
  | _, v, [], v0 => v = v0
  | .nd k ds, v, j :: js, v0 => ∃ a vs vj dj, v = .ref a ∧ Cell K cm H Z a k vs ∧ vs.length = ds.length ∧ ds[j]? = some dj ∧ vs[j]? = some vj ∧ Reach K cm H Z dj vj js v0
  | _, _, _ :: _, _ => False
section
variable {K : PySem.W.Frag} {cm : Cm} {H H' : Hp} {Z Z' : Zn}
theorem RepL.focus : ∀ (ds : List D) {vs : List V} {Fs : List (List Addr)} {j : Nat} {dj : D}, RepL K cm H Z ds vs Fs → ds[j]? = some dj → ∃ vj Fj A B, vs[j]? = some vj ∧ Fs.flatten = A ++ Fj ++ B ∧ Rep K cm H Z dj vj Fj ∧
    ∀ (H' : Hp) (Z' : Zn) (d1 : D) (F1 : List Addr), (∀ d v F, Rep K cm H Z d v F → (∀ x ∈ F, x ∈ A ∨ x ∈ B) → Rep K cm H' Z' d v F) → Rep K cm H' Z' d1 vj F1 → ∃ Fs', Fs'.flatten = A ++ F1 ++ B ∧ RepL K cm H' Z' (ds.set j d1) vs Fs'
  | [], _, _, _, _, _, e => by simp at e
  | d :: ds, _, _, 0, dj, h, e => by
    obtain ⟨v, vs', F, Fs', rfl, rfl, h1, h2⟩ := h
    cases e
    refine ⟨v, F, [], Fs'.flatten, rfl, by simp, h1, fun H' Z' d1 F1 m r => ⟨F1 :: Fs', by simp, repL_cons r ?_⟩⟩
    have key : ∀ (ds : List D) (vs : List V) (Gs : List (List Addr)), RepL K cm H Z ds vs Gs → (∀ x ∈ Gs.flatten, x ∈ Fs'.flatten) → RepL K cm H' Z' ds vs Gs := by
      intro ds
      induction ds with
      | nil => exact fun vs Gs h _ => h
      | cons d ds ih =>
        intro vs Gs h sub
        obtain ⟨v, vs', F, Fs', rfl, rfl, h1, h2⟩ := h
        exact repL_cons (m d v F h1 fun x hx => .inr (sub x (by rw [List.flatten_cons]; exact List.mem_append_left _ hx))) (ih _ _ h2 fun x hx => sub x (by rw [List.flatten_cons]; exact List.mem_append_right _ hx))
    exact key ds vs' Fs' h2 fun _ h => h
  | d :: ds, _, _, j + 1, dj, h, e => by
    obtain ⟨v, vs', F, Fs', rfl, rfl, h1, h2⟩ := h
    obtain ⟨vj, Fj, A, B, e1, e2, r, k⟩ := RepL.focus ds (j := j) h2 (by simpa using e)
    refine ⟨vj, Fj, F ++ A, B, by simpa using e1, by rw [List.flatten_cons, e2]; simp, r, fun H' Z' d1 F1 m r1 => ?_⟩
    obtain ⟨Gs, g1, g2⟩ := k H' Z' d1 F1 (fun d v F' h hx => m d v F' h fun x q => (hx x q).elim (fun q => .inl (List.mem_append_right _ q)) .inr) r1
    exact ⟨F :: Gs, by rw [List.flatten_cons, g1]; simp, repL_cons (m d v F h1 fun x hx => .inl (List.mem_append_left _ hx)) g2⟩
theorem Rep.focus : ∀ (js : List Nat) {d : D} {v : V} {F : List Addr} {d0 : D}, Rep K cm H Z d v F → getP d js = some d0 → ∃ v0 F0 A B, F = A ++ F0 ++ B ∧ Rep K cm H Z d0 v0 F0 ∧ Reach K cm H Z d v js v0 ∧
    ∀ (p : Addr) (H' : Hp) (Z' : Zn) (d1 : D) (F1 : List Addr), p ∈ F0 → F.Nodup → CellMove K cm H H' Z Z' id (fun a => a ≠ p) → Rep K cm H' Z' d1 v0 F1 → Rep K cm H' Z' (putP d js d1) v (A ++ F1 ++ B)
  | [], d, v, F, d0, h, e => by
    simp only [getP, Option.some.injEq] at e
    subst e
    exact ⟨v, F, [], [], by simp, h, by unfold Reach; rfl, fun p H' Z' d1 F1 _ _ _ r => by simpa [putP] using r⟩
  | j :: js, .nd k ds, v, F, d0, h, e => by
    obtain ⟨a, vs, Fs, rfl, c, l, rfl⟩ := h
    unfold getP at e
    cases ej : ds[j]? with
    | none => rw [ej] at e; cases e
    | some dj =>
      rw [ej] at e
      obtain ⟨vj, Fj, A, B, e1, e2, r, kk⟩ := RepL.focus ds l ej
      obtain ⟨v0, F0, A2, B2, e3, r0, rc, k2⟩ := Rep.focus js r e
      refine ⟨v0, F0, ownA k a ++ A ++ A2, B2 ++ B, by rw [e2, e3]; simp, r0, ⟨a, vs, vj, dj, rfl, c, l.len.1, ej, e1, rc⟩, fun p H' Z' d1 F1 hp nd mv r1 => ?_⟩
      have nd2 := nd
      rw [e2, e3] at nd2
      have hpA : p ∉ ownA k a := fun q => (List.nodup_append.mp nd2).2.2 p q p (by simp [hp]) rfl
      have nd3 := (List.nodup_append.mp nd2).2.1
      have ndj : Fj.Nodup := by
        rw [← e3] at nd3
        exact (List.nodup_append.mp (List.nodup_append.mp nd3).1).2.1
      have hx : ∀ x, x ∈ A ∨ x ∈ B → x ≠ p := fun x hx q => by
        subst q
        rw [← e3, List.append_assoc] at nd3
        have pj : x ∈ Fj := by rw [e3]; simp [hp]
        rcases hx with hx | hx
        · exact (List.nodup_append.mp nd3).2.2 x hx x (List.mem_append_left _ pj) rfl
        · exact (List.nodup_append.mp (List.nodup_append.mp nd3).2.1).2.2 x pj x hx rfl
      obtain ⟨Gs, g1, g2⟩ := kk H' Z' (putP dj js d1) (A2 ++ F1 ++ B2) (fun d v F h hF => h.stay mv fun x q => hx x (hF x q)) (k2 p H' Z' d1 F1 hp ndj mv r1)
      have cc := mv a k vs c (fun q z => hpA (by unfold ownA; rw [if_pos q, z]; exact List.mem_cons_self))
      rw [Kd.mapF_id] at cc
      refine (show Rep K cm H' Z' (putP (.nd k ds) (j :: js) d1) (.ref a) _ from ?_)
      unfold putP
      dsimp only
      rw [ej]
      exact ⟨a, vs, Gs, rfl, cc, g2, by rw [g1]; simp⟩
  | _ :: _, .non, _, _, _, _, e => by simp [getP] at e
  | _ :: _, .bl _, _, _, _, _, e => by simp [getP] at e
  | _ :: _, .int _, _, _, _, _, e => by simp [getP] at e
  | _ :: _, .str _, _, _, _, _, e => by simp [getP] at e
theorem set_nodup2 : ∀ {Fs : List (List Addr)} {i : Nat} {F F' : List Addr}, Fs.flatten.Nodup → Fs[i]? = some F → F'.Nodup → (∀ x ∈ F', x ∈ F ∨ x ∉ Fs.flatten) → (Fs.set i F').flatten.Nodup
  | [], _, _, _, h, e, _, _ => h
  | G :: Fs, 0, F, F', h, e, hF, hx => by
    cases e
    rw [List.flatten_cons, List.nodup_append] at h
    rw [List.set_cons_zero, List.flatten_cons, List.nodup_append]
    exact ⟨hF, h.2.1, fun a ha b hb e => by
      subst e
      rcases hx a ha with q | q
      · exact h.2.2 a q a hb rfl
      · exact q (by rw [List.flatten_cons]; exact List.mem_append_right _ hb)⟩
  | G :: Fs, i + 1, F, F', h, e, hF, hx => by
    rw [List.flatten_cons, List.nodup_append] at h
    rw [List.set_cons_succ, List.flatten_cons, List.nodup_append]
    have e : Fs[i]? = some F := by simpa using e
    refine ⟨h.1, set_nodup2 h.2.1 e hF fun x q => (hx x q).imp id fun z w => z (by rw [List.flatten_cons]; exact List.mem_append_right _ w), fun a ha b hb ee => ?_⟩
    subst ee
    rcases set_mem hb with q | q
    · exact h.2.2 a ha a q rfl
    · rcases hx a q with z | z
      · exact h.2.2 a ha a (flat_mem e z) rfl
      · exact z (by rw [List.flatten_cons]; exact List.mem_append_left _ ha)
theorem RepE.upd1 {σ : L2.St} {ρ : En} {Fs : List (List Addr)} {i : Nat} {d' : D} {v : V} {F F' : List Addr} {p : Addr} (r : RepE K cm H Z σ ρ Fs) (nd : Fs.flatten.Nodup) (hs : σ[i]? = some (some v)) (hF : Fs[i]? = some F) (hp : p ∈ F)
    (mv : CellMove K cm H H' Z Z' id (fun a => a ≠ p)) (h : Rep K cm H' Z' d' v F') : RepE K cm H' Z' σ (ρ.set i (some d')) (Fs.set i F') := by
  refine ⟨by simpa using r.lσ, by simpa using r.lF, fun j d q => ?_⟩
  by_cases e : i = j
  · subst e
    rw [List.getElem?_set] at q
    split at q
    · split at q
      · cases q
        refine ⟨v, F', hs, ?_, h⟩
        rw [List.getElem?_set_self]
        have := (List.getElem?_eq_some_iff.mp hF).1
        exact this
      · cases q
    · rename_i n
      exact absurd rfl n
  · rw [List.getElem?_set_ne e] at q
    obtain ⟨v2, F2, a, b, c⟩ := r.get j d q
    refine ⟨v2, F2, a, by rw [List.getElem?_set_ne e]; exact b, c.stay mv (fun x z => ?_)⟩
    intro e2
    rw [e2] at z
    -- p is in slot i alone
    have key : ∀ {Fs : List (List Addr)} {i j : Nat} {F F2 : List Addr}, Fs.flatten.Nodup → Fs[i]? = some F → Fs[j]? = some F2 → i ≠ j → p ∈ F → p ∈ F2 → False := by
      intro Fs
      induction Fs with
      | nil => intro i j F F2 _ e; simp at e
      | cons G Fs ih =>
        intro i j F F2 nd e1 e2 ne h1 h2
        rw [List.flatten_cons, List.nodup_append] at nd
        cases i with
        | zero =>
          cases j with
          | zero => exact ne rfl
          | succ j =>
            cases e1
            exact nd.2.2 p h1 p (flat_mem (by simpa using e2) h2) rfl
        | succ i =>
          cases j with
          | zero =>
            cases e2
            exact nd.2.2 p h2 p (flat_mem (by simpa using e1) h1) rfl
          | succ j => exact ih nd.2.1 (by simpa using e1) (by simpa using e2) (fun q => ne (by rw [q])) h1 h2
    exact key nd hF b e hp z
theorem cell_then {H1 H2 : Hp} {Z1 Z2 : Zn} {O : Addr → Prop} (m1 : CellMove K cm H H1 Z Z1 id (fun _ => True)) (m2 : CellMove K cm H1 H2 Z1 Z2 id O) : CellMove K cm H H2 Z Z2 id O := fun a k vs h ho => by
  have c1 := m1 a k vs h fun _ => trivial
  rw [Kd.mapF_id] at c1
  exact m2 a k vs c1 ho
/-- the place js within the i-th local takes other content -/
theorem Ok.mutP {σ : L2.St} {ρ : En} {Fs : List (List Addr)} {i : Nat} {js : List Nat} {d : D} {k : Kd} {es : List D} (ok : Ok K cm H σ ρ Fs Z) (hi : ρ[i]? = some (some d)) (hj : getP d js = some (.nd k es)) (hk : k.isOwn = true) :
    ∃ v a us Es, σ[i]? = some (some v) ∧ Reach K cm H Z d v js (.ref a) ∧ a ∈ Fs.flatten ∧ Cell K cm H Z a k us ∧ RepL K cm H Z es us Es ∧ (∀ x ∈ Es.flatten, x ∈ Fs.flatten) ∧ Es.flatten.Nodup ∧ a ∉ Es.flatten ∧
      ∀ H1 Z1 ds vs Gs, Ext H (lendZ Z Fs) H1 Z1 → OkT K cm H1 σ ρ Fs ⟨Z1.f, Z.b, fun _ => False⟩ ds vs Gs →
      ∀ k' es' us' Es' o', k'.isOwn = true → Cell K cm (L2.upd H1 a o') ⟨Z1.f, Z.b, fun _ => False⟩ a k' us' → Mut (some o') → RepL K cm H1 ⟨Z1.f, Z.b, fun _ => False⟩ es' us' Es' → (∀ x ∈ Es'.flatten, x ∈ Es.flatten ∨ x ∈ Gs.flatten) → Es'.flatten.Nodup →
        ∃ Fs', Ok K cm (L2.upd H1 a o') σ (ρ.set i (some (putP d js (.nd k' es')))) Fs' ⟨Z1.f, Z.b, fun _ => False⟩ ∧ (∀ x ∈ Fs'.flatten, x ∈ Fs.flatten ∨ x ∈ Gs.flatten) := by
  obtain ⟨v, F, hs, hF, r⟩ := ok.rep.get i d hi
  obtain ⟨v0, F0, A, B, eF, r0, rc, kk⟩ := r.focus js hj
  obtain ⟨a, us, Es, rfl, c, l, rfl⟩ := r0
  have hO : ownA k a = [a] := by unfold ownA; rw [if_pos hk]
  rw [hO] at eF kk
  have sub : ∀ x ∈ F, x ∈ Fs.flatten := fun x hx => flat_mem hF hx
  have ndF : F.Nodup := by
    have := ok.nd
    have key : ∀ {Fs : List (List Addr)} {i : Nat}, Fs.flatten.Nodup → Fs[i]? = some F → F.Nodup := by
      intro Fs
      induction Fs with
      | nil => intro i _ e; simp at e
      | cons G Fs ih =>
        intro i nd e
        rw [List.flatten_cons, List.nodup_append] at nd
        cases i with
        | zero => cases e; exact nd.1
        | succ i => exact ih nd.2.1 (by simpa using e)
    exact key this hF
  have ha : a ∈ Fs.flatten := sub a (by rw [eF]; simp)
  have hEs : ∀ x ∈ Es.flatten, x ∈ Fs.flatten := fun x hx => sub x (by rw [eF]; exact List.mem_append_left _ (List.mem_append_right _ (List.mem_append_right _ hx)))
  have ndF2 := ndF
  rw [eF] at ndF2
  have n1 := List.nodup_append.mp ndF2
  have n2 := List.nodup_append.mp n1.1
  have n3 := List.nodup_append.mp n2.2.1
  have ndEs : Es.flatten.Nodup := n3.2.1
  have aE : a ∉ Es.flatten := fun q => n3.2.2 a (List.mem_singleton.mpr rfl) a q rfl
  refine ⟨v, a, us, Es, hs, rc, ha, c, l, hEs, ndEs, aE, fun H1 Z1 ds vs Gs ex o k' es' us' Es' o' hk' c' mu' l' sub' nd' => ?_⟩
  have ndG := List.nodup_append.mp o.nd
  have mu := o.ok.mu a ha
  have nz := o.ok.nz a ha
  have nt := o.ok.t a
  have aG : a ∉ Gs.flatten := fun q => ndG.2.2 a ha a q rfl
  have l2 := l'.upd (p := a) (o := o') mu (fun q => (sub' a q).elim aE aG) nz.1 nz.2 nt
  have mv : CellMove K cm H (L2.upd H1 a o') Z ⟨Z1.f, Z.b, fun _ => False⟩ id (fun x => x ≠ a) :=
    cell_then (Z1 := ⟨Z1.f, Z.b, fun _ => False⟩) (cell_grow ex.gr ex.f (fun _ h => h) fun x h => (ok.t x h).elim) (cell_upd mu nz.1 nz.2 nt)
  have rr := kk a (L2.upd H1 a o') ⟨Z1.f, Z.b, fun _ => False⟩ (.nd k' es') ([a] ++ Es'.flatten) (by simp) ndF mv ⟨a, us', Es', rfl, c', l2, by unfold ownA; rw [if_pos hk']⟩
  have hF' : ∀ x ∈ A ++ ([a] ++ Es'.flatten) ++ B, x ∈ F ∨ x ∈ Gs.flatten := fun x hx => by
    rw [eF]
    simp only [List.mem_append] at hx ⊢
    rcases hx with (hx | hx | hx) | hx
    · exact .inl (.inl (.inl hx))
    · exact .inl (.inl (.inr (.inl hx)))
    · exact (sub' x hx).elim (fun q => .inl (.inl (.inr (.inr q)))) .inr
    · exact .inl (.inr hx)
  have gF : ∀ x ∈ Gs.flatten, x ∉ Fs.flatten := fun x hx q => ndG.2.2 x q x hx rfl
  have nF' : (A ++ ([a] ++ Es'.flatten) ++ B).Nodup := by
    have old : ∀ x, x ∈ Es'.flatten → x ∈ ([a] ++ Es.flatten) ∨ x ∉ Fs.flatten := fun x hx => (sub' x hx).elim (fun q => .inl (List.mem_append_right _ q)) fun q => .inr (gF x q)
    have old2 : ∀ x, x ∈ [a] ++ Es'.flatten → x ∈ ([a] ++ Es.flatten) ∨ x ∉ Fs.flatten := fun x hx => (List.mem_append.mp hx).elim (fun q => .inl (List.mem_append_left _ q)) (old x)
    have inA : ∀ x ∈ A, x ∈ Fs.flatten := fun x hx => sub x (by rw [eF]; exact List.mem_append_left _ (List.mem_append_left _ hx))
    have inB : ∀ x ∈ B, x ∈ Fs.flatten := fun x hx => sub x (by rw [eF]; exact List.mem_append_right _ hx)
    rw [List.nodup_append, List.nodup_append]
    refine ⟨⟨n2.1, List.nodup_append.mpr ⟨n3.1, nd', fun x hx y hy e => ?_⟩, fun x hx y hy e => ?_⟩, n1.2.1, fun x hx y hy e => ?_⟩
    · rw [List.mem_singleton] at hx
      subst hx; subst e
      exact (sub' x hy).elim aE aG
    · subst e
      exact (old2 x hy).elim (fun q => n2.2.2 x hx x q rfl) fun q => q (inA x hx)
    · subst e
      rcases List.mem_append.mp hx with q | q
      · exact n1.2.2 x (List.mem_append_left _ q) x hy rfl
      · exact (old2 x q).elim (fun z => n1.2.2 x (List.mem_append_right _ z) x hy rfl) fun z => z (inB x hy)
  have smem : ∀ x ∈ (Fs.set i (A ++ ([a] ++ Es'.flatten) ++ B)).flatten, x ∈ Fs.flatten ∨ x ∈ Gs.flatten := fun x hx => (set_mem hx).elim .inl fun q => (hF' x q).imp (sub x) id
  have gm : ∀ x ∈ Gs.flatten, Mut (H1 x) := RepL.mut ds o.rep
  refine ⟨Fs.set i (A ++ ([a] ++ Es'.flatten) ++ B), ⟨ok.rep.upd1 ok.nd hs hF (by rw [eF]; simp) mv rr, ?_, fun x hx => ?_, set_nodup2 ok.nd hF nF' fun x hx => (hF' x hx).imp id (gF x), fun x hx => (smem x hx).elim (o.ok.nz x) (o.nz x), o.ok.t⟩, smem⟩
  · refine ⟨fun x hx => ?_, fun x hx => ?_, fun x hx => (o.ok.t x hx).elim⟩
    · by_cases e : x = a
      · subst e; exact absurd hx nz.1
      · rw [upd_ne e]; exact o.ok.dom.f x hx
    · by_cases e : x = a
      · subst e; exact absurd hx nz.2
      · rw [upd_ne e]; exact o.ok.dom.b x hx
  · by_cases e : x = a
    · subst e; rw [upd_same]; exact mu'
    · rw [upd_ne e]; exact (smem x hx).elim (o.ok.mu x) (gm x)
end
end OB

namespace OB
open PySem PySem.Spec PyProof.Rows L2

/-- the place π within the i-th local -/
abbrev Pi' := En → Option (List Nat)
def tPth (K : PySem.W.Frag) (cm : Cm) (i : Nat) (π : Pi') : TE := fun σ H Q => ∃ Z ρ d js v v0, σ[i]? = some (some v) ∧ ρ[i]? = some (some d) ∧ π ρ = some js ∧ Reach K cm H Z d v js v0 ∧ Q v0 H
def pHere : Pi' := fun _ => some []
abbrev SPth (X : Cx) (cm : Cm) (e : Expr) (i : Nat) (π : Pi') : Prop := PE X e (tPth X.K cm i π)
theorem sp_name {X : Cx} {cm : Cm} {x : Str} {p : Pos} {i : Nat} (he : PE X (.Name x p) (tVar i)) : SPth X cm (.Name x p) i pHere := PE.imp he fun σ H Q q => by
  obtain ⟨Z, ρ, d, js, v, v0, h1, h2, h3, h4, q⟩ := q
  cases h3
  have h4 : v = v0 := by
    cases d <;> exact h4
  subst h4
  exact ⟨v, h1, q⟩
def placeOf (i : Nat) (π : Pi') (ρ : En) : Option (D × List Nat × Kd × List D) := match ρ[i]? with
  | some (some d) => match π ρ with
    | some js => match getP d js with
      | some (.nd k es) => if k.isOwn then some (d, js, k, es) else none
      | _ => none
    | none => none
  | _ => none
theorem placeOf_eq {i : Nat} {π : Pi'} {ρ : En} {d : D} {js : List Nat} {k : Kd} {es : List D} (h : placeOf i π ρ = some (d, js, k, es)) : ρ[i]? = some (some d) ∧ π ρ = some js ∧ getP d js = some (.nd k es) ∧ k.isOwn = true := by
  unfold placeOf at h
  split at h
  · split at h
    · split at h
      · split at h
        · cases h; exact ⟨by assumption, by assumption, by assumption, by assumption⟩
        · cases h
      · cases h
    · cases h
  · cases h
def putAt (i : Nat) (ρ : En) (d : D) (js : List Nat) (x : D) : En := ρ.set i (some (putP d js x))

section
variable {K : PySem.W.Frag} {cm : Cm} {H H1 H' : Hp} {Z Z1 Z' : Zn} {σ : L2.St} {ρ : En} {Fs : List (List Addr)} {P : List Nat} {W : WX}
theorem noT_repL : ∀ {ds : List D} {vs : List V} {Gs : List (List Addr)} {t' : Addr → Prop}, RepL K cm H Z ds vs Gs → ds.all noT = true → RepL K cm H ⟨Z.f, Z.b, t'⟩ ds vs Gs
  | [], _, _, _, r, _ => r
  | d :: ds, _, _, t', r, h => by
    obtain ⟨v, vs', F, Fs', rfl, rfl, h1, h2⟩ := r
    rw [List.all_cons, Bool.and_eq_true] at h
    exact repL_cons (noT_rep h1 h.1) (noT_repL h2 h.2)
theorem Ok.many (ok : Ok K cm H σ ρ Fs Z) {ds : List D} {vs : List V} {Gs : List (List Addr)} (r : ResL K cm H (lendZ Z Fs) H1 Z1 [] ds vs Gs) (h : ds.all noT = true) : OkT K cm H1 σ ρ Fs ⟨Z1.f, Z.b, fun _ => False⟩ ds vs Gs := by
  have hb : Z1.b = Z.b := r.ext.b
  have fr : ∀ a ∈ Gs.flatten, H a = none := fun a h => (r.fr a h).elim id fun q => nomatch q
  refine ⟨ok.ext r.ext, ?_, ?_, fun a ha => ?_⟩
  · have := noT_repL (t' := fun _ => False) r.rep h
    rwa [hb] at this
  · rw [List.nodup_append]
    exact ⟨ok.nd, r.nd, fun a ha b hb e => by subst e; exact mut_ne (ok.mu a ha) (fr a hb)⟩
  · exact ⟨r.nf a ha, fun q => ok.dom.b a q (fr a ha)⟩
/-- values ahead of a statement's own work -/
def sOnL (f : En → Ot (List D)) (k : List D → Mst) : Mst := fun ρ => match f ρ with
  | .no => none
  | .ok ds => k ds ρ
  | .ex x => some (.ex x, ρ)
theorem on_goF {f : En → Ot (List D)} {k : List D → Mst} {D0 : Ends} {Q : List V → Hp → Prop} (ok : Ok K cm H σ ρ Fs Z) (q : FinS K cm W P D0 σ H Z Fs (sOnL f k ρ))
    (hk : ∀ ds vs H1 Z1 Gs, f ρ = .ok ds → ResL K cm H (lendZ Z Fs) H1 Z1 [] ds vs Gs → FinS K cm W P D0 σ H Z Fs (k ds ρ) → Q vs H1) : FinL K cm W σ H (lendZ Z Fs) Q (f ρ) := by
  unfold sOnL at q
  cases e : f ρ with
  | no => rw [e] at q; exact q.elim
  | ok d =>
    rw [e] at q
    exact fun vs H1 Z1 Gs r => hk d vs H1 Z1 Gs e r q
  | ex x =>
    rw [e] at q
    intro cls dd H1 Z1 ex xr
    exact q σ H1 _ Fs (.ext ok ex) (ok.ext ex) cls dd (xr.back fun _ h => h)
theorem on_goL {f : En → Ot (List D)} {k : List D → Mst} {D0 : Ends} {Q : List V → Hp → Prop} (ok : Ok K cm H σ ρ Fs Z) (q : FinS K cm W P D0 σ H Z Fs (sOnL f k ρ))
    (hk : ∀ ds vs H1 Z1 Gs, f ρ = .ok ds → ResL K cm H (lendZ Z Fs) H1 Z1 [] ds vs Gs → FinS K cm W P D0 σ H Z Fs (k ds ρ) → Q vs H1) : tPL K cm W f σ H Q := ⟨lendZ Z Fs, ρ, Fs, ok.pure, on_goF ok q hk⟩
/-- a change of a place as a step -/
theorem SStep.put {a : Addr} {o' : HO} {Fs' Gs : List (List Addr)} (ex : Ext H (lendZ Z Fs) H1 Z1) (ha : a ∈ Fs.flatten) (sub : ∀ x ∈ Fs'.flatten, x ∈ Fs.flatten ∨ x ∈ Gs.flatten) (fr : ∀ x ∈ Gs.flatten, H x = none) :
    SStep P σ H Z Fs σ (L2.upd H1 a o') ⟨Z1.f, Z.b, fun _ => False⟩ Fs' :=
  ⟨fun x o h n => by rw [upd_ne (fun e => n (by rw [e]; exact ha))]; exact ex.gr x o h, fun x h => (sub x h).imp id (fr x), ex.f, fun x h => (ex.fn x h).elim .inl fun q => .inr (.inr q), rfl, fun _ _ => rfl⟩
end

/-! ### methods of lists that change them -/
/-- what a method makes of a list -/
def MutR (K : PySem.W.Frag) (cm : Cm) (r : V → List V → Hp → VK → Prop) (m : List D → List D → Option (List D)) : Prop := ∀ (H : Hp) (Z : Zn) (l : Addr) (us : List V) (es : List D) (Es : List (List Addr)) (ds : List D) (vs : List V) (Gs : List (List Addr)) (es' : List D),
  H l = some (.lst us) → RepL K cm H Z es us Es → RepL K cm H Z ds vs Gs → (∀ x ∈ Gs.flatten, x ≠ l) → m es ds = some es' → ∃ us' Es', RepL K cm H Z es' us' Es' ∧ (∀ x ∈ Es'.flatten, x ∈ Es.flatten ∨ x ∈ Gs.flatten) ∧ ((Es.flatten ++ Gs.flatten).Nodup → Es'.flatten.Nodup) ∧
    ∀ Q : VK, (∀ y, Q y (L2.upd H l (.lst us'))) → r (.ref l) vs H Q
def mApp (es ds : List D) : Option (List D) := match ds with
  | [d] => if es.length < sizeLine then some (es ++ [d]) else none
  | _ => none
theorem mut_append {K : PySem.W.Frag} {cm : Cm} : MutR K cm rAppend mApp := fun H Z l us es Es ds vs Gs es' hl re rd _ h => by
  unfold mApp at h
  split at h
  · split at h
    · rename_i d hs
      cases h
      obtain ⟨v, F, rfl, rfl, hd⟩ := repL1 rd
      refine ⟨us ++ [v], Es ++ [F], re.app (repL_cons hd repL_nil), fun x hx => ?_, fun nd => by simpa using nd, fun Q q => ⟨l, us, v, rfl, rfl, hl, by rw [re.len.1]; exact hs, q _⟩⟩
      rw [List.flatten_append] at hx
      exact List.mem_append.mp hx
    · cases h
  · cases h
def sMut (i : Nat) (π : Pi') (m : List D → List D → Option (List D)) (f : En → Ot (List D)) : Mst := fun ρ => match placeOf i π ρ with
  | some (d, js, .lst .own, es) => sOnL f (fun ds ρ => if ds.all noT then (match m es ds with
      | some es' => some (.nx, putAt i ρ d js (.lst .own es'))
      | none => none) else none) ρ
  | _ => none
section
variable {X : Cx} {cm : Cm} {W : WX} {P : List Nat} {o e : Expr} {es : List Expr} {fs : List (En → Ot D)} {name : Str} {apos cpos pos : Pos} {id : String} {r : V → List V → Hp → VK → Prop} {m : List D → List D → Option (List D)} {i : Nat} {π : Pi'}
theorem mut_end {K : PySem.W.Frag} {t : TA} {f : En → Ot (List D)} (ht : ∀ σ H Q, tPL K cm W f σ H Q → t σ H Q) (hm : MutR K cm r m) {D0 : Ends} {σ : L2.St} {H : Hp} (q : tS K cm W P (sMut i π m f) D0 σ H) :
    tPth K cm i π σ H fun x H1 => tyV K "list" x H1 ∧ t σ H1 fun xs H2 => r x xs H2 fun _ H3 => D0.nx σ H3 := by
  obtain ⟨Z, ρ, Fs, ok, q⟩ := q
  unfold sMut at q
  split at q
  · rename_i d js es hp
    obtain ⟨h1, h2, h3, h4⟩ := placeOf_eq hp
    obtain ⟨v, a, us, Es, hs, rc, ha, c, l, hEs, ndE, aE, kk⟩ := ok.mutP h1 h3 h4
    refine ⟨Z, ρ, d, js, v, _, hs, h1, h2, rc, .inl ⟨rfl, us, .inl c.2.1⟩, ht _ _ _ (on_goL ok q fun ds vs H1 Z1 Gs e r1 q1 => ?_)⟩
    split at q1
    · rename_i hc
      split at q1
      · rename_i es' hm'
        have o := ok.many r1 hc
        have l1 : RepL K cm H1 ⟨Z1.f, Z.b, fun _ => False⟩ es us Es := l.grow r1.ext.gr r1.ext.f (fun _ h => h) fun x h => (ok.t x h).elim
        have fr : ∀ a ∈ Gs.flatten, H a = none := fun a h => (r1.fr a h).elim id fun q => nomatch q
        obtain ⟨us', Es', l2, sub, nd, fin⟩ := hm H1 ⟨Z1.f, Z.b, fun _ => False⟩ a us es Es ds vs Gs es' (r1.ext.gr _ _ (c.1 (by decide))) l1 o.rep (fun x hx e => mut_ne (ok.mu a ha) (e ▸ fr x hx)) hm'
        have nd2 := List.nodup_append.mp o.nd
        have ndEG : (Es.flatten ++ Gs.flatten).Nodup := List.nodup_append.mpr ⟨ndE, nd2.2.1, fun x hx y hy e => nd2.2.2 x (hEs x hx) y hy e⟩
        refine fin _ fun y => ?_
        obtain ⟨Fs', ok', sub'⟩ := kk H1 Z1 ds vs Gs r1.ext o (.lst .own) es' us' Es' (.lst us') rfl ⟨fun _ => upd_same, .inl upd_same, trivial⟩ trivial l2 sub (nd ndEG)
        exact q1 σ _ _ Fs' (.put r1.ext ha sub' fr) ok'
      · exact q1.elim
    · exact q1.elim
  · exact q.elim
theorem ss_mut (slot : Slot "list" name id) (hty : typeOf (.builtin id) = pure (.type "method_descriptor")) (hr : MtR X id r) (hm : MutR X.K cm r m) (ho : SPth X cm o i π) (ha : SA X cm W (e :: es) (eL fs))
    (hsw : swapsWith (.Call (.Attribute o name apos) (e :: es) [] cpos) none pos.line X.env = pure false := by rfl)
    (hbase : attributeBase o name X.env (eval o X.env) = eval o X.env := by rfl)
    (hfew : ((backTo cpos (starEach (e :: es) X.env)).all (fun x => !x.1) && (backToKw cpos (keywordEach [] X.env)).all (fun x => x.1.isSome)
      && decide ((e :: es).length + ([] : List Keyword).length + (if ([] : List Keyword).isEmpty then 0 else 1) < 30)) = true := by rfl)
    (hline : (apos.endLine == cpos.line) = true := by rfl) (hs : starEach (e :: es) X.env = (false, eval e X.env) :: starEach es X.env := by rfl) (hplain : (backTo cpos (starEach es X.env)).any (·.1) = false := by rfl) :
    SS X cm W P (.Expr (.Call (.Attribute o name apos) (e :: es) [] cpos) pos) (sMut i π m (eL fs)) :=
  PS.imp (ps_expr (pe_bm PySem.F.plainAttrs_list slot hty hr ho ha hbase hfew hline hs hplain) hsw) fun D0 σ H q => mut_end (fun _ _ _ h => h) hm q
end

/-! ### o[i] = v -/
def putD (k : Kd) (es : List D) (key x : D) : Option (Kd × List D) := match k with
  | .lst .own => match key with
    | .int z => match ixN es.length z with
      | some j => some (.lst .own, es.set j x)
      | none => none
    | _ => none
  | _ => none
section
variable {K : PySem.W.Frag} {cm : Cm} {H H1 H' : Hp} {Z Z1 Z' : Zn} {σ : L2.St} {ρ : En} {Fs : List (List Addr)} {P : List Nat} {W : WX}
theorem Reach.move {O : Addr → Prop} (m : CellMove K cm H H' Z Z' id (fun _ => True)) : ∀ (js : List Nat) {d : D} {v v0 : V}, Reach K cm H Z d v js v0 → Reach K cm H' Z' d v js v0
  | [], d, v, v0, h => by cases d <;> exact h
  | j :: js, d, v, v0, h => by
    cases d with
    | nd k ds =>
      obtain ⟨a, vs, vj, dj, rfl, c, el, e1, e2, r⟩ := h
      have cc := m a k vs c fun _ => trivial
      rw [Kd.mapF_id] at cc
      exact ⟨a, vs, vj, dj, rfl, cc, el, e1, e2, Reach.move (O := O) m js r⟩
    | _ => exact h.elim
/-- two values, a place between -/
theorem two_mid {f g : En → Ot D} {i : Nat} {π : Pi'} {Q : List V → Hp → Prop} {R : V → V → V → Hp → Prop} {v0 : V} (ok : OkP K cm H σ ρ Fs Z) (h : FinL K cm W σ H Z Q (eL [f, g] ρ)) (mid : ∀ H1 Z1, Ext H Z H1 Z1 → ∀ Q' : VK, Q' v0 H1 → tPth K cm i π σ H1 Q') (hQ : ∀ x y H', Q [x, y] H' → R v0 x y H') :
    tP K cm W f σ H (fun x H1 => tPth K cm i π σ H1 fun o H2 => tP K cm W g σ H2 (fun y H3 => R o x y H3)) := by
  simp only [eL] at h
  refine tP_bind ok (fun q => ?_) (fun d q v H1 Z1 F r => ?_) (fun x q => ?_)
  · rw [q] at h; exact h
  · rw [q, Ot.bind_ok] at h
    refine mid H1 Z1 r.ext _ (tP_bind (ok.ext r.ext) (fun q2 => ?_) (fun d2 q2 v2 H2 Z2 F2 r2 => ?_) (fun x q2 => ?_))
    · rw [q2] at h; exact h
    · rw [q2] at h
      exact hQ _ _ _ (h [v, v2] H2 Z2 _ (ResL.cons r (ResL.cons r2 (.nil ((ok.ext r.ext).dom.ext r2.ext)))))
    · rw [q2] at h; exact fun cls dd H' Z' ex xr => h cls dd H' Z' (r.ext.trans ex) xr
  · rw [q] at h; exact h
def sPut (i : Nat) (π : Pi') (fv fi : En → Ot D) : Mst := fun ρ => match placeOf i π ρ with
  | some (d, js, k, es) => sOnL (eL [fv, fi]) (fun ds ρ => match ds with
    | [x, y] => if noT x && isAt y then (match putD k es y x with
      | some (k', es') => some (.nx, putAt i ρ d js (.nd k' es'))
      | none => none) else none
    | _ => none) ρ
  | none => none
/-- what o[i] = v makes -/
theorem put_ok {a : Addr} {k k' : Kd} {us : List V} {es es' : List D} {Es : List (List Addr)} {key x : D} {ky v : V} {F G : List Addr} (c : Cell K cm H Z a k us) (l : RepL K cm H Z es us Es) (rk : Rep K cm H Z key ky G) (rx : Rep K cm H Z x v F) (h : putD k es key x = some (k', es')) :
    ∃ us' Es' o', k'.isOwn = true ∧ Cell K cm (L2.upd H a o') Z a k' us' ∧ Mut (some o') ∧ RepL K cm H Z es' us' Es' ∧ (∀ y ∈ Es'.flatten, y ∈ Es.flatten ∨ y ∈ F) ∧ ((Es.flatten ++ F).Nodup → Es'.flatten.Nodup) ∧ ∀ Q : Hp → Prop, Q (L2.upd H a o') → rSetL (.ref a) ky v H Q := by
  unfold putD at h
  split at h
  · split at h
    · split at h
      · rename_i _ z _ j hj
        cases h
        have e : ky = .int z := rk.1
        subst e
        have hl := l.len.1
        refine ⟨us.set j v, Es.set j F, .lst (us.set j v), rfl, ⟨fun _ => upd_same, .inl upd_same, trivial⟩, trivial, l.set j rx, fun y hy => set_mem hy, fun nd => ?_, fun Q q => ⟨a, us, z, j, rfl, rfl, c.1 (by decide), by rw [hl]; exact hj, q⟩⟩
        rw [List.nodup_append] at nd
        exact set_nodup nd.1 nd.2.1 fun y hy hf => nd.2.2 y hy y hf rfl
      · cases h
    · cases h
  · cases h
theorem put_end {fv fi : En → Ot D} {i : Nat} {π : Pi'} {D0 : Ends} (q : tS K cm W P (sPut i π fv fi) D0 σ H) :
    tP K cm W fv σ H fun x H1 => tPth K cm i π σ H1 fun o H2 => tP K cm W fi σ H2 fun y H3 => rSetL o y x H3 fun H4 => D0.nx σ H4 := by
  obtain ⟨Z, ρ, Fs, ok, q⟩ := q
  unfold sPut at q
  split at q
  · rename_i d js k es hp
    obtain ⟨h1, h2, h3, h4⟩ := placeOf_eq hp
    obtain ⟨v, a, us, Es, hs, rc, ha, c, l, hEs, ndE, aE, kk⟩ := ok.mutP h1 h3 h4
    have key := on_goF (K := K) (cm := cm) (W := W) (P := P) (D0 := D0) (Q := fun vs H3 => ∃ x y, vs = [x, y] ∧ rSetL (.ref a) y x H3 fun H4 => D0.nx σ H4) ok q (fun ds vs H1 Z1 Gs e r1 q1 => by
      split at q1
      · rename_i x y
        split at q1
        · rename_i hc
          rw [Bool.and_eq_true] at hc
          split at q1
          · rename_i k' es' hm'
            obtain ⟨vx, vy, Gx, Gy, rfl, rfl, rx, ry⟩ := repL2 r1.rep
            have gy : Gy = [] := by
              cases y with
              | nd k ds => cases hc.2
              | _ => exact ry.2
            subst gy
            have o := ok.many (ds := [x, y]) r1 (by
              rw [List.all_cons, hc.1, List.all_cons, Bool.true_and]
              cases y with
              | nd k ds => cases hc.2
              | _ => rfl)
            obtain ⟨vx', vy', Gx', Gy', e1, e2, rx', ry'⟩ := repL2 o.rep
            cases e1
            cases e2
            have mv : CellMove K cm H H1 Z ⟨Z1.f, Z.b, fun _ => False⟩ id (fun _ => True) := cell_grow r1.ext.gr r1.ext.f (fun _ h => h) fun x h => (ok.t x h).elim
            have l1 : RepL K cm H1 ⟨Z1.f, Z.b, fun _ => False⟩ es us Es := l.stay mv fun _ _ => trivial
            have c1 := mv a k us c fun _ => trivial
            rw [Kd.mapF_id] at c1
            have fr : ∀ a ∈ ([Gx, []] : List (List Addr)).flatten, H a = none := fun a h => (r1.fr a h).elim id fun q => nomatch q
            obtain ⟨us', Es', o', g1, g2, g3, g4, g5, g6, fin⟩ := put_ok c1 l1 ry' rx' hm'
            have nd2 := List.nodup_append.mp o.nd
            have fl : ([Gx, []] : List (List Addr)).flatten = Gx := by simp
            have ndEG : (Es.flatten ++ Gx).Nodup := List.nodup_append.mpr ⟨ndE, by rw [← fl]; exact nd2.2.1, fun x hx y hy e => nd2.2.2 x (hEs x hx) y (by rw [fl]; exact hy) e⟩
            obtain ⟨Fs', ok', sub'⟩ := kk H1 Z1 _ _ _ r1.ext o k' es' us' Es' o' g1 g2 g3 g4 (by rw [fl]; exact g5) (g6 ndEG)
            exact ⟨vx, vy, rfl, fin _ (q1 σ _ _ Fs' (.put r1.ext ha sub' fr) ok')⟩
          · exact q1.elim
        · exact q1.elim
      · exact q1.elim)
    refine (two_mid (i := i) (π := π) (v0 := .ref a) ok.pure key (fun H1 Z1 ex Q' q' => ⟨Z1, ρ, d, js, v, _, hs, h1, h2, ?_, q'⟩) (R := fun o x y H3 => rSetL o y x H3 fun H4 => D0.nx σ H4) fun x y H' ⟨x', y', e, q⟩ => by cases e; exact q)
    exact rc.move (O := fun _ => True) (cell_grow (Z := Z) ex.gr (fun x h => ex.f x h) (fun x h => by rw [ex.b]; exact h) fun x h => (ok.t x h).elim) js
  · exact q.elim
end
section
variable {X : Cx} {cm : Cm} {W : WX} {P : List Nat} {o ix value : Expr} {pos' pos : Pos} {i : Nat} {π : Pi'} {fv fi : En → Ot D}
theorem ss_put (ho : SPth X cm o i π) (hv : SE X cm W value fv) (hi : SE X cm W ix fi)
    (ha : ∀ v, assign (.Subscript o ix pos') X.env v = (do
      let ov ← holding [v] (eval o X.env)
      let iv ← holding [v, ov] (eval ix X.env)
      standAt pos'
      holding [v, ov, iv] (setItem ov iv v)
      release [v, ov, iv] []) := by intro _; rfl)
    (hs : swapsWithSole [.Subscript o ix pos'] value pos.line X.env = pure false := by rfl) (hw : swappedStores [.Subscript o ix pos'] value X.env = pure none := by rfl)
    (h1 : (assignEach [.Subscript o ix pos'] X.env).map (·.2) = [assign (.Subscript o ix pos') X.env] := by rfl) : SS X cm W P (.Assign [.Subscript o ix pos'] value pos) (sPut i π fv fi) :=
  PS.imp (ps_asg hv (pg_sub ho hi (set_list) ha) hs hw h1) fun D0 σ H q => put_end q
end
end OB

namespace OB
open PySem PySem.Spec PyProof.Rows L2

section
variable {prog : Program} {w : World} {A : Around} {E : Value → Shared → Prop} {s : Shared}
theorem call_join_rev {x : Str} {t : Tok} {zs : List V} {ys : List Str} {it l : Addr} {its : List Value} {Q : Value → Shared → Prop} (hh : A.handled = none) (hit : s.heap.IsRevIter it l ((its.toArray.size : Int) - 1)) (hl : s.heap.IsList l its.toArray) (hne : l ≠ it)
    (hn : its.toArray.size ≤ sizeLine) (hv : Vals zs its) (hys : zs.reverse = ys.map V.str) (hok : (ys.map (·.length)).sum + ys.length * x.length ≤ 16777216)
    (hq : ∀ (h' : Heap) (t' : Tok) (tk : Nat), (∀ b o, b ≠ it → s.heap.get? b = some o → h'.get? b = some o) → Q (.str (Txt.join x ys) t') { s with heap := h', toks := tk }) :
    wpAny (model prog w) A (call (.builtin "str.join") [.str x t, .ref it]) Q E s := by
  have hT : s.TypeIs (.ref it) "list_reverseiterator" := hit.typeIs
  refine wpAny_call (codeAny_call_builtin F.slot_str_join.plain F.entry_str_join (F.slot_str_join.check _ _ _ _ _ _ _ _ (typeIs_str _ _ _) (F.args_str_join_2 _ _) ?_))
  rw [PySem.join_tree_other]
  refine wpAny_bind (wpAny_typeOf hT ?_)
  show wpAny _ A.in1 ((pyIter (.ref it)).tryCatch _ >>= fun it => collect it >>= fun items => joinTail x items) _ _ s
  refine wpAny_bind (wpAny_tryCatch (wpAny_pyIter_revIter hit ?_))
  refine wpAny_bind (RT.collect_rev (A := A.in1) hh hit hl hne hn fun h' tk acc hk hacc => ?_)
  have hs : StrsAre acc.toList ys := strs_of_vals (by rw [← hys]; exact RT.vals_rev hv hacc)
  obtain ⟨l, hl, ht⟩ := strsAre_values hs
  subst ht
  rw [hl]
  have hok' := joinOk_of hok
  unfold JoinOk at hok'
  rw [Bool.not_eq_true'] at hok'
  have g : Gives (joinTail x (strValues l)) (joinMade x l) := by
    have g0 := gives_joinTail x l hok'
    cases l with
    | nil => exact g0
    | cons p r => cases r with
      | nil => exact g0
      | cons q r' => exact g0
  exact g prog w A (wants Q E) _ (post_join l ⟨joinFit_length hok', fun t' k => hq h' t' k hk⟩)
end
def tJoinRev (K : PySem.W.Frag) (to te : TE) : TE := fun σ H Q => to σ H fun x H1 => (∃ a, x = .str a) ∧ te σ H1 fun v H2 => ∃ (a : Str) (p : Addr) (ys : List Str), x = .str a ∧ v = .ref p ∧ SqL K H2 p (ys.map V.str).reverse ∧
  (ys.map (·.length)).sum + ys.length * a.length ≤ 16777216 ∧ Q (.str (Txt.join a ys)) H2
section
variable {X : Cx}
theorem pe_joinRev {o e : Expr} {to te : TE} {p apos pos pos2 : Pos} (hc : X.calm = true) (ho : PE X o to) (hg2 : Gl X "reversed") (hm2 : X.mg "reversed" = none) (he : PE X e te)
    (hs : starEach [e] X.env = (false, eval e X.env) :: starEach [] X.env := by rfl)
    (hs1 : starEach [.Call (.Name "reversed" p) [e] [] pos2] X.env = [(false, eval (.Call (.Name "reversed" p) [e] [] pos2) X.env)] := by rfl)
    (hbase : attributeBase o "join" X.env (eval o X.env) = eval o X.env := by rfl) (hline : (apos.endLine == pos.line) = true := by rfl) :
    PE X (.Call (.Attribute o "join" apos) [.Call (.Name "reversed" p) [e] [] pos2] [] pos) (tJoinRev X.K to te) := by
  refine ⟨fun pins s σ H Q I h => ?_⟩
  refine PySem.Call_method1 hbase hs1 hline (thn (ho.run pins s σ H _ I h) fun v s1 ⟨x, H1, I1, r1, q1⟩ => ?_)
  obtain ⟨⟨a, rfl⟩, q1⟩ := q1
  obtain ⟨t, rfl⟩ := _root_.id r1
  refine ⟨"str", _, F.plainAttrs_str, F.slot_str_join, F.type_str_join, typeIs_str _ _ _, (fun _ e => nomatch e), Calls.callWith_builtin rfl (Calls.evalArgs_plain (Calls.spliced_cons ?_))⟩
  refine Call_ (ld_blt I1 hg2 hm2 PyProof.Rows.boot_reversed (PyProof.Rows.callWith_type1 (args_cons (thn (he.run pins s1 σ H1 _ I1 q1) fun u s2 ⟨v, H2, I2, r2, q2⟩ => args_nil ?_) hs) hs rfl))
  obtain ⟨a', q, ys, ea, ev, hq, hz, q2⟩ := q2
  cases ea
  subst ev
  obtain rfl : u = Value.ref q := r2
  obtain ⟨its, rv, pl, hsz⟩ := I2.list hq
  refine call_reversed_list pl.isList (Calls.spliced_nil ?_)
  have k0 : ∀ b o, s2.heap.get? b = some o → (s2.heap.push (revObj q ((its.toArray.size : Int) - 1))).get? b = some o := fun b o e => Heap.get?_push_of_some _ e
  have I3 : Inv X pins σ H2 { s2 with heap := s2.heap.push (revObj q ((its.toArray.size : Int) - 1)) } := I2.kept (t' := s2.toks) k0
  obtain ⟨f0, f1, f2, f3, f4, f5⟩ := I2.fpOk (H' := H2) (b := s2.heap.objs.size) (Nat.le_refl _) (I2.hok.fresh (Nat.le_refl _))
  have hl := pl.isList
  obtain ⟨ol, hol, _⟩ := id hl
  have hne : q ≠ s2.heap.objs.size := Nat.ne_of_lt (Heap.lt_size hol)
  have hn : its.toArray.size ≤ sizeLine := by rw [List.size_toArray, ← rv.length]; exact hsz
  refine call_join_rev (s := { s2 with heap := s2.heap.push (revObj q ((its.toArray.size : Int) - 1)) }) (I2.ok.hd hc) ⟨_, Heap.get?_push_size _ rfl, rfl, rfl⟩ (hl.push _) hne hn rv (by rw [List.reverse_reverse]) hz fun h' t' tk hk => ?_
  exact ⟨.str _, H2, I3.turned (t' := tk) (fun b o hb e => hk b o hb e) f0 f1 f3 f4 f5, ⟨t', rfl⟩, q2⟩
end
theorem tP_mono {K : PySem.W.Frag} {cm : Cm} {W : WX} {f : En → Ot D} {σ : L2.St} {H : Hp} {Q Q' : VK} (q : tP K cm W f σ H Q) (h : ∀ v H', Q v H' → Q' v H') : tP K cm W f σ H Q' := by
  obtain ⟨Z, ρ, Fs, ok, q⟩ := q
  refine ⟨Z, ρ, Fs, ok, ?_⟩
  cases e : f ρ with
  | no => rw [e] at q; exact q
  | ok d => rw [e] at q; exact fun v H' Z' F r => h _ _ (q v H' Z' F r)
  | ex x => rw [e] at q; exact q
def pJoinRev : List D → Option D
  | [.str a, .nd (.lst _) ds] => match strsD ds with
    | some ys => if (ys.map (·.length)).sum + ys.length * a.length ≤ 16777216 then some (.str (Txt.join a ys.reverse)) else none
    | none => none
  | _ => none
def rJoinRev (K : PySem.W.Frag) : V → List V → Hp → VK → Prop := fun x xs H Q => ∃ (a : Str) (p : Addr) (ys : List Str), x = .str a ∧ xs = [.ref p] ∧ SqL K H p (ys.map V.str).reverse ∧ (ys.map (·.length)).sum + ys.length * a.length ≤ 16777216 ∧ Q (.str (Txt.join a ys)) H
theorem ok_joinRev {K : PySem.W.Frag} {cm : Cm} : OkPr K cm (rM (rJoinRev K)) pJoinRev := by
  intro H Z ds vs Fs d dm rp nd nf e Q q
  unfold pJoinRev at e
  split at e
  · rename_i a f ds'
    split at e
    · rename_i ys hy
      split at e
      · rename_i hz
        cases e
        obtain ⟨v, u, F, G, rfl, rfl, ⟨rfl, rfl⟩, r⟩ := repL2 rp
        obtain ⟨p, vs', Fs', rfl, c, l, rfl⟩ := r
        have e2 := strsD_eq hy
        subst e2
        have e3 := repL_strS l
        subst e3
        refine ⟨_, _, rfl, a, p, ys.reverse, rfl, rfl, .inl ?_, ?_, q _ H Z [] (.atom (.refl dm) rep_str)⟩
        · rw [List.map_reverse, List.reverse_reverse]; exact c.2.1
        · rw [List.map_reverse, List.sum_reverse, List.length_reverse]; exact hz
      · cases e
    · cases e
  · cases e
def pSIdx : List D → Option D
  | [.str a, .str b] => match Builtin.Str.occurrences a b 0 a.length 1 with
    | i :: _ => some (.int (i : Nat))
    | [] => none
  | _ => none
theorem ok_sindex {K : PySem.W.Frag} {cm : Cm} : OkPr K cm (rM (fun x xs H Q => ∃ a b i rest, x = .str a ∧ xs = [.str b] ∧ Builtin.Str.occurrences a b 0 a.length 1 = i :: rest ∧ Q (.int (i : Nat)) H)) pSIdx := by
  intro H Z ds vs Fs d dm rp nd nf e Q q
  unfold pSIdx at e
  split at e
  · split at e
    · rename_i i rest hy
      cases e
      obtain ⟨v, u, F, G, rfl, rfl, ⟨rfl, rfl⟩, ⟨rfl, rfl⟩⟩ := repL2 rp
      exact ⟨_, _, rfl, _, _, i, rest, rfl, rfl, hy, q _ H Z [] (.atom (.refl dm) rep_int)⟩
    · cases e
  · cases e
section
variable {X : Cx} {cm : Cm} {W : WX} {P : List Nat} {o e tg : Expr} {f g : En → Ot D} {p apos pos pos2 : Pos}
theorem s_joinRev (hc : X.calm = true) (ho : SE X cm W o f) (hg2 : Gl X "reversed") (hm2 : X.mg "reversed" = none) (he : SE X cm W e g)
    (hs : starEach [e] X.env = (false, eval e X.env) :: starEach [] X.env := by rfl)
    (hs1 : starEach [.Call (.Name "reversed" p) [e] [] pos2] X.env = [(false, eval (.Call (.Name "reversed" p) [e] [] pos2) X.env)] := by rfl)
    (hbase : attributeBase o "join" X.env (eval o X.env) = eval o X.env := by rfl) (hline : (apos.endLine == pos.line) = true := by rfl) :
    SE X cm W (.Call (.Attribute o "join" apos) [.Call (.Name "reversed" p) [e] [] pos2] [] pos) (eM "str" pJoinRev f [g]) :=
  PE.imp (pe_joinRev hc ho hg2 hm2 he hs hs1 hbase hline) fun σ H Q q => tP_mono (m_end ok_joinRev q) fun x H1 ⟨ty, q1⟩ => by
    refine ⟨?_, ?_⟩
    · cases x with
      | str a => exact ⟨a, rfl⟩
      | ref p =>
        exfalso
        rcases ty with ⟨h, _⟩ | ⟨h, _⟩ | ⟨h, _⟩ | ⟨h, _⟩ <;> exact absurd h (by decide)
      | int i => exact absurd (show ("str" : String) = "int" from ty) (by decide)
      | _ => exact ty.elim
    · obtain ⟨Z, ρ, Fs, ok, q2⟩ := q1
      exact one_of ⟨Z, ρ, Fs, ok, by
        cases e : eL [g] ρ with
        | no => rw [e] at q2; exact q2
        | ok d =>
          rw [e] at q2
          intro vs H' Z' Gs r
          obtain ⟨a, p, ys, h1, h2, h3, h4, h5⟩ := q2 vs H' Z' Gs r
          exact ⟨_, h2, a, p, ys, h1, rfl, h3, h4, h5⟩
        | ex x => rw [e] at q2; exact q2⟩
/-- a, b = a value, what is new in it frozen -/
def sTgt (f : En → Ot D) (t : D → En → Option En) : Mst := sOn f fun d ρ => if noT d then (match t (toFrz d) ρ with
  | some ρ1 => some (.nx, ρ1)
  | none => none) else none
theorem ss_tgt {g : TG} {S : List Nat} {t : D → En → Option En} (hS : (S.all fun i => !P.contains i) = true) (he : SE X cm W e f) (hg : PG X tg g) (hgo : OkTg X.K cm S g t) (hs : swapsWithSole [tg] e pos.line X.env = pure false := by rfl) (hw : swappedStores [tg] e X.env = pure none := by rfl)
    (h1 : (assignEach [tg] X.env).map (·.2) = [assign tg X.env] := by rfl) : SS X cm W P (.Assign [tg] e pos) (sTgt f t) := PS.imp (ps_asg he hg hs hw h1) fun D0 σ H q => by
  obtain ⟨Z, ρ, Fs, ok, q⟩ := q
  refine on_go ok q fun d v H1 Z1 F e r q1 => ?_
  have q2 := q
  unfold sTgt sOn at q2
  rw [e] at q2
  dsimp only at q2
  split at q2
  · rename_i nt
    split at q2
    · rename_i ρ1 ht
      have ok1 := ok.ext r.ext
      have eb : Z1.b = Z.b := r.ext.b
      have hm := Rep.mut d r.rep
      let Z2 : Zn := ⟨fun a => Z1.f a ∨ a ∈ F, Z.b, fun _ => False⟩
      have ok2 : RepE X.K cm H1 Z2 σ ρ Fs := ⟨ok1.rep.lσ, ok1.rep.lF, fun i d q => by
        obtain ⟨v, F, a, b, c⟩ := ok1.rep.get i d q
        exact ⟨v, F, a, b, c.grow (.refl _) (fun _ h => .inl h) (fun _ h => h) fun _ h => h⟩⟩
      have rr : Rep X.K cm H1 Z2 (toFrz d) v [] :=
        Rep.give (Z := ⟨Z1.f, Z.b, fun _ => False⟩) (g := Fl.toFrz) (O := fun a => a ∈ F) (cell_flag (fun a ha f ef _ => by subst ef; exact .inr ha) (fun a f hf hz => by cases f with
          | own => exact absurd rfl hf
          | frz => exact .inl hz
          | bor => exact hz
          | tmp => exact hz.elim) (fun f e => by cases f <;> first | rfl | cases e)) (fun f e => by cases f <;> cases e) d (by
            have := noT_rep (t' := fun _ => False) r.rep nt
            rw [eb] at this
            exact this) fun a h => h
      have nF : ∀ a ∈ F, H a = none := fun a h => r.new a h
      refine hgo H1 Z2 (toFrz d) v σ ρ Fs ρ1 rr ok2 ht _ fun σ1 Fs1 r1 sb _ kpr => ?_
      refine q2 σ1 H1 Z2 Fs1 ⟨.grow r.ext.gr, fun a h => .inl (sb.subset h), fun a h => .inl (r.ext.f a h), fun a h => ?_, rfl, fun j hj => kpr j fun hjS => ?_⟩ ⟨r1, ⟨fun a h => h.elim (r.ext.fd a) fun h => mut_ne (hm a h), fun a h q => ok.dom.b a h (r.ext.gr.back q), fun _ h => h.elim⟩, fun a h => ok1.mu a (sb.subset h), ok1.nd.sublist sb, fun a h => ⟨fun z => z.elim (ok1.nz a (sb.subset h)).1 fun z => mut_ne (ok.mu a (sb.subset h)) (nF a z), (ok1.nz a (sb.subset h)).2⟩, fun _ h => h⟩
      · exact h.elim (fun h => (r.ext.fn a h).elim .inl fun q => .inr (.inr q)) fun h => .inr (.inr (nF a h))
      · have := List.all_eq_true.mp hS j hjS
        rw [Bool.not_eq_true'] at this
        rw [List.contains_iff_mem.mpr hj] at this
        cases this
    · exact q2.elim
  · exact q2.elim
end
end OB

namespace OB
open PySem PySem.Calls PySem.NumText PyProof.Rows

def NoDig (h : Heap) : Prop := ∀ M : Model, PySem.W.Looks M h (nsGet cStatics "sys.int_max_str_digits") none
theorem wp_intMax {M : Model} {A : Around} {E : Value → Shared → Prop} {s : Shared} {Q : Nat → Shared → Prop} (hd : NoDig s.heap) (h : Q 4300 s) : wpAny M A Builtin.intMaxStrDigits Q E s := by
  unfold Builtin.intMaxStrDigits
  exact wpAny_bind (hd _ _ _ _ _ (fun _ _ e => e) (wpAny_pure h))
theorem wp_text2 {M : Model} {A : Around} {E : Value → Shared → Prop} {s : Shared} {Q : Value → Shared → Prop} {v : Value} {text : List Nat} {n : Int}
    (hs : ¬ (text.takeWhile (· != 0)).length ≤ 640) (hr : (int_private% "readNumeral") 4300 10 (text.takeWhile (· != 0)) = (int_private% "Numeral.value") n)
    (ha : ((text.takeWhile (· != 0)).length == text.length) = true) (hd : NoDig s.heap) (h : Q (.int n s.toks) { s with toks := s.toks + 1 }) :
    wpAny M A ((int_private% "intFromText") v text 10) Q E s := by
  have hd2 := @wp_intMax M A E s
  obtain ⟨hp, g, d, tk, os⟩ := s
  repeat (any_goals (first
    | assumption
    | (with_reducible refine wpAny_ite_false (decide_eq_false hs) ?_)
    | (with_reducible refine hd2 hd ?_)
    | wp_step))
  all_goals (try rw [hr])
  all_goals (try dsimp only)
  repeat (any_goals (first
    | assumption
    | (with_reducible refine wpAny_ite_true (decide_eq_true ha) ?_)
    | wp_step))
structure Hid (p : Prop) : Prop where
  out : p
theorem meets_text2 {x : PySem.Str} {u : Tok} {n : Int} (hl : ¬ (numSeenOf x).length ≤ 640) (hx : x.length ≤ sizeLine) (hn : PySem.intText? x = some n) :
    Meets (Builtin.«int.__new__» ⟨[.type "int", .str x u], []⟩) (fun A R s => NoDig s.heap ∧ (Made.int n).post (fun v s' => R (.ok (.ret v)) s') s) := fun prog w A R s h => by
  have key : ∀ (M : Model) (A : Around) (E : Value → Shared → Prop) (s : Shared) (Q : Value → Shared → Prop), NoDig s.heap → (Made.int n).post Q s → wpAny M A (Builtin.«int.__new__» ⟨[.type "int", .str x u], []⟩) (fun fin s' => ∃ v, fin = .done (.ret v) ∧ Q v s') E s := fun M A E s Q hd h => by
    obtain ⟨hp, g, d, tk, os⟩ := s
    have f1 := F.conv_sub_int
    have f2 := F.madeHere_int
    have f3 := PySem.W.KIN.str_int
    have f4 := PySem.W.KIN.str_idx
    have f5 := PySem.W.KIN.str_trunc
    have f6 : typeOf (.str x u) = pure (.type "str") := rfl
    have hr : (int_private% "readNumeral") 4300 10 (numSeenOf x) = (int_private% "Numeral.value") n ∧ ((numSeenOf x).length == (numTextOf x).length) = true := by
      rcases read4300 x hx with ⟨m, h1, h2, h3⟩ | ⟨h1, _⟩
      · rw [hn] at h1
        injection h1 with h1
        subst h1
        exact ⟨h3, h2⟩
      · rw [hn] at h1
        cases h1
    have hk := Hid.mk (And.intro hl (And.intro hr hd))
    clear hr hl hn hd
    repeat (any_goals (first
      | assumption
      | ((with_reducible show wpAny _ _ ((int_private% "intFromText") _ _ _) _ _ _); refine wp_text2 hk.out.1 hk.out.2.1.1 hk.out.2.1.2 hk.out.2.2 ?_)
      | wp_step))
    all_goals first | exact ⟨_, rfl, h⟩ | skip
  refine wpAny_mono (key _ _ _ s _ h.1 h.2) (fun fin s' q => ?_) fun _ _ z => z
  obtain ⟨v, rfl, q⟩ := q
  exact q
theorem gives_text1 {x : PySem.Str} {u : Tok} {n : Int} (hs : (numSeenOf x).length ≤ 640) (hn : PySem.intText? x = some n) : Gives (Builtin.«int.__new__» ⟨[.type "int", .str x u], []⟩) (.int n) :=
  .of_wp fun M A E s Q h => by
    obtain ⟨hp, g, d, tk, os⟩ := s
    have f1 := F.conv_sub_int
    have f2 := F.madeHere_int
    have f3 := PySem.W.KIN.str_int
    have f4 := PySem.W.KIN.str_idx
    have f5 := PySem.W.KIN.str_trunc
    have f6 : typeOf (.str x u) = pure (.type "str") := rfl
    have hr : (int_private% "readNumeral") 0 10 (numSeenOf x) = (int_private% "Numeral.value") n ∧ ((numSeenOf x).length == (numTextOf x).length) = true := by
      rcases read0 x hs with ⟨m, h1, h2, h3⟩ | ⟨h1, _⟩
      · rw [hn] at h1
        injection h1 with h1
        subst h1
        exact ⟨h3, h2⟩
      · rw [hn] at h1
        cases h1
    have hk := Hid.mk (And.intro hs hr)
    clear hs hr hn
    repeat (any_goals (first
      | assumption
      | ((with_reducible show wpAny _ _ ((int_private% "intFromText") _ _ _) _ _ _); refine PySem.W.KIN.wp_text hk.out.1 hk.out.2.1 hk.out.2.2 ?_)
      | wp_step))
    all_goals first | exact ⟨_, rfl, h⟩ | skip
section
open PySem.Spec L2
variable {X : Cx}
theorem call_int_long (hdg : PySem.W.nsIn X.K cStatics "sys.int_max_str_digits" = some none) : CallR X (.type "int") (fun xs H Q => ∃ a n, xs = [.str a] ∧ PySem.intText? a = some n ∧ a.length ≤ 4300 ∧ Q (.int n) H) := by
  intro pins s σ H xs us Q I rs h
  obtain ⟨a, n, rfl, hn, hl, h⟩ := h
  cases rs with
  | cons r1 rs =>
    cases rs
    obtain ⟨t, rfl⟩ := r1
    by_cases h6 : a.length ≤ 640
    · exact PySem.W.KIN.call_text hn h6 ⟨.int n, H, I.tok _, ⟨_, rfl⟩, h⟩
    · by_cases h7 : (numSeenOf a).length ≤ 640
      · exact call_int_1 (gives_text1 h7 hn).meets (show (Made.int n).post _ s from ⟨rfl, .int n, H, I.tok _, ⟨_, rfl⟩, h⟩)
      · refine call_int_1 (meets_text2 h7 (Nat.le_trans hl (by decide)) hn) ⟨fun M => PySem.W.looks_nsIn I.kIn hdg, (show (Made.int n).post _ s from ⟨rfl, .int n, H, I.tok _, ⟨_, rfl⟩, h⟩)⟩
theorem call_int4 (hdg : PySem.W.nsIn X.K cStatics "sys.int_max_str_digits" = some none) : CallR X (.type "int") (fun xs H Q => (((∃ i, xs = [.int i] ∧ Q (.int i) H) ∨ ∃ k, xs = [.bl k] ∧ Q (.int (if k then 1 else 0)) H) ∨ ∃ a n, xs = [.str a] ∧ PySem.intText? a = some n ∧ a.length ≤ 4300 ∧ Q (.int n) H)) :=
  CallR.or2 call_int1 (call_int_long hdg)
end
def pInt4 : List D → Option D
  | [.int i] => some (.int i)
  | [.bl b] => some (.int (if b then 1 else 0))
  | [.str a] => if a.length ≤ 4300 then (PySem.intText? a).map .int else none
  | _ => none
open L2 in
theorem ok_int4 {K : PySem.W.Frag} {cm : Cm} : OkPr K cm (fun xs H Q => (((∃ i, xs = [.int i] ∧ Q (.int i) H) ∨ ∃ k, xs = [.bl k] ∧ Q (.int (if k then 1 else 0)) H) ∨ ∃ a n, xs = [.str a] ∧ PySem.intText? a = some n ∧ a.length ≤ 4300 ∧ Q (.int n) H)) pInt4 := by
  intro H Z ds vs Fs d dm rp nd nf e Q q
  unfold pInt4 at e
  split at e
  · cases e
    obtain ⟨v, F, rfl, rfl, ⟨rfl, rfl⟩⟩ := repL1 rp
    exact .inl (.inl ⟨_, rfl, q _ H Z [] (.atom (.refl dm) rep_int)⟩)
  · cases e
    obtain ⟨v, F, rfl, rfl, ⟨rfl, rfl⟩⟩ := repL1 rp
    exact .inl (.inr ⟨_, rfl, q _ H Z [] (.atom (.refl dm) rep_int)⟩)
  · split at e
    · rename_i hl
      rename_i a
      cases e2 : PySem.intText? a with
      | none => rw [e2] at e; cases e
      | some n =>
        rw [e2] at e
        cases e
        obtain ⟨v, F, rfl, rfl, ⟨rfl, rfl⟩⟩ := repL1 rp
        exact .inr ⟨_, n, rfl, e2, hl, q _ H Z [] (.atom (.refl dm) rep_int)⟩
    · cases e
  · cases e
end OB

namespace OB
open PySem PySem.Spec PyProof.Rows L2
section
variable {X : Cx} {cm : Cm} {W : WX} {P : List Nat}
variable {elt tgx iter : Expr} {ifs : List Expr} {scope : Scope} {own : List (Str × Nat)} {pos py spos : Pos} {it : En → Ot Its'} {tg : D → En → Option En} {g : TG} {S : List Nat} {c : En → Ot Bool} {tt : TT} {f : En → Ot D} {t : Expr} {i : Nat} {y : Str}
theorem ss_setC (hP : (!P.contains i) = true) (hy : X.N[i]? = some y) (hyl : X.env.scope.names.lookup y = some .local) (hsw : swapsWith (.ListComp elt [⟨tgx, iter, ifs, 0⟩] scope pos) (some (.Name y py)) spos.line X.env = pure true)
    (hc : X.calm = true) (hN : X.N.Nodup) (hi : SI X cm W tgx iter it) (ok : BlkOk X.N X.env.scope scope own) (hS : (S.all fun i => (own.map (·.2)).contains i) = true) (hgo : OkTg X.K cm S g tg)
    (hg : ∀ (s : Shared) (H : Hp) (C : Addr) (cl : List (Str × Addr)) (fp : List Addr), PG (X.blk s H scope (compEnvC scope cl C X.env) fp) tgx g) (ht : ∀ (s : Shared) (H : Hp) (C : Addr) (cl : List (Str × Addr)) (fp : List Addr), PTs (X.blk s H scope (compEnvC scope cl C X.env) fp) ifs tt)
    (hT : ∀ σ H Q, tPT X.K cm W0 c σ H Q → tt σ H Q)
    (he : ∀ (s : Shared) (H : Hp) (C : Addr) (cl : List (Str × Addr)) (fp : List Addr), SE (X.blk s H scope (compEnvC scope cl C X.env) fp) cm W0 elt f) (hs : ∀ x, foldedSetIterable iter X.env x = pure x := by intro _; rfl) :
    SS X cm W P (.Assign [.Name y py] (.ListComp elt [⟨tgx, iter, ifs, 0⟩] scope pos) spos) (sSet i (eComp it tg c f (own.map (·.2)))) :=
  ss_set hP (PS.imp (ps_setLc hc hN hy hyl hsw hi ok hg ht he hs) fun D σ H q => comp_end hgo (fun i hi => by
    have := List.all_eq_true.mp hS i hi
    simpa using this) hT q)
end

/-! ### a def by its name -/
def Good (P : Program) (w : World) (K : PySem.W.Frag) (mg : Str → Option Value) (base : Heap) (cm : Cm) (x : Str) (n k : Nat) (m : List D → Ot D) : Prop :=
  ∃ (a : Addr) (fd : FuncData) (ps : List Str), mg x = some (.ref a) ∧ PySem.W.keepIn K (.ref a) = true ∧ Binds K fd ps [] ∧ FnOk P w K mg base (L2.CX P w) k a fd ps (spP K cm n m)
def eCall0 (m : List D → Ot D) (dd : List D) : En → Ot D := fun ρ => noX (eCall m dd [] ρ)
section
variable {X : Cx} {cm : Cm} {W : WX} {x : Str} {p pos : Pos} {e : Expr} {es : List Expr} {fs : List (En → Ot D)} {k j n : Nat} {m : List D → Ot D}
theorem s_callG (tk : Takes X W) (G : Good X.prog X.w X.K X.mg X.base cm x n k m) (hr : Room j X.A) (hk : k ≤ j) (hg : Gl X x) (hn : fs.length = n) (ha : SA X cm W (e :: es) (eL fs))
    (hdb : (x == ("__debug__" : Str)) = false := by decide) (he : starEach (e :: es) X.env = (false, eval e X.env) :: starEach es X.env := by rfl) (hpl : (backTo pos (starEach es X.env)).any (·.1) = false := by rfl) :
    SE X cm W (.Call (.Name x p) (e :: es) [] pos) (eCall m [] fs) := by
  obtain ⟨a, fd, ps, hm, kp, b, F⟩ := G
  exact s_call tk F (hr.mono hk) hg hm kp b .nil rfl rfl (by rw [← hn]; rfl) ha hdb he hpl
theorem s_callG0 (G : Good X.prog X.w X.K X.mg X.base cm x 0 k m) (hr : Room j X.A) (hk : k ≤ j) (hg : Gl X x) (hdb : (x == ("__debug__" : Str)) = false := by decide) :
    SE X cm W (.Call (.Name x p) [] [] pos) (eCall0 m []) := by
  obtain ⟨a, fd, ps, hm, kp, b, F⟩ := G
  exact s_call0 F (hr.mono hk) hg hm kp b .nil rfl rfl rfl hdb
end
end OB

namespace OB
open PySem PySem.Spec PyProof.Rows L2
def isLst : Value → Bool
  | .type n => n == "list"
  | _ => false
def frZ (g : Addr → Option Obj) (as : List Addr) : PySem.W.Frag := (He.frG g as).filter fun p => !isLst p.2.cls
theorem lookup_mem {α : Type} : ∀ {l : List (Addr × α)} {a : Addr} {o : α}, l.lookup a = some o → (a, o) ∈ l
  | [], _, _, h => nomatch h
  | (b, u) :: l, a, o, h => by
    unfold List.lookup at h
    split at h
    · rename_i e
      have e : a = b := by simpa using e
      cases h; subst e
      exact List.mem_cons_self
    · exact List.mem_cons_of_mem _ (lookup_mem h)
theorem frZ_at {g : Addr → Option Obj} {as : List Addr} {a : Addr} {o : Obj} (h : (frZ g as).lookup a = some o) : g a = some o ∧ isLst o.cls = false := by
  have m := lookup_mem h
  unfold frZ at m
  rw [List.mem_filter] at m
  obtain ⟨m1, m2⟩ := m
  unfold He.frG at m1
  rw [List.mem_filterMap] at m1
  obtain ⟨b, _, e⟩ := m1
  cases q : g b with
  | none => rw [q] at e; cases e
  | some u => rw [q] at e; cases e; exact ⟨q, by simpa using m2⟩
def obsZ (n : Nat) (fa : List He.Fa) (fn : List He.DefD) (g : Addr → Option Obj) : He.AlD :=
  ((He.obsD fa fn (frZ g (He5.asA g n))).1 && He.eqO (PySem.W.nsIn (frZ g (He5.asA g n)) cStatics "sys.int_max_str_digits") (some none), (He.obsD fa fn (frZ g (He5.asA g n))).2)
structure SaysZ (fa : List He.Fa) (fn : List He.DefD) (K : PySem.W.Frag) : Prop where
  c : He.SaysD fa fn K
  dig : PySem.W.nsIn K cStatics "sys.int_max_str_digits" = some none
  nol : ∀ a o, K.lookup a = some o → isLst o.cls = false
def hookZ (n : Nat) (fa : List He.Fa) (fn : List He.DefD) : PySem.W.Hook where
  α := He.AlD
  obs := fun s => obsZ n fa fn s.heap.get?
  val := fun _ => He.valD fn
  says := fun _ h => ∃ K : PySem.W.Frag, K.In h ∧ SaysZ fa fn K
  of := fun _ s e => by
    have e : obsZ n fa fn s.heap.get? = He.valD fn := e
    unfold obsZ at e
    obtain ⟨e1, e2⟩ := Prod.ext_iff.mp e
    have e1 : ((He.obsD fa fn (frZ s.heap.get? (He5.asA s.heap.get? n))).1 && He.eqO (PySem.W.nsIn (frZ s.heap.get? (He5.asA s.heap.get? n)) cStatics "sys.int_max_str_digits") (some none)) = true := e1
    rw [Bool.and_eq_true] at e1
    exact ⟨_, fun a o h => (frZ_at h).1, Prod.ext e1.1 e2, He.eqO_ok e1.2, fun a o h => (frZ_at h).2⟩
  keeps := fun _ _ _ ⟨K, hK, c⟩ k => ⟨K, PySem.W.Frag.In.keeps hK k, c⟩
theorem obsZ_eq {n : Nat} {fa : List He.Fa} {fn : List He.DefD} {g : Addr → Option Obj} {s : Shared} (h : ∀ a, g a = s.heap.get? a) : obsZ n fa fn g = (hookZ n fa fn).obs s := by
  have e : g = s.heap.get? := funext h
  rw [e] <;> rfl
/-- a law by its mirror -/
theorem spP_script {K : PySem.W.Frag} {cm : Cm} {H : Hp} {a : Addr} {ns : List Int} {m : List D → Ot D} (nol : ∀ a o, K.lookup a = some o → isLst o.cls = false) (hS : SqL K H a (ns.map V.int)) (hm : m [.nd (.lst .bor) (ns.map .int)] = .ok (.bl true)) :
    spP K cm 1 m [.ref a] H (fun v _ => v = .bl true) fun _ _ _ => False := by
  have rd : Rd H a (.lst (ns.map V.int)) := by
    rcases hS with h | ⟨o, its, n, h1, h2, _⟩
    · exact h
    · have := nol a o h1
      rw [h2] at this
      cases this
  have hne : H a ≠ none := by
    rcases rd with h | ⟨o, h⟩ <;> exact fun z => by rw [z] at h; cases h
  have rl : ∀ (ns : List Int) (Z : Zn), ∃ Fs, Fs.flatten = [] ∧ RepL K cm H Z (ns.map .int) (ns.map V.int) Fs := by
    intro ns Z
    induction ns with
    | nil => exact ⟨[], rfl, repL_nil⟩
    | cons n ns ih =>
      obtain ⟨Fs, e, r⟩ := ih
      exact ⟨[] :: Fs, by simpa using e, repL_cons rep_int r⟩
  obtain ⟨Fs, e, r⟩ := rl ns (lentZ H fun _ => False)
  refine ⟨fun _ => False, [.nd (.lst .bor) (ns.map .int)], [[]], fun _ h => h.elim, rfl, rfl, repL_cons ⟨a, ns.map V.int, Fs, rfl, ⟨(fun h => nomatch h), rd, hne⟩, r, by rw [e]; rfl⟩ repL_nil, ?_⟩
  rw [hm]
  intro v H' Z' F r
  exact r.rep.1
theorem walk_ofEB {l : PySem.W.OpenLaw} {n k : Nat} {q : Program} {loose : List Str} {XP : (Str → Option Value) → Heap → Prop} {YP : World → Heap → Prop} {d : DefRec} {CX : World → CXT} {x : Str}
    (hn : l.most = some n) (hn2 : n ≤ sizeLine) (hdf : d.params.defaults = []) (hr : Room k callerA)
    (F : ∀ (w : World) (mg : Str → Option Value) (fa : Addr) (h : Heap), YP w h → h.Ns mainGlobals mg → mg d.name = some (.ref fa) →
      ∃ (K : PySem.W.Frag) (fd : FuncData) (sp : Sp), K.In h ∧ (∀ (s : Shared) (u : Value), BindsTo s fd ⟨[u], []⟩ [(x, u)]) ∧
        (∀ (H : Hp) (a : Addr) (ns : List Int), ns.length ≤ n → (∀ z ∈ ns, Builtin.Int.intBits z ≤ 1048576) → Only H → SqL K H a (ns.map V.int) → sp [.ref a] H (fun v _ => v = .bl true) fun _ _ _ => False) ∧
        ∀ base : Heap, K.In base → base.Ns mainGlobals mg → FnOk l.prog w K mg base (CX w) k fa fd [x] sp)
    (hCX : ∀ (w : World) (H : Hp) (s : Shared) (e : Value) (s' : Shared), CX w [] H s (fun _ _ _ => False) e s' → False) :
    PySem.W.WalkO q loose XP YP l.row.toRowW d [] (fun f vs => PySem.call f vs) := by
  refine Att.attach_callB hn hdf fun w s₀ s₁ mg mb fa o pm cd doc a vs ns G Y ho hd hcd hmg hobj hints hlen hbits hg => ?_
  obtain ⟨K, fd, sp, KX, hb, hsp, hF⟩ := F w mg fa _ Y G.T.g hmg
  exact law_call KX G.T.g G.T.b G.T.builtins G.T.nolimit hg hobj hints (Nat.le_trans hlen hn2) hr hF hb (fun H hO hS => hsp H a ns hlen hbits hO hS) fun H e s' => hCX w H s₁ e s'
theorem cx_no {P : Program} {w : World} (H : Hp) (s : Shared) (e : Value) (s' : Shared) : L2.CX P w [] H s (fun _ _ _ => False) e s' → False := fun h => by
  obtain ⟨_, _, _, _, _, _, _, _, _, _, _, _, z⟩ := h
  exact z
end OB

namespace OB
open PySem PySem.Spec PyProof.Rows L2
def fzE (i : Nat) (ρ : En) : En := match ρ[i]? with
  | some (some d) => ρ.set i (some (toFrz d))
  | _ => ρ
def sFz (i : Nat) (g : Mst) : Mst := fun ρ => g (fzE i ρ)
theorem Ok.fz {K : PySem.W.Frag} {cm : Cm} {H : Hp} {σ : L2.St} {ρ : En} {Fs : List (List Addr)} {Z : Zn} {P : List Nat} (ok : Ok K cm H σ ρ Fs Z) (i : Nat) : ∃ Fs' Z', Ok K cm H σ (fzE i ρ) Fs' Z' ∧ SStep P σ H Z Fs σ H Z' Fs' := by
  unfold fzE
  split
  · rename_i d hd
    obtain ⟨v, F, e1, e2, r⟩ := ok.rep.get i d hd
    have hF : ∀ a ∈ F, a ∈ Fs.flatten := fun a h => flat_mem e2 h
    obtain ⟨n1, n2⟩ := flat_set_nil e2 ok.nd
    have sub := set_nil_sub Fs i
    refine ⟨Fs.set i [], ⟨fun a => Z.f a ∨ a ∈ F, Z.b, Z.t⟩, ⟨⟨by simpa using ok.rep.lσ, by simpa using ok.rep.lF, fun j dj q => ?_⟩, ⟨fun a h => h.elim (ok.dom.f a) fun h => mut_ne (ok.mu a (hF a h)), ok.dom.b, ok.dom.t⟩, fun a h => ok.mu a (sub.subset h), ok.nd.sublist sub, fun a h => ⟨fun z => z.elim (ok.nz a (sub.subset h)).1 fun z => ?_, (ok.nz a (sub.subset h)).2⟩, ok.t⟩,
      ⟨.refl, fun a h => .inl (sub.subset h), fun a h => .inl h, fun a h => h.elim .inl fun h => .inr (.inl (hF a h)), rfl, fun _ _ => rfl⟩⟩
    · by_cases hj : i = j
      · subst hj
        rw [List.getElem?_set] at q
        split at q
        · split at q
          · cases q
            refine ⟨v, [], e1, by rw [List.getElem?_set_self (List.getElem?_eq_some_iff.mp e2).1], ?_⟩
            exact Rep.give (g := Fl.toFrz) (O := fun a => a ∈ F) (cell_flag (fun a ha f ef _ => by subst ef; exact .inr ha) (fun a f hf hz => by cases f with
              | own => exact absurd rfl hf
              | frz => exact .inl hz
              | bor => exact hz
              | tmp => exact (ok.t a hz).elim) (fun f e => by cases f <;> first | rfl | cases e)) (fun f e => by cases f <;> cases e) d r fun a h => h
          · cases q
        · rename_i n; exact absurd rfl n
      · rw [List.getElem?_set_ne hj] at q
        obtain ⟨v2, F2, a, b, c⟩ := ok.rep.get j dj q
        exact ⟨v2, F2, a, by rw [List.getElem?_set_ne hj]; exact b, c.grow (.refl _) (fun _ h => .inl h) (fun _ h => h) fun _ h => h⟩
    · have key : ∀ {Fs : List (List Addr)} {i : Nat}, Fs[i]? = some F → Fs.flatten.Nodup → a ∈ F → a ∈ (Fs.set i []).flatten → False := by
        intro Fs
        induction Fs with
        | nil => intro i h; simp at h
        | cons G Fs ih =>
          intro i h nd h1 h2
          rw [List.flatten_cons, List.nodup_append] at nd
          cases i with
          | zero =>
            cases h
            rw [List.set_cons_zero, List.flatten_cons] at h2
            exact nd.2.2 a h1 a (by simpa using h2) rfl
          | succ i =>
            rw [List.set_cons_succ, List.flatten_cons] at h2
            have h : Fs[i]? = some F := by simpa using h
            rcases List.mem_append.mp h2 with q | q
            · exact nd.2.2 a q a (flat_mem h h1) rfl
            · exact ih h nd.2.1 h1 q
      exact key e2 ok.nd z h
  · exact ⟨Fs, Z, ok, .refl⟩
theorem ss_fz {X : Cx} {cm : Cm} {W : WX} {P : List Nat} {st : Stmt} {g : Mst} (i : Nat) (h : SS X cm W P st g) : SS X cm W P st (sFz i g) := PS.imp h fun D0 σ H q => by
  obtain ⟨Z, ρ, Fs, ok, q⟩ := q
  obtain ⟨Fs', Z', ok', s⟩ := ok.fz (P := P) i
  exact ⟨Z', _, Fs', ok', q.step s⟩
end OB

namespace OB
open PySem PySem.Spec PyProof.Rows L2
section
variable {f g h : En → Ot D} {fs : List (En → Ot D)} {ρ : En} {t u : En → Ot Bool} {p q : List D → Option D}
@[simp] theorem eL_nil : eL [] ρ = .ok [] := rfl
@[simp] theorem eL_cons : eL (f :: fs) ρ = (f ρ).bind fun d => (eL fs ρ).bind fun ds => .ok (d :: ds) := rfl
@[simp] theorem eC_eq {d : D} : eC d ρ = .ok d := rfl
@[simp] theorem ePr_eq : ePr p fs ρ = (eL fs ρ).bind fun ds => .of (p ds) := rfl
@[simp] theorem eAnd_eq : eAnd f g ρ = (f ρ).bind fun d => (asB d).bind fun b => if b then g ρ else .ok (.bl false) := rfl
@[simp] theorem eOr_eq : eOr f g ρ = (f ρ).bind fun d => (asB d).bind fun b => if b then .ok (.bl true) else g ρ := rfl
@[simp] theorem eNot_eq : eNot f ρ = (f ρ).bind fun d => (asB d).bind fun b => .ok (.bl (!b)) := rfl
@[simp] theorem eT_eq : eT f ρ = (f ρ).bind asB := rfl
@[simp] theorem bAnd_eq : bAnd t u ρ = (t ρ).bind fun b => if b then u ρ else .ok false := rfl
@[simp] theorem bOr_eq : bOr t u ρ = (t ρ).bind fun b => if b then .ok true else u ρ := rfl
@[simp] theorem bNot_eq : bNot t ρ = (t ρ).bind fun b => .ok (!b) := rfl
@[simp] theorem eIf_eq : eIf t f g ρ = (t ρ).bind fun b => if b then f ρ else g ρ := rfl
@[simp] theorem asB_bl {b : Bool} : asB (.bl b) = .ok b := rfl
@[simp] theorem eIsi_eq {nb : String → Option Bool} {ob : Str → Option Bool} : eIsi nb ob f ρ = (f ρ).bind fun d => .of ((isiD nb ob d).map .bl) := rfl
@[simp] theorem eChain_eq : eChain p q f g h ρ = (f ρ).bind fun x => (g ρ).bind fun y => (Ot.of (p [x, y])).bind fun z => (asB z).bind fun b => if b then (h ρ).bind (fun w => .of (q [y, w])) else .ok (.bl false) := rfl
@[simp] theorem eCall_eq {m : List D → Ot D} {dd : List D} : eCall m dd fs ρ = (eL fs ρ).bind fun ds => back (m (ds.map toArg ++ dd)) := rfl
@[simp] theorem eCall0_eq {m : List D → Ot D} : eCall0 m [] ρ = noX (back (m [])) := rfl
@[simp] theorem noX_ok {d : D} : noX (.ok d) = .ok d := rfl
@[simp] theorem back_ok {d : D} : back (.ok d) = if noB d then .ok d else .no := rfl
@[simp] theorem eM_eq {T : String} : eM T p f fs ρ = (f ρ).bind fun x => if tyB T x then (eL fs ρ).bind fun ds => .of (p (x :: ds)) else .no := rfl
@[simp] theorem oNone_eq : oNone ρ = .ok none := rfl
@[simp] theorem oSome_eq : oSome f ρ = (f ρ).bind fun d => (asI d).bind fun i => .ok (some i) := rfl
@[simp] theorem asI_int {i : Int} : asI (.int i) = .ok i := rfl
@[simp] theorem eSl_eq {pp : D → Option Int → Option Int → Option D} {lo hi : En → Ot (Option Int)} : eSl pp f lo hi ρ = (f ρ).bind fun d => (lo ρ).bind fun lo => (hi ρ).bind fun hi => .of (pp d lo hi) := rfl
@[simp] theorem itV_eq : itV f ρ = (f ρ).bind fun d => .of (itemsD d) := rfl
@[simp] theorem eVar_eq {i : Nat} : eVar i ρ = .of ((getV ρ i).map (mapF Fl.toTmp)) := rfl
@[simp] theorem getV_eq {i : Nat} : getV ρ i = (ρ[i]?).join := rfl
@[simp] theorem mapF_non {k : Fl → Fl} : mapF k .non = .non := rfl
@[simp] theorem mapF_bl {k : Fl → Fl} {b : Bool} : mapF k (.bl b) = .bl b := rfl
@[simp] theorem mapF_int {k : Fl → Fl} {b : Int} : mapF k (.int b) = .int b := rfl
@[simp] theorem mapF_str {k : Fl → Fl} {b : Str} : mapF k (.str b) = .str b := rfl
@[simp] theorem mapF_lst {k : Fl → Fl} {x : Fl} {ds : List D} : mapF k (.nd (.lst x) ds) = .nd (.lst (k x)) (ds.map (mapF k)) := by rw [mapF, mapFL_eq]; rfl
@[simp] theorem mapF_dct {k : Fl → Fl} {x : Fl} {ks : List Key} {ds : List D} : mapF k (.nd (.dct x ks) ds) = .nd (.dct (k x) ks) (ds.map (mapF k)) := by rw [mapF, mapFL_eq]; rfl
@[simp] theorem mapF_tup {k : Fl → Fl} {ds : List D} : mapF k (.nd .tup ds) = .nd .tup (ds.map (mapF k)) := by rw [mapF, mapFL_eq]; rfl
@[simp] theorem toTmp_own : Fl.toTmp .own = .tmp := rfl
@[simp] theorem toTmp_tmp : Fl.toTmp .tmp = .tmp := rfl
@[simp] theorem toTmp_frz : Fl.toTmp .frz = .frz := rfl
@[simp] theorem toTmp_bor : Fl.toTmp .bor = .bor := rfl
@[simp] theorem toFrz_own : Fl.toFrz .own = .frz := rfl
@[simp] theorem toFrz_frz : Fl.toFrz .frz = .frz := rfl
@[simp] theorem toFrz_bor : Fl.toFrz .bor = .bor := rfl
@[simp] theorem toFrz_tmp : Fl.toFrz .tmp = .tmp := rfl
@[simp] theorem toArg_own : Fl.toArg .own = .frz := rfl
@[simp] theorem toArg_frz : Fl.toArg .frz = .frz := rfl
@[simp] theorem toArg_bor : Fl.toArg .bor = .bor := rfl
@[simp] theorem toArg_tmp : Fl.toArg .tmp = .bor := rfl
@[simp] theorem tmpFrz_own : Fl.tmpFrz .own = .frz := rfl
@[simp] theorem tmpFrz_frz : Fl.tmpFrz .frz = .frz := rfl
@[simp] theorem tmpFrz_bor : Fl.tmpFrz .bor = .bor := rfl
@[simp] theorem tmpFrz_tmp : Fl.tmpFrz .tmp = .frz := rfl
@[simp] theorem toArg_eq {d : D} : toArg d = mapF Fl.toArg d := rfl
@[simp] theorem toFrzD_eq {d : D} : toFrz d = mapF Fl.toFrz d := rfl
@[simp] theorem noT_non : noT .non = true := rfl
@[simp] theorem noT_bl {b : Bool} : noT (.bl b) = true := rfl
@[simp] theorem noT_int {b : Int} : noT (.int b) = true := rfl
@[simp] theorem noT_str {b : Str} : noT (.str b) = true := rfl
@[simp] theorem noT_lst {x : Fl} {ds : List D} : noT (.nd (.lst x) ds) = ((x != .tmp) && ds.all noT) := by unfold noT; rw [allF, allFL_eq]; rfl
@[simp] theorem noT_dct {x : Fl} {ks : List Key} {ds : List D} : noT (.nd (.dct x ks) ds) = ((x != .tmp) && ds.all noT) := by unfold noT; rw [allF, allFL_eq]; rfl
@[simp] theorem noT_tup {ds : List D} : noT (.nd .tup ds) = ds.all noT := by unfold noT; rw [allF, allFL_eq]; first | done | (show (true && _) = _; rw [Bool.true_and])
@[simp] theorem noB_non : noB .non = true := rfl
@[simp] theorem noB_bl {b : Bool} : noB (.bl b) = true := rfl
@[simp] theorem noB_int {b : Int} : noB (.int b) = true := rfl
@[simp] theorem noB_str {b : Str} : noB (.str b) = true := rfl
@[simp] theorem noB_lst {x : Fl} {ds : List D} : noB (.nd (.lst x) ds) = ((x == .own || x == .frz) && ds.all noB) := by unfold noB; rw [allF, allFL_eq]; rfl
@[simp] theorem noB_dct {x : Fl} {ks : List Key} {ds : List D} : noB (.nd (.dct x ks) ds) = ((x == .own || x == .frz) && ds.all noB) := by unfold noB; rw [allF, allFL_eq]; rfl
@[simp] theorem noB_tup {ds : List D} : noB (.nd .tup ds) = ds.all noB := by unfold noB; rw [allF, allFL_eq]; first | done | (show (true && _) = _; rw [Bool.true_and])
end
section
variable {f : En → Ot D} {g h : Mst} {ρ ρ1 : En} {t : En → Ot Bool} {d : D}
theorem sSeq_nx (e : g ρ = some (.nx, ρ1)) : sSeq g h ρ = h ρ1 := by unfold sSeq; rw [e]
theorem sSeq_ret (e : g ρ = some (.ret d, ρ1)) : sSeq g h ρ = some (.ret d, ρ1) := by unfold sSeq; rw [e]
theorem sIf_t (e : t ρ = .ok true) : sIf t g h ρ = g ρ := by unfold sIf; rw [e]; rfl
theorem sIf_f (e : t ρ = .ok false) : sIf t g h ρ = h ρ := by unfold sIf; rw [e]; rfl
theorem sSet_ok {i : Nat} (e : f ρ = .ok d) (n : noT d = true) : sSet i f ρ = some (.nx, ρ.set i (some d)) := by unfold sSet sOn; rw [e]; exact if_pos n
theorem sRet_ok (e : f ρ = .ok d) (n : noT d = true) : sRet f ρ = some (.ret d, ρ) := by unfold sRet sOn; rw [e]; exact if_pos n
theorem sRetF_ok (e : f ρ = .ok d) : sRetF f ρ = some (.ret (mapF Fl.tmpFrz d), frzE ρ) := by unfold sRetF sOn; rw [e]
theorem sRetV_ok {i : Nat} (e : getV ρ i = some d) : sRetV i ρ = some (.ret d, ρ.set i none) := by unfold sRetV; rw [e]; rfl
@[simp] theorem sNil_eq : sNil ρ = some (.nx, ρ) := rfl
@[simp] theorem bodyM_eq {n : Nat} {ds : List D} : bodyM n g ds = match g (initE n ds) with
  | some (.nx, _) => .ok .non
  | some (.ret d, _) => .ok d
  | some (.ex x, _) => .ex x
  | _ => .no := rfl
@[simp] theorem initE_eq {n : Nat} {ds : List D} : initE n ds = ds.map some ++ List.replicate (n - ds.length) none := rfl
@[simp] theorem sSeq_eq : sSeq g h ρ = match g ρ with
  | some (.nx, ρ1) => h ρ1
  | r => r := rfl
@[simp] theorem sIf_eq : sIf t g h ρ = match t ρ with
  | .no => none
  | .ok b => if b then g ρ else h ρ
  | .ex x => some (.ex x, ρ) := rfl
@[simp] theorem sSet_eq {i : Nat} : sSet i f ρ = match f ρ with
  | .no => none
  | .ok d => if noT d then some (.nx, ρ.set i (some d)) else none
  | .ex x => some (.ex x, ρ) := rfl
@[simp] theorem sRet_eq : sRet f ρ = match f ρ with
  | .no => none
  | .ok d => if noT d then some (.ret d, ρ) else none
  | .ex x => some (.ex x, ρ) := rfl
@[simp] theorem sRetF_eq : sRetF f ρ = match f ρ with
  | .no => none
  | .ok d => some (.ret (mapF Fl.tmpFrz d), frzE ρ)
  | .ex x => some (.ex x, ρ) := rfl
@[simp] theorem sRetV_eq {i : Nat} : sRetV i ρ = match getV ρ i with
  | some d => some (.ret d, ρ.set i none)
  | none => none := by unfold sRetV; cases getV ρ i <;> rfl
end
end OB

namespace OB
open PySem PySem.Spec PyProof.Rows L2
/-- a def called with n - dd.length values, the rest its defaults dd -/
def GoodD (P : Program) (w : World) (K : PySem.W.Frag) (mg : Str → Option Value) (base : Heap) (cm : Cm) (x : Str) (n k : Nat) (m : List D → Ot D) (dd : List D) : Prop :=
  ∃ (a : Addr) (fd : FuncData) (ps : List Str) (ds : List Value), mg x = some (.ref a) ∧ PySem.W.keepIn K (.ref a) = true ∧ Binds K fd ps ds ∧ Vals (dd.map toV) ds ∧ FnOk P w K mg base (L2.CX P w) k a fd ps (spP K cm n m)
section
variable {X : Cx} {cm : Cm} {W : WX} {x : Str} {p pos : Pos} {e : Expr} {es : List Expr} {fs : List (En → Ot D)} {k j n : Nat} {m : List D → Ot D} {dd : List D}
theorem s_callGD (tk : Takes X W) (G : GoodD X.prog X.w X.K X.mg X.base cm x n k m dd) (hr : Room j X.A) (hk : k ≤ j) (hg : Gl X x) (hdd : dd.all isAt = true) (hn : fs.length + dd.length = n) (ha : SA X cm W (e :: es) (eL fs))
    (hdb : (x == ("__debug__" : Str)) = false := by decide) (he : starEach (e :: es) X.env = (false, eval e X.env) :: starEach es X.env := by rfl) (hpl : (backTo pos (starEach es X.env)).any (·.1) = false := by rfl) :
    SE X cm W (.Call (.Name x p) (e :: es) [] pos) (eCall m dd fs) := by
  obtain ⟨a, fd, ps, ds, hm, kp, b, hd, F⟩ := G
  exact s_call tk F (hr.mono hk) hg hm kp b hd hdd rfl hn ha hdb he hpl
end
/-! ### a, b = e, f of plain locals -/
def sPar (is : List Nat) (fs : List (En → Ot D)) : Mst := sOnL (eL fs) fun ds ρ => if ds.all noT && ds.length == is.length then some (.nx, (is.zip ds).foldl (fun ρ p => ρ.set p.1 (some p.2)) ρ) else none
section
variable {X : Cx} {cm : Cm} {W : WX} {P : List Nat} {a b c : Expr} {f g h : En → Ot D} {i j l k2 kt : Nat} {x y z : Str} {px py pz pt pt2 pos : Pos}
theorem ss_par (hP : ([i, j].all fun i => !P.contains i) = true) (hc : X.calm = true) (hN : X.N.Nodup) (hi : X.N[i]? = some x) (hj : X.N[j]? = some y) (hij : i ≠ j) (hx : X.env.scope.names.lookup x = some .local) (hy : X.env.scope.names.lookup y = some .local)
    (ha : SA X cm W [a, b] (eL [f, g])) (hw : swappedStores [.Tuple [.Name x px, .Name y py] kt pt] (.Tuple [a, b] k2 pt2) X.env = pure (some [x, y]) := by rfl) :
    SS X cm W P (.Assign [.Tuple [.Name x px, .Name y py] kt pt] (.Tuple [a, b] k2 pt2) pos) (sPar [i, j] [f, g]) := PS.imp (ps_par hc hN hi hj hij hx hy ha hw) fun D0 σ H q => by
  obtain ⟨Z, ρ, Fs, ok, q⟩ := q
  refine on_goL ok q fun ds vs H1 Z1 Gs e r q1 => ?_
  split at q1
  · rename_i hh
    rw [Bool.and_eq_true] at hh
    have o := ok.many r hh.1
    obtain ⟨d, d2, rfl⟩ : ∃ d d2, ds = [d, d2] := by
      have := hh.2
      match ds, this with
      | [d, d2], _ => exact ⟨d, d2, rfl⟩
    obtain ⟨v, u, F, G, rfl, rfl, h1, h2⟩ := repL2 o.rep
    refine ⟨v, u, rfl, ?_⟩
    have o1 := o.set i
    have o2 := o1.set j
    have fr : ∀ a ∈ ([F, G] : List (List Addr)).flatten, H a = none := fun a h => (r.fr a h).elim id fun q => nomatch q
    have s : SStep P σ H Z Fs ((σ.set i (some v)).set j (some u)) H1 ⟨Z1.f, Z.b, fun _ => False⟩ ((Fs.set i F).set j G) :=
      ⟨.grow r.ext.gr, fun a h => (set_mem h).elim (fun h => (set_mem h).elim .inl fun q => .inr (fr a (by simp [q]))) fun q => .inr (fr a (by simp [q])), r.ext.f, fun a h => (r.ext.fn a h).elim .inl fun q => .inr (.inr q), rfl, fun k hk => by
        simp only [List.all_cons, List.all_nil, Bool.and_true, Bool.and_eq_true] at hP
        rw [prot_set (i := j) hP.2 k hk, prot_set (i := i) hP.1 k hk]⟩
    exact q1.at_ s o2.ok
  · exact q1.elim
theorem ss_par3 (hP : ([i, j, l].all fun i => !P.contains i) = true) (hc : X.calm = true) (hN : X.N.Nodup) (hi : X.N[i]? = some x) (hj : X.N[j]? = some y) (hl : X.N[l]? = some z) (hij : i ≠ j) (hil : i ≠ l) (hjl : j ≠ l) (hx : X.env.scope.names.lookup x = some .local) (hy : X.env.scope.names.lookup y = some .local) (hz : X.env.scope.names.lookup z = some .local)
    (ha : SA X cm W [a, b, c] (eL [f, g, h])) (hw : swappedStores [.Tuple [.Name x px, .Name y py, .Name z pz] kt pt] (.Tuple [a, b, c] k2 pt2) X.env = pure (some [x, y, z]) := by rfl) :
    SS X cm W P (.Assign [.Tuple [.Name x px, .Name y py, .Name z pz] kt pt] (.Tuple [a, b, c] k2 pt2) pos) (sPar [i, j, l] [f, g, h]) := PS.imp (ps_par3 hc hN hi hj hl hij hil hjl hx hy hz ha hw) fun D0 σ H q => by
  obtain ⟨Z, ρ, Fs, ok, q⟩ := q
  refine on_goL ok q fun ds vs H1 Z1 Gs e r q1 => ?_
  split at q1
  · rename_i hh
    rw [Bool.and_eq_true] at hh
    have o := ok.many r hh.1
    obtain ⟨d, d2, d3, rfl⟩ : ∃ d d2 d3, ds = [d, d2, d3] := by
      have := hh.2
      match ds, this with
      | [d, d2, d3], _ => exact ⟨d, d2, d3, rfl⟩
    obtain ⟨v, u, t, F, G, M, rfl, rfl, h1, h2, h3⟩ := repL3 o.rep
    refine ⟨v, u, t, rfl, ?_⟩
    have o1 := o.set i
    have o2 := o1.set j
    have o3 := o2.set l
    have fr : ∀ a ∈ ([F, G, M] : List (List Addr)).flatten, H a = none := fun a h => (r.fr a h).elim id fun q => nomatch q
    have s : SStep P σ H Z Fs (((σ.set i (some v)).set j (some u)).set l (some t)) H1 ⟨Z1.f, Z.b, fun _ => False⟩ (((Fs.set i F).set j G).set l M) :=
      ⟨.grow r.ext.gr, fun a h => (set_mem h).elim (fun h => (set_mem h).elim (fun h => (set_mem h).elim .inl fun q => .inr (fr a (by simp [q]))) fun q => .inr (fr a (by simp [q]))) fun q => .inr (fr a (by simp [q])), r.ext.f, fun a h => (r.ext.fn a h).elim .inl fun q => .inr (.inr q), rfl, fun k hk => by
        simp only [List.all_cons, List.all_nil, Bool.and_true, Bool.and_eq_true] at hP
        rw [prot_set (i := l) hP.2.2 k hk, prot_set (i := j) hP.2.1 k hk, prot_set (i := i) hP.1 k hk]⟩
    exact q1.at_ s o3.ok
  · exact q1.elim
end
section
variable {P : Program} {w : World} {K : PySem.W.Frag} {mg : Str → Option Value} {base : Heap} {cm : Cm}
theorem fn_pureD {x qual : Str} {st : Stmt} {f : Addr} {fd : FuncData} {N ps : List Str} {k : Nat} {g : Mst} {dvs : List V} {kws : List (Str × V)} (F : FunD K x qual (defArgs st) (defBody st) (defScope st) dvs kws f fd) (S : FnScope N ps (defScope st)) (hl : ps.length ≤ N.length)
    (hb : ∀ (cdv : Value) (A : Around) (outer : List Env) (s : Shared) (H : Hp) (E : XK), Room k (A.deeper (envOfC qual (defScope st) s.heap.objs.size f cdv)) →
      SB (cxOf (L2.CX P w) P w K mg base N qual (defScope st) f cdv A outer s H E) cm (fun cls dd _ H' => E cls dd H') [] (defBody st) g) :
    FnOk P w K mg base (L2.CX P w) (k + 1) f fd ps (spP K cm ps.length (bodyM N.length g)) :=
  F.ok S (fun _ _ _ _ h => spP_len h) fun cdv A outer s H vs Q E hr h => ⟨_, hb cdv A outer s H E hr, by
    have hv := spP_len h
    obtain ⟨f, ds, Gs, hf, _, e, r, q⟩ := h
    exact body_fin hf e r (by rw [hv]; exact hl) q⟩
end
theorem vals_nil {ds : List Value} (h : Vals [] ds) : ds = [] := by cases h; rfl
end OB

namespace OB
open PySem PySem.Spec PyProof.Rows L2 PySem.NumText
theorem compL_filter {tg : D → En → Option En} {c : En → Ot Bool} {f : En → Ot D} {ρ : En} (b : D → Bool) (y : D → D) : ∀ ds : List D, (∀ d ∈ ds, ∃ ρ1, tg d ρ = some ρ1 ∧ c ρ1 = .ok (b d) ∧ (b d = true → f ρ1 = .ok (y d))) → compL tg c f ρ ds = some ((ds.filter b).map y)
  | [], _ => rfl
  | d :: ds, h => by
    obtain ⟨ρ1, e1, e2, e3⟩ := h d List.mem_cons_self
    have ih := compL_filter b y ds fun d hd => h d (List.mem_cons_of_mem _ hd)
    unfold compL
    rw [e1, Option.bind_some, e2]
    cases hb : b d with
    | true =>
      rw [e3 hb, ih, List.filter_cons_of_pos hb]; rfl
    | false =>
      rw [List.filter_cons_of_neg (by rw [hb]; exact Bool.false_ne_true)]
      exact ih
theorem compL_map {tg : D → En → Option En} {f : En → Ot D} {ρ : En} (y : D → D) (ds : List D) (h : ∀ d ∈ ds, ∃ ρ1, tg d ρ = some ρ1 ∧ f ρ1 = .ok (y d)) : compL tg cYes f ρ ds = some (ds.map y) := by
  have := compL_filter (c := cYes) (fun _ => true) y ds fun d hd => by
    obtain ⟨ρ1, a, b⟩ := h d hd
    exact ⟨ρ1, a, rfl, fun _ => b⟩
  rwa [List.filter_eq_self.mpr (fun _ _ => rfl)] at this
theorem eComp_ok {it : En → Ot Its'} {tg : D → En → Option En} {c : En → Ot Bool} {f : En → Ot D} {vs : List Nat} {ρ : En} {p : Its'} {ys : List D} (e1 : it ρ = .ok p) (e2 : compL tg c f (wipeE ρ vs) p.1 = some ys) (hl : ys.length ≤ sizeLine) : eComp it tg c f vs ρ = .ok (.nd (.lst .own) ys) := by
  unfold eComp
  rw [e1, Ot.bind_ok, e2]
  exact if_pos hl
theorem forL_inv {tg : D → En → Option En} {b : Mst} (Inv : Nat → En → Prop) : ∀ (ds : List D) (i : Nat) (ρ : En), (∀ j d ρ, ds[j]? = some d → Inv (i + j) ρ → ∃ ρ1 ρ2, tg d ρ = some ρ1 ∧ b ρ1 = some (.nx, ρ2) ∧ Inv (i + j + 1) ρ2) → Inv i ρ → ∃ ρ', forL tg b ds ρ = some (.nx, ρ') ∧ Inv (i + ds.length) ρ'
  | [], i, ρ, _, h0 => ⟨ρ, rfl, h0⟩
  | d :: ds, i, ρ, h, h0 => by
    obtain ⟨ρ1, ρ2, e1, e2, h1⟩ := h 0 d ρ rfl h0
    obtain ⟨ρ', e3, h3⟩ := forL_inv Inv ds (i + 1) ρ2 (fun j d ρ hd hi => by
      have := h (j + 1) d ρ (by simpa using hd) (by rw [show i + (j + 1) = i + 1 + j by omega]; exact hi)
      rwa [show i + (j + 1) + 1 = i + 1 + j + 1 by omega] at this) h1
    refine ⟨ρ', ?_, by rw [List.length_cons, show i + (ds.length + 1) = i + 1 + ds.length by omega]; exact h3⟩
    unfold forL
    rw [e1]
    dsimp only
    rw [e2]
    exact e3
theorem sFor_ok {it : En → Ot Its'} {tg : D → En → Option En} {b : Mst} {ρ : En} {ds : List D} (e : it ρ = .ok (ds, true)) (Inv : Nat → En → Prop) (h0 : Inv 0 ρ)
    (h : ∀ j d ρ, ds[j]? = some d → Inv j ρ → ∃ ρ1 ρ2, tg d ρ = some ρ1 ∧ b ρ1 = some (.nx, ρ2) ∧ Inv (j + 1) ρ2) : ∃ ρ', sFor it tg b ρ = some (.nx, ρ') ∧ Inv ds.length ρ' := by
  obtain ⟨ρ', e1, e2⟩ := forL_inv (tg := tg) (b := b) Inv ds 0 ρ (by simpa using h) h0
  refine ⟨ρ', ?_, by simpa using e2⟩
  unfold sFor
  rw [e]
  exact e1
structure OkS (s : Str) (n : Nat) : Prop where
  len : s.length ≤ n
  ok : ∀ c ∈ s.cps.toList, c < 0x110000
theorem OkS.str {s : Str} {n : Nat} (h : OkS s n) : PyData.strOk s = true := by
  unfold PyData.strOk
  rw [Array.all_eq_true_iff_forall_mem]
  intro c hc
  exact decide_eq_true (h.ok c (by simpa using hc))
theorem toPyL_strs : ∀ ss : List Str, toPyL (ss.map .str) = some (ss.map .str)
  | [] => rfl
  | s :: ss => by
    rw [List.map_cons, toPyL, toPyL_strs ss]; rfl
theorem shaped_strs {n : Nat} {ss : List Str} (h : ∀ s ∈ ss, OkS s n) : SeqAt.shaped (.list (ss.map .str)) = true := by
  have h1 : ∀ ss : List Str, (∀ s ∈ ss, OkS s n) → PyData.canLayAll0 (ss.map .str) = true := by
    intro ss
    induction ss with
    | nil => exact fun _ => rfl
    | cons s ss ih =>
      intro h
      rw [List.map_cons, PyData.canLayAll0, ih fun s hs => h s (List.mem_cons_of_mem _ hs), Bool.and_true, PyData.canLay0]
      exact (h s List.mem_cons_self).str
  have h2 : ∀ ss : List Str, PyData.depthAll (ss.map .str) = 0 := by
    intro ss
    induction ss with
    | nil => rfl
    | cons s ss ih => rw [List.map_cons, PyData.depthAll, ih, PyData.depth]; rfl
  unfold SeqAt.shaped
  rw [PyData.canLay0, h1 ss h, PyData.depth, h2]
  rfl
theorem eqvAll_refl : ∀ ss : List Str, PyData.eqvAll (ss.map .str) (ss.map .str) = true
  | [] => by simp [PyData.eqvAll]
  | s :: ss => by
    rw [List.map_cons, PyData.eqvAll, eqvAll_refl ss, PyData.eqv]; simp
theorem deepEq_strs {f g : Fl} {n : Nat} {ss tt : List Str} (h : ∀ s ∈ ss, OkS s n) (h' : ∀ s ∈ tt, OkS s n) : deepEq (.nd (.lst f) (ss.map .str)) (.nd (.lst g) (tt.map .str)) = some (PyData.eqvAll (ss.map .str) (tt.map .str)) := by
  unfold deepEq
  rw [toPy, toPy, toPyL_strs, toPyL_strs]
  simp only [Option.map_some, Option.bind_some, shaped_strs h, shaped_strs h', Bool.and_self, if_true, PyData.eqv]
theorem pEq_nil {f g : Fl} {n : Nat} {ss : List Str} (h : ∀ s ∈ ss, OkS s n) : pEq [.nd (.lst f) (ss.map .str), .nd (.lst g) []] = some (.bl ss.isEmpty) := by
  have := deepEq_strs (f := f) (g := g) h (tt := []) fun _ h => nomatch h
  unfold pEq
  simp only [atEq, Option.none_or]
  rw [show ([] : List D) = ([] : List Str).map .str from rfl, this]
  cases ss <;> simp [PyData.eqvAll]
theorem pNe_nil {f g : Fl} {n : Nat} {ss : List Str} (h : ∀ s ∈ ss, OkS s n) : pNe [.nd (.lst f) (ss.map .str), .nd (.lst g) []] = some (.bl (!ss.isEmpty)) := by
  have := deepEq_strs (f := f) (g := g) h (tt := []) fun _ h => nomatch h
  unfold pNe
  simp only [atEq, Option.none_or]
  rw [show ([] : List D) = ([] : List Str).map .str from rfl, this]
  cases ss <;> simp [PyData.eqvAll]
theorem pNe_refl {f g : Fl} {n : Nat} {ss : List Str} (h : ∀ s ∈ ss, OkS s n) : pNe [.nd (.lst f) (ss.map .str), .nd (.lst g) (ss.map .str)] = some (.bl false) := by
  unfold pNe
  simp only [atEq, Option.none_or]
  rw [deepEq_strs h h, eqvAll_refl]; rfl
def sg (c : Nat) : Str := ⟨#[c]⟩
def sgs (s : Str) : List Nat := s.cps.toList
theorem sgs_len {s : Str} : (sgs s).length = s.length := Array.length_toList
theorem items_str {s : Str} : itemsD (.str s) = some ((sgs s).map fun c => D.str (sg c), true) := rfl
theorem in_sg {c : Nat} {z : Str} : pIn [.str (sg c), .str z] = some (.bl (decide (c ∈ sgs z))) := rfl
theorem notIn_sg {c : Nat} {z : Str} : pNotIn [.str (sg c), .str z] = some (.bl (!decide (c ∈ sgs z))) := rfl
theorem blsD_map (bs : List Bool) : blsD (bs.map .bl) = some bs := by
  induction bs with
  | nil => rfl
  | cons b bs ih => rw [List.map_cons, blsD, ih]; rfl
theorem len_str {s : Str} (h : s.length ≤ 16777216) : pLen [.str s] = some (.int s.length) := by
  show (if s.length ≤ sizeLine then _ else _) = _
  exact if_pos h
theorem le_int {i j : Int} : pLe [.int i, .int j] = some (.bl (decide (i ≤ j))) := rfl
def lets : Str := "abcdefghijklmnopqrstuvwxyz"
def figs : Str := "0123456789"
def among (s z : Str) : Bool := (sgs s).all fun c => decide (c ∈ sgs z)
theorem odd_sgs {cs : List Nat} {z : List Nat} : (cs.filter fun c => !decide (c ∈ z)).isEmpty = cs.all fun c => decide (c ∈ z) := by
  induction cs with
  | nil => rfl
  | cons c cs ih =>
    by_cases h : c ∈ z <;> simp_all
theorem comp_notIn {i : Nat} {s z : Str} {ρ : En} {fz : En → Ot D} (h : s.length ≤ 16777216) (hi : i < ρ.length) (e1 : eVar 0 ρ = .ok (.str s)) (hz : ∀ d, fz ((wipeE ρ [i]).set i (some d)) = .ok (.str z)) :
    eComp (itV (eVar 0)) (tgName i) (eT (ePr pNotIn [eVar i, fz])) (eVar i) [i] ρ = .ok (.nd (.lst .own) (((sgs s).filter fun c => !decide (c ∈ sgs z)).map fun c => .str (sg c))) := by
  have hl : (sgs s).length ≤ sizeLine := by rw [sgs_len]; exact h
  refine eComp_ok (p := ((sgs s).map fun c => D.str (sg c), true)) (by rw [itV_eq, e1]; rfl) ?_ ?_ (ys := ((sgs s).filter fun c => !decide (c ∈ sgs z)).map fun c => .str (sg c))
  · have := compL_filter (tg := tgName i) (c := eT (ePr pNotIn [eVar i, fz])) (f := eVar i) (ρ := wipeE ρ [i]) (fun d => match d with | .str a => (match sgs a with | [c] => !decide (c ∈ sgs z) | _ => false) | _ => false) id ((sgs s).map fun c => D.str (sg c)) fun d hd => by
      obtain ⟨c, hc, rfl⟩ := List.mem_map.mp hd
      have ei : (((wipeE ρ [i]).set i (some (D.str (sg c))))[i]?).join = some (.str (sg c)) := by
        rw [List.getElem?_set_self (by unfold wipeE wipeE; simpa using hi)]; rfl
      refine ⟨_, rfl, ?_, fun _ => ?_⟩
      · simp only [eT_eq, ePr_eq, eL_cons, eL_nil, eVar_eq, getV_eq, ei, hz, Option.map_some, mapF_str, Ot.of_some, Ot.bind_ok, notIn_sg, asB_bl]
        rfl
      · simp only [eVar_eq, getV_eq, ei, Option.map_some, mapF_str, Ot.of_some]; rfl
    rw [this, List.map_id, List.filter_map]
    rfl
  · rw [List.length_map]
    exact Nat.le_trans (List.length_filter_le _ _) hl
theorem sg_ok {s : Str} {n : Nat} (h : OkS s n) {c : Nat} (hc : c ∈ sgs s) : OkS (sg c) 1 := ⟨Nat.le_refl _, fun d hd => by
  have : d = c := by simpa [sg] using hd
  subst this
  exact h.ok d hc⟩
theorem bits_le {x : Int} {k : Nat} (h : x.natAbs < 2 ^ k) : Builtin.Int.intBits x ≤ k := by
  unfold Builtin.Int.intBits
  split
  · exact Nat.zero_le _
  · rename_i h0
    have h0 : x.natAbs ≠ 0 := by
      intro e
      exact h0 (by simpa using Int.natAbs_eq_zero.mp e)
    exact (Nat.log2_lt h0).mpr h
theorem bits_ge {x : Int} {k : Nat} (h : Builtin.Int.intBits x ≤ k) : x.natAbs < 2 ^ k := by
  unfold Builtin.Int.intBits at h
  split at h
  · rename_i e
    have e : x = 0 := by simpa using e
    subst e
    exact Nat.pow_pos (by decide)
  · rename_i h0
    have h0 : x.natAbs ≠ 0 := by
      intro e
      exact h0 (by simpa using Int.natAbs_eq_zero.mp e)
    exact (Nat.log2_lt h0).mp h
theorem mul_int {i j : Int} {k l : Nat} (h1 : i.natAbs < 2 ^ k) (h2 : j.natAbs < 2 ^ l) (h : k + l ≤ 134217728) : pMul [.int i, .int j] = some (.int (i * j)) := by
  have : mulOk i j = true := decide_eq_true (Nat.le_trans (Nat.add_le_add (bits_le h1) (bits_le h2)) h)
  show (if mulOk i j = true then _ else _) = _
  exact if_pos this
theorem add_int {i j : Int} : pAdd [.int i, .int j] = some (.int (i + j)) := rfl
theorem sub_int {i j : Int} : pSub [.int i, .int j] = some (.int (i - j)) := rfl
theorem eq_int {i j : Int} : pEq [.int i, .int j] = some (.bl (i == j)) := rfl
theorem eq_str {i j : Str} : pEq [.str i, .str j] = some (.bl (i == j)) := rfl
theorem ne_str {i j : Str} : pNe [.str i, .str j] = some (.bl (!(i == j))) := rfl
theorem eq_bl {i j : Bool} : pEq [.bl i, .bl j] = some (.bl (i == j)) := rfl
theorem ne_bl {i j : Bool} : pNe [.bl i, .bl j] = some (.bl (!(i == j))) := rfl
theorem mod_int {i j : Int} (h : 0 < j) : pMod [.int i, .int j] = some (.int (i % j)) := by
  show (if j ≠ 0 then some (D.int (modV i j)) else none) = _
  rw [if_pos (by omega)]
  unfold modV
  rw [if_pos h]
theorem div_int {i j : Int} (h : 0 < j) (h2 : j < 2 ^ 62) : pDiv [.int i, .int j] = some (.int (i / j)) := by
  have : divOk j = true := by
    unfold divOk
    rw [Bool.and_eq_true]
    refine ⟨decide_eq_true (by omega), decide_eq_true ?_⟩
    have h0 : j.natAbs ≠ 0 := by omega
    exact Nat.lt_trans ((Nat.log2_lt h0 (k := 62)).mpr (by omega)) (by decide)
  show (if divOk j = true then _ else _) = _
  rw [if_pos this]
  unfold divV
  rw [if_pos h]
theorem ix0_str {s : Str} {c : Nat} {r : List Nat} (h : s.length ≤ 16777216) (e : sgs s = c :: r) : pIx [.str s, .int 0] = some (.str (sg c)) := by
  show (if s.length ≤ sizeLine then (atI s.cps.toList 0).map (fun c => D.str ⟨#[c]⟩) else none) = _
  rw [if_pos (show s.length ≤ sizeLine from h), show s.cps.toList = c :: r from e]
  simp [atI, ixN]
  rfl
theorem figs_sgs : sgs figs = [48, 49, 50, 51, 52, 53, 54, 55, 56, 57] := by decide +kernel
theorem among_figs {s : Str} (h : among s figs = true) : AllDigits (sgs s) := fun c hc => by
  have := List.all_eq_true.mp h c hc
  have := of_decide_eq_true this
  rw [figs_sgs] at this
  simp at this
  omega
theorem sidx {k : Nat} (h : k < 10) : pSIdx [.str figs, .str (sg (48 + k))] = some (.int k) := by
  have : ∀ k : Fin 10, Builtin.Str.occurrences figs (sg (48 + k.val)) 0 figs.length 1 = [k.val] := by decide +kernel
  show (match Builtin.Str.occurrences figs (sg (48 + k)) 0 figs.length 1 with
    | i :: _ => some (D.int (i : Nat))
    | [] => none) = _
  rw [this ⟨k, h⟩]
theorem dv_snoc (cs : List Nat) (c : Nat) : digitsVal (cs ++ [c]) = digitsVal cs * 10 + (c - 48) := by
  unfold digitsVal
  rw [List.foldl_append]
  rfl
theorem dv_lt (cs : List Nat) (h : AllDigits cs) : digitsVal cs < 10 ^ cs.length := by
  have key : ∀ rs : List Nat, AllDigits rs → digitsVal rs.reverse < 10 ^ rs.length := by
    intro rs
    induction rs with
    | nil => intro _; decide
    | cons c rs ih =>
      intro h
      have h1 := ih fun d hd => h d (List.mem_cons_of_mem _ hd)
      have h2 := h c List.mem_cons_self
      rw [List.reverse_cons, dv_snoc, List.length_cons, Nat.pow_succ]
      omega
  have := key cs.reverse fun d hd => h d (List.mem_reverse.mp hd)
  rwa [List.reverse_reverse, List.length_reverse] at this
def numD (s : Str) : D := if decide ((1 : Int) ≤ s.length) && (decide ((s.length : Int) ≤ 1000) && among s figs) then (if sg ((sgs s).headD 0) == sg 48 && !(s == sg 48) then .non else .int (digitsVal (sgs s))) else .non
theorem zero_sg : (Str.ofString "0") = sg 48 := by decide +kernel
theorem range8 {n : Nat} {j : Nat} {d : D} (h : (rngD 0 (n : Nat))[j]? = some d) : j < n ∧ d = .int j := by
  unfold rngD at h
  rw [List.getElem?_map] at h
  cases e : (List.range ((n : Int) - 0).toNat)[j]? with
  | none => rw [e] at h; cases h
  | some i =>
    rw [e] at h
    cases h
    obtain ⟨h1, h2⟩ := List.getElem?_eq_some_iff.mp e
    simp at h1 h2
    subst h2
    exact ⟨by omega, by simp⟩
theorem ipow {n : Nat} (hn : 0 < n) {j k : Nat} (h : j ≤ k) : ((n : Nat) : Int) ^ j ≤ ((n : Nat) : Int) ^ k := by
  rw [← Int.natCast_pow, ← Int.natCast_pow]
  exact Int.ofNat_le.mpr (Nat.pow_le_pow_right hn h)
def dgs (n : Nat) : List Nat := (Nat.toDigits 10 n).map Char.toNat
theorem dgs_lt {m : Nat} (h : m < 10) : dgs m = [48 + m] := by
  unfold dgs
  rw [Nat.toDigits_of_lt_base h]
  have : ∀ k : Fin 10, (Nat.digitChar k.val).toNat = 48 + k.val := by decide +kernel
  simp [this ⟨m, h⟩]
theorem dgs_ge {m : Nat} (h : 10 ≤ m) : dgs m = dgs (m / 10) ++ [48 + m % 10] := by
  have hm : m % 10 < 10 := Nat.mod_lt m (by decide)
  have t : Nat.toDigits 10 (m / 10) ++ Nat.toDigits 10 (m % 10) = Nat.toDigits 10 (10 * (m / 10) + m % 10) := Nat.toDigits_append_toDigits (by decide) (by omega) hm
  rw [Nat.div_add_mod] at t
  have e := dgs_lt hm
  unfold dgs at e ⊢
  rw [← t, List.map_append, e]
theorem dgs_all : ∀ (m : Nat), (∀ c ∈ dgs m, 48 ≤ c ∧ c ≤ 57) ∧ digitsVal (dgs m) = m ∧ (0 < m → ∃ c r, dgs m = c :: r ∧ c ≠ 48) := fun m => by
  induction m using Nat.strongRecOn with
  | _ m ih =>
    by_cases h : m < 10
    · rw [dgs_lt h]
      refine ⟨fun c hc => ?_, ?_, fun h0 => ⟨_, _, rfl, by omega⟩⟩
      · have : c = 48 + m := by simpa using hc
        omega
      · show 0 * 10 + (48 + m - 48) = m
        omega
    · rw [dgs_ge (by omega)]
      obtain ⟨i1, i2, i3⟩ := ih (m / 10) (by omega)
      refine ⟨fun c hc => ?_, ?_, fun _ => ?_⟩
      · rcases List.mem_append.mp hc with q | q
        · exact i1 c q
        · have : c = 48 + m % 10 := by simpa using q
          omega
      · rw [dv_snoc, i2]
        omega
      · obtain ⟨c, r, e, hc⟩ := i3 (by omega)
        exact ⟨c, r ++ [48 + m % 10], by rw [e]; rfl, hc⟩
theorem dgs_len : ∀ (k m : Nat), m < 10 ^ (k + 1) → (dgs m).length ≤ k + 1
  | 0, m, h => by rw [dgs_lt (by simpa using h)]; simp
  | k + 1, m, h => by
    by_cases h2 : m < 10
    · rw [dgs_lt h2]; simp
    · rw [dgs_ge (by omega), List.length_append]
      have := dgs_len k (m / 10) (by rw [Nat.pow_succ] at h; omega)
      simp; omega
def num (m : Nat) : Str := ⟨(dgs m).toArray⟩
theorem num_eq (m : Nat) : Str.ofString (toString ((m : Nat) : Int)) = num m := by
  have := PySem.W.KIN.signs_num m
  have e : (Str.ofString (toString ((m : Nat) : Int))).cps = (dgs m).toArray := by
    rw [← Array.toArray_toList (xs := (Str.ofString (toString ((m : Nat) : Int))).cps), this]
    rfl
  cases h : Str.ofString (toString ((m : Nat) : Int)) with
  | mk a =>
    rw [h] at e
    unfold num
    rw [← e]
theorem sgs_num (m : Nat) : sgs (num m) = dgs m := by unfold sgs num; simp
theorem numD_num {m : Nat} (h : (dgs m).length ≤ 1000) : numD (num m) = .int m := by
  obtain ⟨a1, a2, a3⟩ := dgs_all m
  have hl : (num m).length = (dgs m).length := by rw [← sgs_len, sgs_num]
  have h0 : 1 ≤ (dgs m).length := by
    by_cases h : m < 10
    · rw [dgs_lt h]; simp
    · rw [dgs_ge (by omega)]; simp
  have ha : among (num m) figs = true := by
    unfold among
    rw [sgs_num, List.all_eq_true]
    intro c hc
    obtain ⟨b1, b2⟩ := a1 c hc
    rw [figs_sgs]
    have : c = 48 ∨ c = 49 ∨ c = 50 ∨ c = 51 ∨ c = 52 ∨ c = 53 ∨ c = 54 ∨ c = 55 ∨ c = 56 ∨ c = 57 := by omega
    exact decide_eq_true (by simpa using this)
  unfold numD
  rw [ha, hl, decide_eq_true (by omega), decide_eq_true (by omega), sgs_num, a2]
  simp only [Bool.and_self, if_true]
  rw [if_neg]
  rw [Bool.and_eq_true, not_and]
  intro e1 e2
  have e1 : sg ((dgs m).headD 0) = sg 48 := by simpa using e1
  by_cases hm : 0 < m
  · obtain ⟨c, r, e, hc⟩ := a3 hm
    rw [e] at e1
    unfold sg at e1
    simp at e1
    exact hc e1
  · have : m = 0 := by omega
    subst this
    have : num 0 = sg 48 := by decide +kernel
    rw [this] at e2
    simp at e2
@[simp] theorem mapF_comp_str {k : Fl → Fl} : mapF k ∘ D.str = D.str := rfl
@[simp] theorem mapF_comp_str2 {α : Type} {k : Fl → Fl} {g : α → Str} : mapF k ∘ D.str ∘ g = D.str ∘ g := rfl
@[simp] theorem map_mapF_str {k : Fl → Fl} {F : List Str} : List.map (mapF k) (F.map D.str) = F.map D.str := by rw [List.map_map]; rfl
@[simp] theorem all_noT_str {F : List Str} : (F.map D.str).all noT = true := by rw [List.all_map]; exact List.all_eq_true.mpr fun _ _ => rfl
@[simp] theorem all_noB_str {F : List Str} : (F.map D.str).all noB = true := by rw [List.all_map]; exact List.all_eq_true.mpr fun _ _ => rfl
theorem ixfig {k : Nat} (h : k < 10) : pIx [.str figs, .int (k : Nat)] = some (.str (sg (48 + k))) := by
  have : ∀ k : Fin 10, atI figs.cps.toList ((k.val : Nat) : Int) = some (48 + k.val) := by decide +kernel
  show (if figs.length ≤ sizeLine then (atI figs.cps.toList (k : Nat)).map (fun c => D.str ⟨#[c]⟩) else none) = _
  rw [if_pos (by decide +kernel), this ⟨k, h⟩]
  rfl
theorem gt_int {i j : Int} : pGt [.int i, .int j] = some (.bl (decide (j < i))) := rfl
theorem join_sg (cs : List Nat) : Txt.join "" (cs.map sg) = ⟨cs.toArray⟩ := by
  have key : ∀ cs : List Nat, (Str.join "" (cs.map sg)) = ⟨cs.toArray⟩ := by
    intro cs
    induction cs with
    | nil => rfl
    | cons c cs ih =>
      cases cs with
      | nil => rfl
      | cons d ds =>
        show sg c ++ "" ++ Str.join "" ((d :: ds).map sg) = _
        rw [ih]
        have : sg c ++ (Str.ofString "") = sg c := by
          show (⟨#[c] ++ (Str.ofString "").cps⟩ : Str) = ⟨#[c]⟩
          have : (Str.ofString "").cps = #[] := by decide +kernel
          rw [this]; simp
        rw [this]
        show (⟨#[c] ++ (d :: ds).toArray⟩ : Str) = _
        simp
  rw [TL.join_eq]
  exact key cs
theorem at_str {z : Str} (hz : OkS z 200) {k : Int} (h0 : 0 ≤ k) (h1 : k < z.length) : ∃ w, pIx [.str z, .int k] = some (.str w) ∧ OkS w 1 := by
  have hl : k.toNat < (sgs z).length := by rw [sgs_len]; omega
  have e : atI z.cps.toList k = some ((sgs z)[k.toNat]) := by
    unfold atI ixN
    rw [if_pos h0, if_pos (by rw [show z.cps.toList = sgs z from rfl, sgs_len]; exact h1)]
    exact List.getElem?_eq_getElem hl
  refine ⟨sg ((sgs z)[k.toNat]), ?_, sg_ok hz (List.getElem_mem hl)⟩
  show (if z.length ≤ sizeLine then (atI z.cps.toList k).map (fun c => D.str ⟨#[c]⟩) else none) = _
  rw [if_pos (show z.length ≤ sizeLine from Nat.le_trans hz.len (by decide)), e]
  rfl
theorem okS_of {z : Str} {n : Nat} (h1 : z.length ≤ n) (h : z.cps.toList.all (fun c => decide (c < 0x110000)) = true) : OkS z n := ⟨h1, fun c hc => of_decide_eq_true (List.all_eq_true.mp h c hc)⟩
theorem lets_ok : OkS lets 200 := okS_of (by decide +kernel) (by decide +kernel)
theorem lets_len : lets.length = 26 := by decide +kernel
theorem str_fig {k : Int} (h0 : 0 ≤ k) (h1 : k < 10) : ∃ w, pStr [.int k] = some (.str w) ∧ OkS w 1 := by
  obtain ⟨m, rfl⟩ := Int.eq_ofNat_of_zero_le h0
  have hm : m < 10 := by omega
  refine ⟨num m, ?_, ?_, fun c hc => ?_⟩
  · unfold pStr
    have hlog : (m : Int).natAbs.log2 < 1920 := by
      by_cases h0 : m = 0
      · subst h0; decide
      · exact Nat.lt_trans ((Nat.log2_lt (k := 4) (by simpa using h0)).mpr (by simp; omega)) (by decide)
    dsimp only
    rw [if_pos hlog, num_eq]
  · rw [← sgs_len, sgs_num, dgs_lt hm]; simp
  · have hc : c ∈ sgs (num m) := hc
    rw [sgs_num, dgs_lt hm] at hc
    have : c = 48 + m := by simpa using hc
    omega
theorem rng_nat {n : Nat} (hn : n ≤ 2000) : rngOk (n : Int) = true := by
  have h1 : -(2 ^ 62 : Int) ≤ (n : Int) := by
    have : (0 : Int) ≤ 2 ^ 62 := by decide
    omega
  have h2 : (n : Int) < 2 ^ 62 := Int.lt_of_le_of_lt (b := 2000) (by omega) (by decide)
  unfold rngOk
  rw [decide_eq_true h1, decide_eq_true h2]
  rfl
theorem rng_len (n : Nat) : ((n : Int) - 0).toNat = n := by simp
theorem join_ok {f : Fl} {ws : List Str} (h : ∀ w ∈ ws, OkS w 2) (hl : ws.length ≤ 1100) : ∃ t, pJoin [.str "", .nd (.lst f) (ws.map .str)] = some (.str t) ∧ OkS t 2200 := by
  have hs : strsD (ws.map .str) = some ws := by
    clear h hl
    induction ws with
    | nil => rfl
    | cons y ys ih => rw [List.map_cons, strsD, ih]; rfl
  have e0 : (Str.ofString "").length = 0 := by decide +kernel
  have sum : (ws.map Str.length).sum ≤ 2 * ws.length := by
    clear hl hs
    induction ws with
    | nil => simp
    | cons y ys ih =>
      have h1 := (h y List.mem_cons_self).len
      have h2 := ih fun w hw => h w (List.mem_cons_of_mem _ hw)
      rw [List.map_cons, List.sum_cons, List.length_cons]
      omega
  have ec : ∀ ws : List Str, (∀ w ∈ ws, OkS w 2) → ∀ c ∈ (Str.join "" ws).cps.toList, c < 0x110000 := by
    intro ws
    induction ws with
    | nil =>
      intro _ c hc
      have : c ∈ (#[] : Array Nat).toList := hc
      simp at this
    | cons y ys ih =>
      intro h
      cases ys with
      | nil => exact (h y List.mem_cons_self).ok
      | cons z zs =>
        intro c hc
        have hc : c ∈ (y.cps ++ (Str.ofString "").cps ++ (Str.join "" (z :: zs)).cps).toList := hc
        have : (Str.ofString "").cps = #[] := by decide +kernel
        rw [this] at hc
        simp only [Array.toList_append, List.mem_append] at hc
        rcases hc with (hc | hc) | hc
        · exact (h y List.mem_cons_self).ok c hc
        · simp at hc
        · exact ih (fun w hw => h w (List.mem_cons_of_mem _ hw)) c hc
  refine ⟨Txt.join "" ws, ?_, ?_, ?_⟩
  · show (strsD (ws.map .str)).bind (fun ys => if (ys.map Str.length).sum + ys.length * (Str.ofString "").length ≤ 16777216 then some (D.str (Txt.join "" ys)) else none) = _
    rw [hs, Option.bind_some, e0, if_pos (by omega)]
  · rw [TL.join_eq]
    have := StrLaws.join_length_le (Str.ofString "") ws
    rw [e0] at this
    change _ ≤ (ws.map Str.length).sum + _ at this
    omega
  · rw [TL.join_eq]
    exact ec ws h
theorem at_lst {f : Fl} {ds : List D} {k : Int} (h0 : 0 ≤ k) (h1 : k < ds.length) : ∃ d ∈ ds, pIx [.nd (.lst f) ds, .int k] = some d := by
  have hl : k.toNat < ds.length := by omega
  refine ⟨ds[k.toNat], List.getElem_mem hl, ?_⟩
  show atI ds k = _
  unfold atI ixN
  rw [if_pos h0, if_pos h1]
  exact List.getElem?_eq_getElem hl
theorem modr (c : Int) {j : Int} (h : 0 < j) : 0 ≤ c % j ∧ c % j < j := ⟨Int.emod_nonneg _ (by omega), Int.emod_lt_of_pos _ h⟩
theorem len_lst {f : Fl} {ds : List D} : pLen [.nd (.lst f) ds] = some (.int ds.length) := rfl
@[simp] theorem mapF_comp_int {k : Fl → Fl} : mapF k ∘ D.int = D.int := rfl
theorem split_ok {s y : Str} {n : Nat} (o : OkS s n) : ∀ p ∈ Txt.split s y, OkS p n := by
  have sub : ∀ i j, OkS (Builtin.Str.strSub s i j) n := fun i j => by
    refine ⟨?_, fun c hc => ?_⟩
    · have : (Builtin.Str.strSub s i j).length ≤ s.length := by
        show (s.cps.extract i j).size ≤ s.cps.size
        simp; omega
      exact Nat.le_trans this o.len
    · have hc : c ∈ (s.cps.extract i j).toList := hc
      rw [Array.toList_extract] at hc
      exact o.ok c (List.mem_of_mem_drop (List.mem_of_mem_take (by simpa using hc)))
  intro p hp
  unfold Txt.split at hp
  split at hp
  · rw [List.mem_singleton.mp hp]; exact o
  · split at hp
    · rw [List.mem_singleton.mp hp]; exact o
    · unfold Builtin.Str.partsBetween at hp
      obtain ⟨⟨i, j⟩, _, rfl⟩ := List.mem_map.mp hp
      exact sub i j
theorem in_strs {f : Fl} {ss : List Str} : pIn [.str "", .nd (.lst f) (ss.map .str)] = some (.bl (ss.any fun y => y == "")) := by
  have h1 : (ss.map D.str).all isAt = true := by rw [List.all_map]; exact List.all_eq_true.mpr fun _ _ => rfl
  show ((if isAt (.str "") && (ss.map D.str).all isAt then some ((ss.map D.str).any fun y => eqA y (.str "")) else none).map D.bl) = _
  rw [h1, List.any_map]
  rfl
theorem add_str {a b : Str} {n m : Nat} (ha : OkS a n) (hb : OkS b m) (h : n + m ≤ 1000000) : pAdd [.str a, .str b] = some (.str (a ++ b)) ∧ OkS (a ++ b) (n + m) := by
  have hl : (a ++ b).length = a.length + b.length := Str.length_append a b
  refine ⟨?_, ?_, fun c hc => ?_⟩
  · show (if a.length + b.length ≤ sizeLine then _ else _) = _
    exact if_pos (Nat.le_trans (m := 1000000) (by have := ha.len; have := hb.len; omega) (by decide))
  · rw [hl]; have := ha.len; have := hb.len; omega
  · have hc : c ∈ (a.cps ++ b.cps).toList := hc
    rw [Array.toList_append, List.mem_append] at hc
    exact hc.elim (ha.ok c) (hb.ok c)
def rep (z : Str) (k : Nat) : Str := ⟨(List.replicate k z.cps.toList).flatten.toArray⟩
theorem rep_len {z : Str} {k : Nat} (h : z.length = 1) : (rep z k).length = k := by
  show ((List.replicate k z.cps.toList).flatten.toArray).size = k
  have : z.cps.toList.length = 1 := by rw [Array.length_toList]; exact h
  rw [List.size_toArray, List.length_flatten, List.map_replicate, List.sum_replicate_nat, this]
  omega
theorem mul_rep {z : Str} {k : Nat} (h : z.length = 1) (hk : 2 ≤ k) (hk2 : k ≤ 10000) : pMul [.str z, .int k] = some (.str (rep z k)) := by
  have h30 : (k : Int) < 2 ^ 30 := Int.lt_of_le_of_lt (b := 10000) (by omega) (by decide)
  show (if z.length * (k : Int).toNat ≤ sizeLine ∧ 2 ≤ (k : Int) ∧ (k : Int) < 2 ^ 30 ∧ 1 ≤ z.length then some (D.str ⟨(List.replicate (k : Int).toNat z.cps.toList).flatten.toArray⟩) else none) = _
  rw [if_pos ⟨by rw [h]; exact Nat.le_trans (m := 10000) (by simp; omega) (by decide), by omega, h30, by omega⟩]
  rfl
theorem sSeq_assoc {a b r : Mst} {ρ : En} : sSeq a (sSeq b r) ρ = sSeq (sSeq a b) r ρ := by
  unfold sSeq
  cases a ρ with
  | none => rfl
  | some p =>
    obtain ⟨o, ρ1⟩ := p
    cases o <;> rfl
end OB

namespace OB
open PySem PySem.Spec PyProof.Rows L2 PySem.NumText
class Bd (i : Int) (n : outParam Nat) : Prop where lt : i.natAbs < 2 ^ n
theorem Bd.mono {i : Int} {n m : Nat} (h : Bd i n) (l : n ≤ m) : Bd i m := ⟨Nat.lt_of_lt_of_le h.lt (Nat.pow_le_pow_right (by decide) l)⟩
instance bd_lit {k : Nat} : Bd (no_index (OfNat.ofNat k : Int)) (k.log2 + 1) := ⟨by
  show (Int.natAbs ((k:Nat):Int)) < _
  simpa using Nat.lt_log2_self⟩
instance bd_neg {i : Int} {n : Nat} [a : Bd i n] : Bd (-i) n := ⟨by rw [Int.natAbs_neg]; exact a.lt⟩
instance bd_mod {i : Int} {k : Nat} [h : NeZero k] : Bd (i % (no_index (OfNat.ofNat k : Int))) (k.log2 + 1) := ⟨by
  have h1 : 0 ≤ i % ((k : Nat) : Int) := Int.emod_nonneg _ (by have := h.out; omega)
  have h2 : i % ((k : Nat) : Int) < k := Int.emod_lt_of_pos _ (by have := h.out; omega)
  have h3 : k < 2 ^ (k.log2 + 1) := Nat.lt_log2_self
  show (i % ((k:Nat):Int)).natAbs < _
  omega⟩
instance bd_div {i j : Int} {n : Nat} [a : Bd i n] : Bd (i / j) n := ⟨Nat.lt_of_le_of_lt (Int.natAbs_ediv_le_natAbs _ _) a.lt⟩
instance bd_mul {i j : Int} {n m : Nat} [a : Bd i n] [b : Bd j m] : Bd (i * j) (n + m) := ⟨by
  rw [Int.natAbs_mul, Nat.pow_add]
  exact Nat.mul_lt_mul'' a.lt b.lt⟩
theorem bd_two {a b n m : Nat} (h1 : a < 2 ^ n) (h2 : b < 2 ^ m) : a + b < 2 ^ (max n m + 1) := by
  have h3 : 2 ^ n ≤ 2 ^ max n m := Nat.pow_le_pow_right (by decide) (Nat.le_max_left _ _)
  have h4 : 2 ^ m ≤ 2 ^ max n m := Nat.pow_le_pow_right (by decide) (Nat.le_max_right _ _)
  rw [Nat.pow_succ]
  omega
instance bd_add {i j : Int} {n m : Nat} [a : Bd i n] [b : Bd j m] : Bd (i + j) (max n m + 1) := ⟨by
  have := bd_two a.lt b.lt
  omega⟩
instance bd_sub {i j : Int} {n m : Nat} [a : Bd i n] [b : Bd j m] : Bd (i - j) (max n m + 1) := ⟨by
  have := bd_two a.lt b.lt
  omega⟩
instance bd_abs {i : Int} {n : Nat} [a : Bd i n] : Bd ((i.natAbs : Nat) : Int) n := ⟨by simpa using a.lt⟩
theorem bd_of {i : Int} {n : Nat} (h : i.natAbs < 2 ^ n) : Bd i n := ⟨h⟩
theorem bd_range {i c : Int} {n : Nat} (h : -c ≤ i ∧ i ≤ c) (hc : c.natAbs < 2 ^ n) : Bd i n := ⟨by omega⟩
theorem Bd.log {i : Int} {n : Nat} (h : Bd i n) : i.natAbs.log2 ≤ n := by
  by_cases e : i.natAbs = 0
  · rw [e]; exact Nat.zero_le _
  · exact Nat.le_of_lt ((Nat.log2_lt e).mpr h.lt)

/-! ### rows -/
@[simp] theorem addI {i j : Int} : pAdd [.int i, .int j] = some (.int (i + j)) := rfl
@[simp] theorem subI {i j : Int} : pSub [.int i, .int j] = some (.int (i - j)) := rfl
@[simp] theorem negI {i : Int} : pNeg [.int i] = some (.int (-i)) := rfl
@[simp] theorem absI {i : Int} : pAbs [.int i] = some (.int (i.natAbs : Nat)) := by
  show some (D.int (if i < 0 then -i else i)) = _
  congr 2
  split <;> omega
@[simp] theorem mulI {i j : Int} {n m : Nat} [a : Bd i n] [b : Bd j m] (h : n + m ≤ 134217728) : pMul [.int i, .int j] = some (.int (i * j)) := mul_int a.lt b.lt h
@[simp] theorem modI {i j : Int} (h : 0 < j) : pMod [.int i, .int j] = some (.int (i % j)) := mod_int h
theorem divB {i j : Int} {m : Nat} (b : Bd j m) (h : 0 < j) (hm : m < 9000) : pDiv [.int i, .int j] = some (.int (i / j)) := by
  have : divOk j = true := by
    unfold divOk
    rw [Bool.and_eq_true]
    exact ⟨decide_eq_true (by omega), decide_eq_true (Nat.lt_of_le_of_lt b.log hm)⟩
  show (if divOk j = true then some (D.int (divV i j)) else none) = _
  rw [if_pos this]
  unfold divV
  rw [if_pos h]
@[simp] theorem divI {i j : Int} {m : Nat} [b : Bd j m] (h : 0 < j) (hm : m < 9000) : pDiv [.int i, .int j] = some (.int (i / j)) := divB b h hm
@[simp] theorem powI {i j : Int} (h : powOk i j = true) : pPow [.int i, .int j] = some (.int (i ^ j.toNat)) := by
  show (if powOk i j = true then _ else _) = _
  exact if_pos h
@[simp] theorem ltI {i j : Int} : pLt [.int i, .int j] = some (.bl (decide (i < j))) := rfl
@[simp] theorem leI {i j : Int} : pLe [.int i, .int j] = some (.bl (decide (i ≤ j))) := rfl
@[simp] theorem gtI {i j : Int} : pGt [.int i, .int j] = some (.bl (decide (j < i))) := rfl
@[simp] theorem geI {i j : Int} : pGe [.int i, .int j] = some (.bl (decide (j ≤ i))) := rfl
@[simp] theorem eqI {i j : Int} : pEq [.int i, .int j] = some (.bl (decide (i = j))) := rfl
@[simp] theorem neI {i j : Int} : pNe [.int i, .int j] = some (.bl (!decide (i = j))) := rfl
@[simp] theorem eqS {i j : Str} : pEq [.str i, .str j] = some (.bl (decide (i = j))) := rfl
@[simp] theorem neS {i j : Str} : pNe [.str i, .str j] = some (.bl (!decide (i = j))) := rfl
@[simp] theorem eqB {i j : Bool} : pEq [.bl i, .bl j] = some (.bl (i == j)) := rfl
@[simp] theorem neB {i j : Bool} : pNe [.bl i, .bl j] = some (.bl (!(i == j))) := rfl
@[simp] theorem isNonI {i : Int} : pIs [.int i, .non] = some (.bl false) := rfl
@[simp] theorem isNonS {i : Str} : pIs [.str i, .non] = some (.bl false) := rfl
@[simp] theorem isNonB {i : Bool} : pIs [.bl i, .non] = some (.bl false) := rfl
@[simp] theorem isNonN : pIs [.non, .non] = some (.bl true) := rfl
@[simp] theorem isNonD {k : Kd} {ds : List D} : pIs [.nd k ds, .non] = some (.bl false) := rfl
@[simp] theorem isNNonI {i : Int} : pIsN [.int i, .non] = some (.bl true) := rfl
@[simp] theorem isNNonS {i : Str} : pIsN [.str i, .non] = some (.bl true) := rfl
@[simp] theorem isNNonB {i : Bool} : pIsN [.bl i, .non] = some (.bl true) := rfl
@[simp] theorem isNNonN : pIsN [.non, .non] = some (.bl false) := rfl
@[simp] theorem isNNonD {k : Kd} {ds : List D} : pIsN [.nd k ds, .non] = some (.bl true) := rfl
@[simp] theorem isBB {a b : Bool} : pIs [.bl a, .bl b] = some (.bl (decide (a = b))) := rfl
@[simp] theorem isNBB {a b : Bool} : pIsN [.bl a, .bl b] = some (.bl (!decide (a = b))) := rfl
@[simp] theorem intB {b : Bool} : pInt4 [.bl b] = some (.int (if b then 1 else 0)) := rfl
@[simp] theorem intI {b : Int} : pInt4 [.int b] = some (.int b) := rfl
@[simp] theorem lstR {ds : List D} (h : ds.length ≤ 16777216) : pLst ds = some (.nd (.lst .own) ds) := if_pos h
@[simp] theorem tupR {ds : List D} (h : ds.length ≤ 16777216) : pTup ds = some (.nd .tup ds) := if_pos h
@[simp] theorem lenL {f : Fl} {ds : List D} : pLen [.nd (.lst f) ds] = some (.int ds.length) := rfl
@[simp] theorem lenT {ds : List D} : pLen [.nd .tup ds] = some (.int ds.length) := rfl
@[simp] theorem lenD {f : Fl} {ks : List Key} {ds : List D} : pLen [.nd (.dct f ks) ds] = some (.int ks.length) := rfl
@[simp] theorem lenS {s : Str} (h : s.length ≤ 16777216) : pLen [.str s] = some (.int s.length) := len_str h
theorem ixT {ds : List D} {k : Nat} {d : D} (h : ds[k]? = some d) : pIx [.nd .tup ds, .int k] = some d := by
  have hl := (List.getElem?_eq_some_iff.mp h).1
  show atI _ _ = _
  unfold atI ixN
  rw [if_pos (by omega), if_pos (by omega)]
  simpa using h
theorem ixL {f : Fl} {ds : List D} {k : Nat} {d : D} (h : ds[k]? = some d) : pIx [.nd (.lst f) ds, .int k] = some d := by
  have hl := (List.getElem?_eq_some_iff.mp h).1
  show atI _ _ = _
  unfold atI ixN
  rw [if_pos (by omega), if_pos (by omega)]
  simpa using h
@[simp] theorem ixT0 {a : D} {r : List D} : pIx [.nd .tup (a :: r), .int 0] = some a := ixT (k := 0) rfl
@[simp] theorem ixT1 {a b : D} {r : List D} : pIx [.nd .tup (a :: b :: r), .int 1] = some b := ixT (k := 1) rfl
@[simp] theorem ixT2 {a b c : D} {r : List D} : pIx [.nd .tup (a :: b :: c :: r), .int 2] = some c := ixT (k := 2) rfl
@[simp] theorem ixT3 {a b c d : D} {r : List D} : pIx [.nd .tup (a :: b :: c :: d :: r), .int 3] = some d := ixT (k := 3) rfl
@[simp] theorem ixL0 {f : Fl} {a : D} {r : List D} : pIx [.nd (.lst f) (a :: r), .int 0] = some a := ixL (k := 0) rfl
@[simp] theorem ixL1 {f : Fl} {a b : D} {r : List D} : pIx [.nd (.lst f) (a :: b :: r), .int 1] = some b := ixL (k := 1) rfl
/-- a drawn one of some numbers, texts -/
theorem pick_int {f : Fl} {vs : List Int} {k : Int} (h0 : 0 ≤ k) (h1 : k < vs.length) : ∃ v ∈ vs, pIx [.nd (.lst f) (vs.map .int), .int k] = some (.int v) := by
  obtain ⟨d, hd, e⟩ := at_lst (f := f) (ds := vs.map .int) h0 (by simpa using h1)
  obtain ⟨v, hv, rfl⟩ := List.mem_map.mp hd
  exact ⟨v, hv, e⟩
theorem pick_str {f : Fl} {vs : List Str} {k : Int} (h0 : 0 ≤ k) (h1 : k < vs.length) : ∃ v ∈ vs, pIx [.nd (.lst f) (vs.map .str), .int k] = some (.str v) := by
  obtain ⟨d, hd, e⟩ := at_lst (f := f) (ds := vs.map .str) h0 (by simpa using h1)
  obtain ⟨v, hv, rfl⟩ := List.mem_map.mp hd
  exact ⟨v, hv, e⟩
/-- texts as wholes -/
theorem lit_eq (s : String) : (Str.ofString s).cps.toList = s.toList.map Char.toNat := by
  rw [Str.ofString_eq_toList]
theorem lit_len (s : String) : (Str.ofString s).length = s.length := by
  rw [← sgs_len]
  unfold sgs
  rw [lit_eq, List.length_map, String.length_toList]
theorem lit_ok (s : String) : OkS (Str.ofString s) s.length := ⟨Nat.le_of_eq (lit_len s), fun c hc => by
  rw [lit_eq] at hc
  obtain ⟨d, _, rfl⟩ := List.mem_map.mp hc
  have := d.valid
  rcases this with h | h
  · exact Nat.lt_trans h (by decide)
  · exact h.2⟩
theorem OkS.mono {s : Str} {n m : Nat} (h : OkS s n) (l : n ≤ m) : OkS s m := ⟨Nat.le_trans h.len l, h.ok⟩
end OB
namespace OB
open PySem PySem.Spec PyProof.Rows L2
section
variable {t : En → Ot Bool} {b : Mst}
theorem whileL_step {n : Nat} {ρ ρ2 : En} {r : Option (Out × En)} (ht : t ρ = .ok true) (hb : b ρ = some (.nx, ρ2)) (hr : whileL t b n ρ2 = r) : whileL t b (n + 1) ρ = r := by
  rw [whileL, ht]
  dsimp only
  rw [if_pos rfl, hb]
  exact hr
theorem whileL_stop {ρ : En} (ht : t ρ = .ok false) : whileL t b 1 ρ = some (.nx, ρ) := by
  rw [whileL, ht]
  rfl
/-- a while by a state and a number that falls -/
theorem sWhile_run {α : Type} (st fin : α → En) (μ : α → Nat) (P : α → Prop) (h : ∀ a, P a → (t (st a) = .ok false ∧ fin a = st a) ∨ (t (st a) = .ok true ∧ ∃ a', b (st a) = some (.nx, st a') ∧ P a' ∧ μ a' < μ a ∧ fin a = fin a')) : ∀ a, P a → sWhile t b (st a) = some (.nx, fin a) := by
  have key : ∀ (n : Nat) (a : α), μ a < n → P a → ∃ N, whileL t b N (st a) = some (.nx, fin a) := by
    intro n
    induction n with
    | zero => exact fun a h => absurd h (by omega)
    | succ n ih =>
      intro a hn hP
      rcases h a hP with ⟨h1, h2⟩ | ⟨h1, a', h2, h3, h4, h5⟩
      · exact ⟨1, by rw [h2]; exact whileL_stop h1⟩
      · obtain ⟨N, e⟩ := ih a' (by omega) h3
        exact ⟨N + 1, by rw [h5]; exact whileL_step h1 h2 e⟩
  intro a hP
  obtain ⟨N, e⟩ := key (μ a + 1) a (by omega) hP
  exact sWhile_of e
end
@[simp] theorem sPar_eq {is : List Nat} {fs : List (En → Ot D)} {ρ : En} : sPar is fs ρ = match eL fs ρ with
  | .no => none
  | .ok ds => if ds.all noT && ds.length == is.length then some (.nx, (is.zip ds).foldl (fun ρ p => ρ.set p.1 (some p.2)) ρ) else none
  | .ex x => some (.ex x, ρ) := rfl
end OB
namespace OB
open PySem PySem.Spec PyProof.Rows L2
/-! ### equality of tuples, lists of numbers -/
theorem toPyL_ints : ∀ ss : List Int, toPyL (ss.map .int) = some (ss.map .int)
  | [] => rfl
  | s :: ss => by
    rw [List.map_cons, toPyL, toPyL_ints ss]; rfl
theorem canLay_ints : ∀ ss : List Int, PyData.canLayAll0 (ss.map .int) = true
  | [] => rfl
  | s :: ss => by rw [List.map_cons, PyData.canLayAll0, canLay_ints ss]; rfl
theorem depth_ints : ∀ ss : List Int, PyData.depthAll (ss.map .int) = 0
  | [] => rfl
  | s :: ss => by rw [List.map_cons, PyData.depthAll, depth_ints ss]; rfl
theorem eqvAll_ints : ∀ ss tt : List Int, PyData.eqvAll (ss.map .int) (tt.map .int) = decide (ss = tt)
  | [], [] => by simp [PyData.eqvAll]
  | [], t :: tt => by simp [PyData.eqvAll]
  | s :: ss, [] => by simp [PyData.eqvAll]
  | s :: ss, t :: tt => by
    rw [List.map_cons, List.map_cons, PyData.eqvAll, eqvAll_ints ss tt, PyData.eqv]
    by_cases h1 : s = t <;> by_cases h2 : ss = tt <;> simp [h1, h2]
theorem deepEq_tupI (ss tt : List Int) : deepEq (.nd .tup (ss.map .int)) (.nd .tup (tt.map .int)) = some (decide (ss = tt)) := by
  unfold deepEq
  rw [toPy, toPy, toPyL_ints, toPyL_ints]
  simp only [Option.map_some, Option.bind_some, SeqAt.shaped, PyData.canLay0, PyData.depth, canLay_ints, depth_ints, PyData.eqv, eqvAll_ints]
  rfl
theorem deepEq_lstI (f g : Fl) (ss tt : List Int) : deepEq (.nd (.lst f) (ss.map .int)) (.nd (.lst g) (tt.map .int)) = some (decide (ss = tt)) := by
  unfold deepEq
  rw [toPy, toPy, toPyL_ints, toPyL_ints]
  simp only [Option.map_some, Option.bind_some, SeqAt.shaped, PyData.canLay0, PyData.depth, canLay_ints, depth_ints, PyData.eqv, eqvAll_ints]
  rfl
@[simp] theorem eqT2 {a b c d : Int} : pEq [.nd .tup [.int a, .int b], .nd .tup [.int c, .int d]] = some (.bl (decide (a = c) && decide (b = d))) := by
  unfold pEq
  simp only [atEq, Option.none_or]
  rw [show deepEq (.nd .tup [.int a, .int b]) (.nd .tup [.int c, .int d]) = _ from deepEq_tupI [a, b] [c, d]]
  by_cases h1 : a = c <;> by_cases h2 : b = d <;> simp [h1, h2]
@[simp] theorem neT2 {a b c d : Int} : pNe [.nd .tup [.int a, .int b], .nd .tup [.int c, .int d]] = some (.bl (!(decide (a = c) && decide (b = d)))) := by
  unfold pNe
  simp only [atEq, Option.none_or]
  rw [show deepEq (.nd .tup [.int a, .int b]) (.nd .tup [.int c, .int d]) = _ from deepEq_tupI [a, b] [c, d]]
  by_cases h1 : a = c <;> by_cases h2 : b = d <;> simp [h1, h2]
@[simp] theorem eqLnil {f g : Fl} : pEq [.nd (.lst f) [], .nd (.lst g) []] = some (.bl true) := by
  unfold pEq
  simp only [atEq, Option.none_or]
  rw [show deepEq (.nd (.lst f) []) (.nd (.lst g) []) = _ from deepEq_lstI f g [] []]
  rfl
@[simp] theorem neLnil {f g : Fl} : pNe [.nd (.lst f) [], .nd (.lst g) []] = some (.bl false) := by
  unfold pNe
  simp only [atEq, Option.none_or]
  rw [show deepEq (.nd (.lst f) []) (.nd (.lst g) []) = _ from deepEq_lstI f g [] []]
  rfl
@[simp] theorem forL_nil {tg : D → En → Option En} {b : Mst} {ρ : En} : forL tg b [] ρ = some (.nx, ρ) := rfl
@[simp] theorem compL_nil {tg : D → En → Option En} {c : En → Ot Bool} {f : En → Ot D} {ρ : En} : compL tg c f ρ [] = some [] := rfl
theorem compL_cons {tg : D → En → Option En} {c : En → Ot Bool} {f : En → Ot D} {ρ : En} {d : D} {ds : List D} : compL tg c f ρ (d :: ds) = (tg d ρ).bind fun ρ1 => match c ρ1 with
    | .ok true => (match f ρ1 with
      | .ok y => (compL tg c f ρ ds).map (y :: ·)
      | _ => none)
    | .ok false => compL tg c f ρ ds
    | _ => none := rfl
theorem eComp_eq {it : En → Ot Its'} {tg : D → En → Option En} {c : En → Ot Bool} {f : En → Ot D} {vs : List Nat} {ρ : En} : eComp it tg c f vs ρ = (it ρ).bind fun p => match compL tg c f (wipeE ρ vs) p.1 with
    | some ys => if ys.length ≤ sizeLine then .ok (.nd (.lst .own) ys) else .no
    | none => .no := rfl
@[simp] theorem tgName_eq {i : Nat} {d : D} {ρ : En} : tgName i d ρ = some (ρ.set i (some d)) := rfl
@[simp] theorem itemsT {ds : List D} : itemsD (.nd .tup ds) = some (ds.map toFrz, ds.all noT) := rfl
@[simp] theorem itemsL {f : Fl} {ds : List D} : itemsD (.nd (.lst f) ds) = some (ds.map toFrz, f != .tmp && ds.all noT) := rfl
@[simp] theorem wipe1 {ρ : En} {i : Nat} : wipeE ρ [i] = ρ.set i none := rfl
@[simp] theorem wipe2 {ρ : En} {i j : Nat} : wipeE ρ [i, j] = (ρ.set j none).set i none := rfl
end OB

namespace OB
open PySem PySem.Spec PyProof.Rows L2
section
variable {K : PySem.W.Frag} {cm : Cm} {H H' : Hp} {Z Z' : Zn}
theorem Rep.focusO : ∀ (js : List Nat) {d : D} {v : V} {F : List Addr} {d0 : D}, Rep K cm H Z d v F → getP d js = some d0 → ∃ v0 F0 A B, F = A ++ F0 ++ B ∧ Rep K cm H Z d0 v0 F0 ∧
    ∀ (O : Addr → Prop) (H' : Hp) (Z' : Zn) (d1 : D) (F1 : List Addr), (∀ x ∈ A, ¬ O x) → (∀ x ∈ B, ¬ O x) → CellMove K cm H H' Z Z' id (fun a => ¬ O a) → Rep K cm H' Z' d1 v0 F1 → Rep K cm H' Z' (putP d js d1) v (A ++ F1 ++ B)
  | [], d, v, F, d0, h, e => by
    simp only [getP, Option.some.injEq] at e
    subst e
    exact ⟨v, F, [], [], by simp, h, fun O H' Z' d1 F1 _ _ _ r => by simpa [putP] using r⟩
  | j :: js, .nd k ds, v, F, d0, h, e => by
    obtain ⟨a, vs, Fs, rfl, c, l, rfl⟩ := h
    unfold getP at e
    cases ej : ds[j]? with
    | none => rw [ej] at e; cases e
    | some dj =>
      rw [ej] at e
      obtain ⟨vj, Fj, A, B, e1, e2, r, kk⟩ := RepL.focus ds l ej
      obtain ⟨v0, F0, A2, B2, e3, r0, k2⟩ := Rep.focusO js r e
      refine ⟨v0, F0, ownA k a ++ A ++ A2, B2 ++ B, by rw [e2, e3]; simp, r0, fun O H' Z' d1 F1 hA hB mv r1 => ?_⟩
      have hA1 : ∀ x ∈ A, ¬ O x := fun x q => hA x (by simp [q])
      have hA2 : ∀ x ∈ A2, ¬ O x := fun x q => hA x (by simp [q])
      have hB2 : ∀ x ∈ B2, ¬ O x := fun x q => hB x (by simp [q])
      have hB1 : ∀ x ∈ B, ¬ O x := fun x q => hB x (by simp [q])
      obtain ⟨Gs, g1, g2⟩ := kk H' Z' (putP dj js d1) (A2 ++ F1 ++ B2) (fun d v F h hF => h.stay mv fun x q => (hF x q).elim (hA1 x) (hB1 x)) (k2 O H' Z' d1 F1 hA2 hB2 mv r1)
      have cc := mv a k vs c (fun q => hA a (by unfold ownA; rw [if_pos q]; simp))
      rw [Kd.mapF_id] at cc
      refine (show Rep K cm H' Z' (putP (.nd k ds) (j :: js) d1) (.ref a) _ from ?_)
      unfold putP
      dsimp only
      rw [ej]
      exact ⟨a, vs, Gs, rfl, cc, g2, by rw [g1]; simp⟩
  | _ :: _, .non, _, _, _, _, e => by simp [getP] at e
  | _ :: _, .bl _, _, _, _, _, e => by simp [getP] at e
  | _ :: _, .int _, _, _, _, _, e => by simp [getP] at e
  | _ :: _, .str _, _, _, _, _, e => by simp [getP] at e
theorem slots_apart : ∀ {Fs : List (List Addr)} {i j : Nat} {F G : List Addr} {p : Addr}, Fs.flatten.Nodup → Fs[i]? = some F → Fs[j]? = some G → i ≠ j → p ∈ F → p ∈ G → False
  | [], _, _, _, _, _, _, e, _, _, _, _ => by simp at e
  | X :: Fs, i, j, F, G, p, nd, e1, e2, ne, h1, h2 => by
    rw [List.flatten_cons, List.nodup_append] at nd
    cases i with
    | zero =>
      cases j with
      | zero => exact ne rfl
      | succ j =>
        cases e1
        exact nd.2.2 p h1 p (flat_mem (by simpa using e2) h2) rfl
    | succ i =>
      cases j with
      | zero =>
        cases e2
        exact nd.2.2 p h2 p (flat_mem (by simpa using e1) h1) rfl
      | succ j => exact slots_apart nd.2.1 (by simpa using e1) (by simpa using e2) (fun q => ne (by rw [q])) h1 h2
end

/-! ### the promise -/
def lentM (H : Hp) (f : Addr → Prop) (O : List Addr) : Zn := ⟨f, fun a => H a ≠ none ∧ a ∉ O, fun _ => False⟩
structure MEnd (K : PySem.W.Frag) (cm : Cm) (H : Hp) (f : Addr → Prop) (O : List Addr) (ws : List V) (H' : Hp) (f' : Addr → Prop) (es : List D) (Es : List (List Addr)) (Fv : List Addr) : Prop where
  keep : Kept H O H'
  fm : ∀ a, f a → f' a
  fn : ∀ a, f' a → f a ∨ a ∈ O ∨ H a = none
  fd : ∀ a, f' a → H' a ≠ none
  rep : RepL K cm H' ⟨f', (lentM H f O).b, fun _ => False⟩ es ws Es
  nd : (Es.flatten ++ Fv).Nodup
  org : ∀ a ∈ Es.flatten ++ Fv, a ∈ O ∨ H a = none
  nf : ∀ a ∈ Es.flatten ++ Fv, ¬ f' a
abbrev MM := List D → Option (Ot D × List D)
def FinM (K : PySem.W.Frag) (cm : Cm) (ws : List V) (H : Hp) (f : Addr → Prop) (O : List Addr) (Q : VK) (E : XK) : Option (Ot D × List D) → Prop
  | none => False
  | some (.no, _) => False
  | some (.ok d, es) => ∀ v H' f' Es F, MEnd K cm H f O ws H' f' es Es F → Rep K cm H' ⟨f', (lentM H f O).b, fun _ => False⟩ d v F → Q v H'
  | some (.ex x, es) => ∀ cls dd H' f' Es, MEnd K cm H f O ws H' f' es Es [] → XRep K cm H' ⟨f', (lentM H f O).b, fun _ => False⟩ x cls dd → E cls dd H'
/-- the arguments at mt may be changed -/
def spM (K : PySem.W.Frag) (cm : Cm) (n : Nat) (mt : List Nat) (m : MM) : Sp := fun vs H Q E => ∃ f ds Gs, (∀ a, f a → H a ≠ none) ∧ ds.length = n ∧ RepL K cm H (lentM H f Gs.flatten) ds vs Gs ∧ Gs.flatten.Nodup ∧ (∀ a ∈ Gs.flatten, ¬ f a) ∧
  FinM K cm (mt.filterMap (vs[·]?)) H f Gs.flatten Q E (m ds)
theorem spM_len {K : PySem.W.Frag} {cm : Cm} {n : Nat} {mt : List Nat} {m : MM} {vs : List V} {H : Hp} {Q : VK} {E : XK} (h : spM K cm n mt m vs H Q E) : vs.length = n := by
  obtain ⟨f, ds, Gs, _, e, r, _⟩ := h
  rw [r.len.1, e]
/-! ### the body -/
def grab : List Nat → En → Option (List D)
  | [], _ => some []
  | i :: is, ρ => match ρ[i]? with
    | some (some d) => (grab is ρ).map (d :: ·)
    | _ => none
def bodyMM (n : Nat) (mt : List Nat) (g : Mst) : MM := fun ds => match g (initE n ds) with
  | some (.nx, ρ) => (grab mt ρ).map fun es => (.ok .non, es)
  | some (.ret d, ρ) => (grab mt ρ).map fun es => (.ok d, es)
  | some (.ex x, ρ) => (grab mt ρ).map fun es => (.ex x, es)
  | _ => none
section
variable {P : Program} {w : World} {K : PySem.W.Frag} {mg : Str → Option Value} {base : Heap} {cm : Cm}
theorem grab_rep {H : Hp} {Z : Zn} {σ : L2.St} {ρ : En} {Fs : List (List Addr)} (r : RepE K cm H Z σ ρ Fs) (nd : Fs.flatten.Nodup) {vs : List V} : ∀ {mt : List Nat} {es : List D}, mt.Nodup → (∀ i ∈ mt, i < vs.length ∧ σ[i]? = some vs[i]?) → grab mt ρ = some es →
    ∃ Es, RepL K cm H Z es (mt.filterMap (vs[·]?)) Es ∧ Es.flatten.Nodup ∧ ∀ a ∈ Es.flatten, ∃ i ∈ mt, ∃ F, Fs[i]? = some F ∧ a ∈ F
  | [], _, _, _, e => by cases e; exact ⟨[], repL_nil, List.nodup_nil, fun _ h => nomatch h⟩
  | i :: mt, es, n, h, e => by
    unfold grab at e
    split at e
    · rename_i d hd
      cases q : grab mt ρ with
      | none => rw [q] at e; cases e
      | some es' =>
        rw [q] at e
        cases e
        obtain ⟨n1, n2⟩ := List.nodup_cons.mp n
        obtain ⟨Es, g1, g2, g3⟩ := grab_rep r nd n2 (fun j hj => h j (List.mem_cons_of_mem _ hj)) q
        obtain ⟨v, F, a1, a2, a3⟩ := r.get i d hd
        obtain ⟨b1, b2⟩ := h i List.mem_cons_self
        have ev : vs[i]? = some v := by
          rw [b2] at a1
          exact Option.some.inj a1
        refine ⟨F :: Es, ?_, ?_, fun a ha => ?_⟩
        · rw [List.filterMap_cons, ev]
          exact repL_cons a3 g1
        · rw [List.flatten_cons, List.nodup_append]
          refine ⟨(nd.sublist (flatten_get a2)), g2, fun x hx y hy exy => ?_⟩
          subst exy
          obtain ⟨j, hj, G, c1, c2⟩ := g3 x hy
          exact slots_apart nd a2 c1 (fun q => n1 (q ▸ hj)) hx c2
        · rw [List.flatten_cons] at ha
          rcases List.mem_append.mp ha with ha | ha
          · exact ⟨i, List.mem_cons_self, F, a2, ha⟩
          · obtain ⟨j, hj, G, c⟩ := g3 a ha
            exact ⟨j, List.mem_cons_of_mem _ hj, G, c⟩
    · cases e
theorem init_okM {H : Hp} {f : Addr → Prop} {ds : List D} {vs : List V} {Gs : List (List Addr)} {N : List Str} (hf : ∀ a, f a → H a ≠ none) (r : RepL K cm H (lentM H f Gs.flatten) ds vs Gs) (nd : Gs.flatten.Nodup) (nf : ∀ a ∈ Gs.flatten, ¬ f a) :
    ∃ Fs, Fs.flatten = Gs.flatten ∧ Ok K cm H (start N vs) (initE N.length ds) Fs (lentM H f Gs.flatten) := by
  have fl : (Gs ++ List.replicate (N.length - ds.length) ([] : List Addr)).flatten = Gs.flatten := by
    rw [List.flatten_append]
    have : (List.replicate (N.length - ds.length) ([] : List Addr)).flatten = [] := by
      induction N.length - ds.length with
      | zero => rfl
      | succ n ih => rw [List.replicate_succ, List.flatten_cons, ih]; rfl
    rw [this, List.append_nil]
  obtain ⟨l1, l2⟩ := r.len
  refine ⟨_, fl, ⟨⟨?_, ?_, ?_⟩, ⟨hf, fun _ h => h.1, fun _ h => h.elim⟩, (by rw [fl]; exact RepL.mut ds r), (by rw [fl]; exact nd), (by rw [fl]; exact fun a h => ⟨nf a h, fun q => q.2 h⟩), fun _ h => h⟩⟩
  · simp [L2.start, initE, l1]
  · simp [initE, l1, l2]
  · intro i d q
    unfold L2.start
    unfold initE at q
    by_cases hi : i < ds.length
    · rw [List.getElem?_append_left (by simpa using hi), List.getElem?_map] at q
      cases qd : ds[i]? with
      | none => rw [qd] at q; cases q
      | some d' =>
        rw [qd] at q
        cases q
        obtain ⟨v, F, a, b, c⟩ := r.get qd
        refine ⟨v, F, ?_, ?_, c⟩
        · rw [List.getElem?_append_left (by rw [List.length_map, l1]; exact hi), List.getElem?_map, a]; rfl
        · rw [List.getElem?_append_left (by rw [l2]; exact hi), b]
    · rw [List.getElem?_append_right (by simp; omega), List.getElem?_replicate] at q
      split at q <;> cases q
theorem body_finM {H : Hp} {f : Addr → Prop} {ds : List D} {vs : List V} {Gs : List (List Addr)} {N : List Str} {mt : List Nat} {g : Mst} {Q : VK} {E : XK} (hf : ∀ a, f a → H a ≠ none) (r : RepL K cm H (lentM H f Gs.flatten) ds vs Gs) (nd : Gs.flatten.Nodup) (nf : ∀ a ∈ Gs.flatten, ¬ f a)
    (hmt : mt.Nodup) (hm : ∀ i ∈ mt, i < vs.length) (q : FinM K cm (mt.filterMap (vs[·]?)) H f Gs.flatten Q E (bodyMM N.length mt g ds)) : tS K cm (fun cls dd _ H' => E cls dd H') mt g { nx := fun _ H' => Q .non H', rt := Q } (start N vs) H := by
  obtain ⟨Fs, fl, ok0⟩ := init_okM (N := N) hf r nd nf
  refine ⟨_, _, _, ok0, ?_⟩
  have ze : ∀ {σ' H' Z' Fs' ρ'}, SStep mt (start N vs) H (lentM H f Gs.flatten) Fs σ' H' Z' Fs' → Ok K cm H' σ' ρ' Fs' Z' → Z' = ⟨Z'.f, (lentM H f Gs.flatten).b, fun _ => False⟩ := fun {σ' H' Z' Fs' ρ'} s ok => by
    have h1 := s.b
    have h2 : Z'.t = fun _ => False := funext fun a => propext ⟨ok.t a, fun h => h.elim⟩
    cases Z'
    simp only at h1 h2
    rw [h1, h2]
  have fin : ∀ {σ' H' Z' Fs' ρ' es}, SStep mt (start N vs) H (lentM H f Gs.flatten) Fs σ' H' Z' Fs' → Ok K cm H' σ' ρ' Fs' Z' → grab mt ρ' = some es → ∀ F, (Fs'.flatten ++ F).Nodup → (∀ a ∈ F, ¬ Z'.f a) → (∀ a ∈ F, a ∈ Fs.flatten ∨ H a = none) →
      ∃ Es, MEnd K cm H f Gs.flatten (mt.filterMap (vs[·]?)) H' Z'.f es Es F := fun {σ' H' Z' Fs' ρ' es} s ok he F ndF nfF orF => by
    have zz := ze s ok
    obtain ⟨Es, g1, g2, g3⟩ := grab_rep ok.rep ok.nd hmt (fun i hi => ⟨hm i hi, by
      rw [s.prot i hi]
      unfold L2.start
      rw [List.getElem?_append_left (by simpa using hm i hi), List.getElem?_map]
      rw [List.getElem?_eq_getElem (hm i hi)]
      rfl⟩) he
    have inFs : ∀ a ∈ Es.flatten, a ∈ Fs'.flatten := fun a ha => by
      obtain ⟨i, _, F, c1, c2⟩ := g3 a ha
      exact flat_mem c1 c2
    rw [zz] at g1
    refine ⟨Es, ⟨fun a o h n => s.keep a o h (by rw [fl]; exact n), s.f, fun a h => (s.fn a h).imp id fun h => h.imp (fun q => by rwa [fl] at q) id, ok.dom.f, g1, ?_, fun a ha => ?_, fun a ha => ?_⟩⟩
    · rw [List.nodup_append] at ndF ⊢
      exact ⟨g2, ndF.2.1, fun x hx y hy e => ndF.2.2 x (inFs x hx) y hy e⟩
    · rcases List.mem_append.mp ha with ha | ha
      · exact (s.own a (inFs a ha)).imp (fun q => by rwa [fl] at q) id
      · exact (orF a ha).imp (fun q => by rwa [fl] at q) id
    · rcases List.mem_append.mp ha with ha | ha
      · exact (ok.nz a (inFs a ha)).1
      · exact nfF a ha
  unfold bodyMM at q
  cases e1 : g (initE N.length ds) with
  | none => rw [e1] at q; exact q.elim
  | some p =>
    obtain ⟨o, ρ1⟩ := p
    rw [e1] at q
    intro σ' H' Z' Fs' s ok
    have zz := ze s ok
    cases o with
    | brk => exact q.elim
    | cnt => exact q.elim
    | nx =>
      dsimp only at q
      cases e2 : grab mt ρ1 with
      | none => rw [e2] at q; exact q.elim
      | some es =>
        rw [e2] at q
        obtain ⟨Es, me⟩ := fin s ok e2 [] (by simpa using ok.nd) (fun _ h => nomatch h) (fun _ h => nomatch h)
        exact q .non H' Z'.f Es [] me ⟨rfl, rfl⟩
    | ret d =>
      dsimp only at q
      cases e2 : grab mt ρ1 with
      | none => rw [e2] at q; exact q.elim
      | some es =>
        rw [e2] at q
        intro v F rp ndF nz org
        obtain ⟨Es, me⟩ := fin s ok e2 F ndF (fun a h => (nz a h).1) org
        rw [zz] at rp
        exact q v H' Z'.f Es F me rp
    | ex x =>
      dsimp only at q
      cases e2 : grab mt ρ1 with
      | none => rw [e2] at q; exact q.elim
      | some es =>
        rw [e2] at q
        intro cls dd xr
        obtain ⟨Es, me⟩ := fin s ok e2 [] (by simpa using ok.nd) (fun _ h => nomatch h) (fun _ h => nomatch h)
        rw [zz] at xr
        exact q cls dd H' Z'.f Es me xr
theorem fn_mut {x qual : Str} {st : Stmt} {f : Addr} {fd : FuncData} {N ps : List Str} {mt : List Nat} {k : Nat} {g : Mst} {dvs : List V} {kws : List (Str × V)} (F : FunD K x qual (defArgs st) (defBody st) (defScope st) dvs kws f fd) (S : FnScope N ps (defScope st)) (hmt : mt.Nodup) (hm : ∀ i ∈ mt, i < ps.length)
    (hb : ∀ (cdv : Value) (A : Around) (outer : List Env) (s : Shared) (H : Hp) (E : XK), Room k (A.deeper (envOfC qual (defScope st) s.heap.objs.size f cdv)) →
      SB (cxOf (L2.CX P w) P w K mg base N qual (defScope st) f cdv A outer s H E) cm (fun cls dd _ H' => E cls dd H') mt (defBody st) g) :
    FnOk P w K mg base (L2.CX P w) (k + 1) f fd ps (spM K cm ps.length mt (bodyMM N.length mt g)) :=
  F.ok S (fun _ _ _ _ h => spM_len h) fun cdv A outer s H vs Q E hr h => ⟨_, hb cdv A outer s H E hr, by
    have hv := spM_len h
    obtain ⟨f, ds, Gs, hf, _, r, nd, nf, q⟩ := h
    exact body_finM hf r nd nf hmt (fun i hi => by rw [hv]; exact hm i hi) q⟩
end
end OB

namespace OB
open PySem PySem.Spec PyProof.Rows L2
/-- what stands at a place of the i-th local, and how it is put back -/
structure Foc (K : PySem.W.Frag) (cm : Cm) (H : Hp) (Z : Zn) (v : V) (F : List Addr) (d : D) (js : List Nat) (d0 : D) (v0 : V) (F0 A B : List Addr) : Prop where
  eF : F = A ++ F0 ++ B
  rep : Rep K cm H Z d0 v0 F0
  put : ∀ (O : Addr → Prop) (H' : Hp) (Z' : Zn) (d1 : D) (F1 : List Addr), (∀ x ∈ A, ¬ O x) → (∀ x ∈ B, ¬ O x) → CellMove K cm H H' Z Z' id (fun a => ¬ O a) → Rep K cm H' Z' d1 v0 F1 → Rep K cm H' Z' (putP d js d1) v (A ++ F1 ++ B)
theorem cell_then2 {K : PySem.W.Frag} {cm : Cm} {H H1 H2 : Hp} {Z Z1 Z2 : Zn} {O : Addr → Prop} (m1 : CellMove K cm H H1 Z Z1 id (fun _ => True)) (m2 : CellMove K cm H1 H2 Z1 Z2 id O) : CellMove K cm H H2 Z Z2 id O := fun a k vs h ho => by
  have c1 := m1 a k vs h fun _ => trivial
  rw [Kd.mapF_id] at c1
  exact m2 a k vs c1 ho
section
variable {K : PySem.W.Frag} {cm : Cm} {H H' : Hp} {Z Z' : Zn} {v v0 : V} {F F0 A B : List Addr} {d d0 : D} {js : List Nat}
theorem Foc.move (h : Foc K cm H Z v F d js d0 v0 F0 A B) (m : CellMove K cm H H' Z Z' id (fun _ => True)) : Foc K cm H' Z' v F d js d0 v0 F0 A B :=
  ⟨h.eF, h.rep.stay m fun _ _ => trivial, fun O H2 Z2 d1 F1 a b mv r => h.put O H2 Z2 d1 F1 a b (cell_then2 m mv) r⟩
theorem Rep.foc (r : Rep K cm H Z d v F) (e : getP d js = some d0) : ∃ v0 F0 A B, Foc K cm H Z v F d js d0 v0 F0 A B := by
  obtain ⟨v0, F0, A, B, a, b, c⟩ := Rep.focusO js r e
  exact ⟨v0, F0, A, B, a, b, c⟩
theorem getP_cons {k : Kd} {ds : List D} {j : Nat} {js : List Nat} {dj : D} (e : ds[j]? = some dj) : getP (.nd k ds) (j :: js) = getP dj js := by
  conv => lhs; unfold getP
  rw [e]
theorem getP_one {k : Kd} {es : List D} {j : Nat} : getP (.nd k es) [j] = es[j]? := by
  conv => lhs; unfold getP
  cases es[j]? with
  | none => rfl
  | some z => simp [getP]
theorem putP_one {k : Kd} {es : List D} {j : Nat} {dj x : D} (e : es[j]? = some dj) : putP (.nd k es) [j] x = .nd k (es.set j x) := by
  conv => lhs; unfold putP
  simp only [e]
  simp [putP]
theorem putP_app : ∀ (js ks : List Nat) (d d0 x : D), getP d js = some d0 → putP d (js ++ ks) x = putP d js (putP d0 ks x)
  | [], ks, d, d0, x, h => by
    simp only [getP, Option.some.injEq] at h
    subst h
    simp [putP]
  | j :: js, ks, .nd k ds, d0, x, h => by
    unfold getP at h
    cases e : ds[j]? with
    | none => rw [e] at h; cases h
    | some dj =>
      rw [e] at h
      rw [List.cons_append]
      unfold putP
      dsimp only
      rw [e]
      simp only [putP_app js ks dj d0 x h]
  | _ :: _, _, .non, _, _, h => by simp [getP] at h
  | _ :: _, _, .bl _, _, _, h => by simp [getP] at h
  | _ :: _, _, .int _, _, _, h => by simp [getP] at h
  | _ :: _, _, .str _, _, _, h => by simp [getP] at h
theorem getP_app : ∀ (js ks : List Nat) (d d0 : D), getP d js = some d0 → getP d (js ++ ks) = getP d0 ks
  | [], ks, d, d0, h => by
    simp only [getP, Option.some.injEq] at h
    subst h
    simp
  | j :: js, ks, .nd k ds, d0, h => by
    unfold getP at h
    cases e : ds[j]? with
    | none => rw [e] at h; cases h
    | some dj =>
      rw [e] at h
      rw [List.cons_append]
      rw [getP_cons e]
      exact getP_app js ks dj d0 h
  | _ :: _, _, .non, _, h => by simp [getP] at h
  | _ :: _, _, .bl _, _, h => by simp [getP] at h
  | _ :: _, _, .int _, _, h => by simp [getP] at h
  | _ :: _, _, .str _, _, h => by simp [getP] at h
/-- one step further down -/
theorem Foc.down {k : Kd} {es : List D} {j : Nat} {e : D} (h : Foc K cm H Z v F d js (.nd k es) v0 F0 A B) (hg : getP d js = some (.nd k es)) (hj : es[j]? = some e) :
    ∃ a us Es vj Fj A' B', v0 = .ref a ∧ Cell K cm H Z a k us ∧ RepL K cm H Z es us Es ∧ us[j]? = some vj ∧ Foc K cm H Z v F d (js ++ [j]) e vj Fj A' B' := by
  obtain ⟨a, us, Es, rfl, c, l, rfl⟩ := h.rep
  obtain ⟨vj, Fj, A2, B2, e1, e2, r, kk⟩ := RepL.focus es l hj
  refine ⟨a, us, Es, vj, Fj, A ++ (ownA k a ++ A2), B2 ++ B, rfl, c, l, e1, ⟨by rw [h.eF, e2]; simp, r, fun O H' Z' d1 F1 hA hB mv r1 => ?_⟩⟩
  have hA1 : ∀ x ∈ A2, ¬ O x := fun x q => hA x (by simp [q])
  have hB1 : ∀ x ∈ B2, ¬ O x := fun x q => hB x (by simp [q])
  obtain ⟨Gs, g1, g2⟩ := kk H' Z' d1 F1 (fun d v F h hF => h.stay mv fun x q => (hF x q).elim (hA1 x) (hB1 x)) r1
  have cc := mv a k us c (fun q => hA a (by unfold ownA; rw [if_pos q]; simp))
  rw [Kd.mapF_id] at cc
  have p := h.put O H' Z' (.nd k (es.set j d1)) (ownA k a ++ Gs.flatten) (fun x q => hA x (by simp [q])) (fun x q => hB x (by simp [q])) mv ⟨a, us, Gs, rfl, cc, g2, rfl⟩
  have ep : putP d (js ++ [j]) d1 = putP d js (.nd k (es.set j d1)) := by
    rw [putP_app js [j] d _ d1 hg, putP_one hj]
  rw [ep]
  rw [g1] at p
  have el : A ++ (ownA k a ++ (A2 ++ F1 ++ B2)) ++ B = A ++ (ownA k a ++ A2) ++ F1 ++ (B2 ++ B) := by simp
  rwa [el] at p
end
/-! ### paths -/
def tPth2 (K : PySem.W.Frag) (cm : Cm) (W : WX) (i : Nat) (π : Pi') : TE := fun σ H Q => ∃ Z ρ Fs d js d0, Ok K cm H σ ρ Fs Z ∧ ρ[i]? = some (some d) ∧ π ρ = some js ∧ getP d js = some d0 ∧
  ∀ H' Z1 v F v0 F0 A B, Ext H (lendZ Z Fs) H' Z1 → σ[i]? = some (some v) → Fs[i]? = some F → Foc K cm H' ⟨Z1.f, Z.b, fun _ => False⟩ v F d js d0 v0 F0 A B → Q v0 H'
abbrev SP2 (X : Cx) (cm : Cm) (W : WX) (e : Expr) (i : Nat) (π : Pi') : Prop := PE X e (tPth2 X.K cm W i π)
def stepP (d0 key : D) : Option Nat := match d0 with
  | .nd (.lst _) es => (match key with
    | .int z => ixN es.length z
    | _ => none)
  | .nd .tup es => (match key with
    | .int z => ixN es.length z
    | _ => none)
  | .nd (.dct _ ks) _ => (keyD key).bind fun k => ks.findIdx? (fun q => decide (q = k))
  | _ => none
def fldP (cs : List Str) (d0 : D) (n : Str) : Option Nat := match d0 with
  | .nd (.obj _ c fs) _ => if c ∈ cs then fs.findIdx? (fun q => decide (q = n)) else none
  | _ => none
def πIx (i : Nat) (π : Pi') (f : En → Ot D) : Pi' := fun ρ => match ρ[i]? with
  | some (some d) => (π ρ).bind fun js => (getP d js).bind fun d0 => match f ρ with
    | .ok key => (stepP d0 key).map fun j => js ++ [j]
    | _ => none
  | _ => none
def πFld (i : Nat) (π : Pi') (cs : List Str) (n : Str) : Pi' := fun ρ => match ρ[i]? with
  | some (some d) => (π ρ).bind fun js => (getP d js).bind fun d0 => (fldP cs d0 n).map fun j => js ++ [j]
  | _ => none
theorem Ok.lendExt {K : PySem.W.Frag} {cm : Cm} {H H1 : Hp} {σ : L2.St} {ρ : En} {Fs : List (List Addr)} {Z Z1 : Zn} (ok : Ok K cm H σ ρ Fs Z) (e : Ext H (lendZ Z Fs) H1 Z1) : CellMove K cm H H1 Z ⟨Z1.f, Z.b, fun _ => False⟩ id (fun _ => True) :=
  cell_grow e.gr e.f (fun _ h => h) fun a h => (ok.t a h).elim
theorem lookup_idx {α : Type} {n : Str} : ∀ {fs : List Str} {vs : List α} {j : Nat}, fs.findIdx? (fun q => decide (q = n)) = some j → fs.length = vs.length → ∃ v, vs[j]? = some v ∧ (fs.zip vs).lookup n = some v
  | [], _, _, h, _ => by simp at h
  | f :: fs, [], _, _, l => by simp at l
  | f :: fs, v :: vs, j, h, l => by
    rw [List.findIdx?_cons] at h
    by_cases e : f = n
    · rw [if_pos (by simpa using e)] at h
      cases h
      subst e
      exact ⟨v, rfl, by simp [List.lookup]⟩
    · rw [if_neg (by simpa using e)] at h
      cases q : fs.findIdx? (fun q => decide (q = n)) with
      | none => rw [q] at h; cases h
      | some j' =>
        rw [q] at h
        cases h
        obtain ⟨v', a, b⟩ := lookup_idx q (by simpa using l)
        refine ⟨v', by simpa using a, ?_⟩
        rw [List.zip_cons_cons, List.lookup]
        rw [show (n == f) = false by simpa using fun z => e z.symm]
        exact b
theorem look_idx {α : Type} {k : Key} : ∀ {ks : List Key} {vs : List α} {j : Nat}, ks.findIdx? (fun q => decide (q = k)) = some j → ks.length = vs.length → ∃ v, vs[j]? = some v ∧ look ks vs k = some v
  | [], _, _, h, _ => by simp at h
  | f :: fs, [], _, _, l => by simp at l
  | f :: fs, v :: vs, j, h, l => by
    rw [List.findIdx?_cons] at h
    unfold look
    by_cases e : f = k
    · rw [if_pos (by simpa using e)] at h
      cases h
      exact ⟨v, rfl, if_pos e⟩
    · rw [if_neg (by simpa using e)] at h
      rw [if_neg e]
      cases q : fs.findIdx? (fun q => decide (q = k)) with
      | none => rw [q] at h; cases h
      | some j' =>
        rw [q] at h
        cases h
        obtain ⟨v', a, b⟩ := look_idx q (by simpa using l)
        exact ⟨v', by simpa using a, b⟩
section
variable {X : Cx} {cm : Cm} {W : WX} {o e : Expr} {i : Nat} {π : Pi'} {f : En → Ot D} {pos p : Pos} {x : Str}
theorem sp2_name (he : PE X (.Name x p) (tVar i)) : SP2 X cm W (.Name x p) i pHere := PE.imp he fun σ H Q q => by
  obtain ⟨Z, ρ, Fs, d, js, d0, ok, h1, h2, h3, q⟩ := q
  cases h2
  obtain ⟨v, F, e1, e2, r⟩ := ok.rep.get i d h1
  have ex : Ext H (lendZ Z Fs) H (lendZ Z Fs) := .refl ok.pure.dom
  obtain ⟨v0, F0, A, B, fo⟩ := Rep.foc (r.grow (.refl H) (fun _ h => h) (fun _ h => h) (Z' := ⟨Z.f, Z.b, fun _ => False⟩) fun a h => (ok.t a h).elim) h3
  have hd : d0 = d := by simpa [getP] using h3.symm
  subst hd
  have fo2 : Foc X.K cm H ⟨Z.f, Z.b, fun _ => False⟩ v F d0 [] d0 v F [] [] := ⟨by simp, r.grow (.refl H) (fun _ h => h) (fun _ h => h) fun a h => (ok.t a h).elim, fun O H' Z' d1 F1 _ _ _ r => by simpa [putP] using r⟩
  exact ⟨v, e1, q H _ v F v F [] [] ex e1 e2 fo2⟩
theorem sp2_fld (ho : SP2 X cm W o i π) {n : Str} {cs : List Str} (hc : ∀ c ∈ cs, Cls X.K (cm c) ∧ NoAttr X.K (cm c) n) (hb : attributeBase o n X.env (eval o X.env) = eval o X.env := by rfl) : SP2 X cm W (.Attribute o n pos) i (πFld i π cs n) := PE.imp (pe_fld ho hb) fun σ H Q q => by
  obtain ⟨Z, ρ, Fs, d, js, d0, ok, h1, h2, h3, q⟩ := q
  unfold πFld at h2
  rw [h1] at h2
  cases e1 : π ρ with
  | none => rw [e1] at h2; cases h2
  | some js0 =>
    rw [e1] at h2
    dsimp only [Option.bind_some] at h2
    cases e2 : getP d js0 with
    | none => rw [e2] at h2; cases h2
    | some dd =>
      rw [e2] at h2
      dsimp only [Option.bind_some] at h2
      unfold fldP at h2
      split at h2
      · rename_i fl c fs es
        split at h2
        rotate_left
        · cases h2
        rename_i hcs
        cases e3 : fs.findIdx? (fun q => decide (q = n)) with
        | none => rw [e3] at h2; cases h2
        | some j =>
          rw [e3] at h2
          cases h2
          rw [getP_app js0 [j] d _ e2] at h3
          have hj : es[j]? = some d0 := by rw [← getP_one (k := .obj fl c fs)]; exact h3
          refine ⟨Z, ρ, Fs, d, js0, _, ok, h1, e1, e2, fun H' Z1 v F v0 F0 A B ex hs hF fo => ?_⟩
          obtain ⟨a, us, Es, vj, Fj, A', B', rfl, cell, l, hu, fo2⟩ := fo.down e2 hj
          obtain ⟨⟨dx, hi⟩, hl, _⟩ := cell
          obtain ⟨w, w1, w2⟩ := lookup_idx e3 hl
          rw [hu] at w1
          cases w1
          exact ⟨a, _, dx, _, vj, rfl, hi, (hc c hcs).1, (hc c hcs).2, w2, q H' Z1 v F vj Fj A' B' ex hs hF fo2⟩
      · cases h2
/-- o[e] -/
theorem sp2_ix (hu : X.A.units + 1 < cLine) (ho : SP2 X cm W o i π) (he : SE X cm W e f) (hs : PlainIx e := by exact fun _ _ => rfl) : SP2 X cm W (.Subscript o e pos) i (πIx i π f) := PE.imp (pe_ix (ix_4 hu) ho he hs) fun σ H Q q => by
  obtain ⟨Z, ρ, Fs, d, js, d0, ok, h1, h2, h3, q⟩ := q
  unfold πIx at h2
  rw [h1] at h2
  cases e1 : π ρ with
  | none => rw [e1] at h2; cases h2
  | some js0 =>
    rw [e1] at h2
    dsimp only [Option.bind_some] at h2
    cases e2 : getP d js0 with
    | none => rw [e2] at h2; cases h2
    | some dd =>
      rw [e2] at h2
      dsimp only [Option.bind_some] at h2
      cases ef : f ρ with
      | no => rw [ef] at h2; cases h2
      | ex x => rw [ef] at h2; cases h2
      | ok key =>
        rw [ef] at h2
        dsimp only at h2
        cases e3 : stepP dd key with
        | none => rw [e3] at h2; cases h2
        | some j =>
          rw [e3] at h2
          cases h2
          rw [getP_app js0 [j] d _ e2] at h3
          refine ⟨Z, ρ, Fs, d, js0, dd, ok, h1, e1, e2, fun H' Z1 v F v0 F0 A B ex hs hF fo => ?_⟩
          have ok1 := ok.pure.ext ex
          refine tP_bind ok1 (fun q' => by rw [ef] at q'; cases q') (fun kd ek vk H2 Z2 Fk rk => ?_) (fun x q' => by rw [ef] at q'; cases q')
          rw [ef] at ek
          cases ek
          have ex2 := ex.trans rk.ext
          have mv : CellMove X.K cm H' H2 ⟨Z1.f, Z.b, fun _ => False⟩ ⟨Z2.f, Z.b, fun _ => False⟩ id (fun _ => True) := cell_grow rk.ext.gr rk.ext.f (fun _ h => h) fun _ h => h
          have fo1 := fo.move mv
          cases dd with
          | nd kk es =>
            have hj : es[j]? = some d0 := by rw [← getP_one (k := kk)]; exact h3
            obtain ⟨a, us, Es, vj, Fj, A', B', rfl, cell, l, hu', fo2⟩ := fo1.down e2 hj
            have lu := l.len.1
            have fin := q H2 Z2 v F vj Fj A' B' ex2 hs hF fo2
            cases kk with
            | tup =>
              unfold stepP at e3
              dsimp only at e3
              split at e3
              · rename_i z
                obtain ⟨rfl, _⟩ := rk.rep
                exact .inl (.inr (.inl ⟨a, us, _, vj, rfl, rfl, cell, by unfold atI; rw [lu, e3]; exact hu', fin⟩))
              · cases e3
            | lst fl =>
              unfold stepP at e3
              dsimp only at e3
              split at e3
              · rename_i z
                obtain ⟨rfl, _⟩ := rk.rep
                exact .inl (.inl ⟨a, us, _, vj, rfl, rfl, rdL cell.2.1, by unfold atI; rw [lu, e3]; exact hu', fin⟩)
              · cases e3
            | dct fl ks =>
              unfold stepP at e3
              dsimp only at e3
              cases ek : keyD key with
              | none => rw [ek] at e3; cases e3
              | some k =>
                rw [ek] at e3
                dsimp only [Option.bind_some] at e3
                have ekk := key_ok rk.rep ek
                subst ekk
                obtain ⟨w, w1, w2⟩ := look_idx e3 cell.2.2.1
                rw [hu'] at w1
                cases w1
                have g := DGet.rk (k := k) cell.2.1
                rw [look_valV cell.2.2.1, w2] at g
                exact .inr ⟨a, vj, rfl, g, fin⟩
            | obj fl c fs => cases e3
            | exc fl c fs => cases e3
          | non => cases e3
          | bl b => cases e3
          | int b => cases e3
          | str b => cases e3
end
end OB

namespace OB
open PySem PySem.Spec PyProof.Rows L2
/-! ### slots changed -/
structure Chg where
  i : Nat
  A : List Addr
  G : List Addr
  B : List Addr
  E : List Addr
  d : D
def setsF (h : Chg → List Addr) : List Chg → List (List Addr) → List (List Addr)
  | [], Fs => Fs
  | c :: cs, Fs => setsF h cs (Fs.set c.i (c.A ++ h c ++ c.B))
def setsD : List Chg → En → En
  | [], ρ => ρ
  | c :: cs, ρ => setsD cs (ρ.set c.i (some c.d))
theorem setsF_len {h : Chg → List Addr} : ∀ {cs : List Chg} {Fs : List (List Addr)}, (setsF h cs Fs).length = Fs.length
  | [], _ => rfl
  | c :: cs, Fs => by unfold setsF; rw [setsF_len, List.length_set]
theorem setsD_len : ∀ {cs : List Chg} {ρ : En}, (setsD cs ρ).length = ρ.length
  | [], _ => rfl
  | c :: cs, ρ => by unfold setsD; rw [setsD_len, List.length_set]
theorem setsF_comm {h : Chg → List Addr} {i : Nat} {Y : List Addr} : ∀ {cs : List Chg} {Fs : List (List Addr)}, (∀ c ∈ cs, c.i ≠ i) → setsF h cs (Fs.set i Y) = (setsF h cs Fs).set i Y
  | [], _, _ => rfl
  | c :: cs, Fs, n => by
    unfold setsF
    rw [List.set_comm _ _ (fun e => n c List.mem_cons_self e.symm), setsF_comm fun d hd => n d (List.mem_cons_of_mem _ hd)]
theorem setsD_comm {i : Nat} {Y : Option D} : ∀ {cs : List Chg} {ρ : En}, (∀ c ∈ cs, c.i ≠ i) → setsD cs (ρ.set i Y) = (setsD cs ρ).set i Y
  | [], _, _ => rfl
  | c :: cs, ρ, n => by
    unfold setsD
    rw [List.set_comm _ _ (fun e => n c List.mem_cons_self e.symm), setsD_comm fun d hd => n d (List.mem_cons_of_mem _ hd)]
theorem set_perm : ∀ {Fs : List (List Addr)} {i : Nat} {A E B : List Addr}, i < Fs.length → (Fs.set i (A ++ E ++ B)).flatten.Perm (E ++ (Fs.set i (A ++ B)).flatten)
  | [], i, _, _, _, h => by simp at h
  | F :: Fs, 0, A, E, B, _ => by
    rw [List.set_cons_zero, List.set_cons_zero, List.flatten_cons, List.flatten_cons]
    have h1 : (A ++ E ++ B).Perm (E ++ (A ++ B)) := by
      rw [List.append_assoc]
      exact List.perm_append_comm_assoc A E B
    have h2 := h1.append_right Fs.flatten
    rwa [List.append_assoc E] at h2
  | F :: Fs, i + 1, A, E, B, h => by
    rw [List.set_cons_succ, List.set_cons_succ, List.flatten_cons, List.flatten_cons]
    have ih := set_perm (Fs := Fs) (i := i) (A := A) (E := E) (B := B) (by simpa using h)
    exact (ih.append_left F).trans (List.perm_append_comm_assoc F E _)
theorem setsF_perm {h : Chg → List Addr} : ∀ {cs : List Chg} {Fs : List (List Addr)}, (cs.map (·.i)).Nodup → (∀ c ∈ cs, c.i < Fs.length) → (setsF h cs Fs).flatten.Perm ((cs.map h).flatten ++ (setsF (fun _ => []) cs Fs).flatten)
  | [], Fs, _, _ => List.Perm.refl _
  | c :: cs, Fs, n, l => by
    obtain ⟨n1, n2⟩ := List.nodup_cons.mp (show (c.i :: cs.map (·.i)).Nodup from n)
    have ne : ∀ d ∈ cs, d.i ≠ c.i := fun d hd e => n1 (List.mem_map.mpr ⟨d, hd, e⟩)
    have ih := setsF_perm (h := h) (cs := cs) (Fs := Fs.set c.i (c.A ++ h c ++ c.B)) n2 (fun d hd => by rw [List.length_set]; exact l d (List.mem_cons_of_mem _ hd))
    unfold setsF
    refine ih.trans ?_
    rw [List.map_cons, List.flatten_cons, setsF_comm ne, setsF_comm ne]
    have p := set_perm (Fs := setsF (fun _ => []) cs Fs) (i := c.i) (A := c.A) (E := h c) (B := c.B) (by rw [setsF_len]; exact l c List.mem_cons_self)
    have p2 := p.append_left (cs.map h).flatten
    refine p2.trans ?_
    rw [List.append_nil]
    have := List.perm_append_comm_assoc (cs.map h).flatten (h c) (List.set (setsF (fun _ => []) cs Fs) c.i (c.A ++ c.B)).flatten
    rwa [← List.append_assoc (h c)] at this
theorem setsF_same : ∀ {cs : List Chg} {Fs : List (List Addr)}, (∀ c ∈ cs, Fs[c.i]? = some (c.A ++ c.G ++ c.B)) → setsF Chg.G cs Fs = Fs
  | [], _, _ => rfl
  | c :: cs, Fs, h => by
    have e : Fs.set c.i (c.A ++ c.G ++ c.B) = Fs := by
      have hc := h c List.mem_cons_self
      obtain ⟨l, e⟩ := List.getElem?_eq_some_iff.mp hc
      rw [← e, List.set_getElem_self]
    unfold setsF
    rw [e]
    exact setsF_same fun d hd => h d (List.mem_cons_of_mem _ hd)
theorem setsF_at {h : Chg → List Addr} : ∀ {cs : List Chg} {Fs : List (List Addr)} {c : Chg}, (cs.map (·.i)).Nodup → c ∈ cs → c.i < Fs.length → (setsF h cs Fs)[c.i]? = some (c.A ++ h c ++ c.B)
  | [], _, _, _, h, _ => nomatch h
  | d :: cs, Fs, c, n, hc, l => by
    obtain ⟨n1, n2⟩ := List.nodup_cons.mp (show (d.i :: cs.map (·.i)).Nodup from n)
    have ne : ∀ e ∈ cs, e.i ≠ d.i := fun e hd q => n1 (List.mem_map.mpr ⟨e, hd, q⟩)
    unfold setsF
    rcases List.mem_cons.mp hc with q | q
    · subst q
      rw [setsF_comm ne, List.getElem?_set_self (by rw [setsF_len]; exact l)]
    · exact setsF_at n2 q (by rw [List.length_set]; exact l)
theorem setsF_off {h : Chg → List Addr} : ∀ {cs : List Chg} {Fs : List (List Addr)} {j : Nat}, (∀ c ∈ cs, c.i ≠ j) → (setsF h cs Fs)[j]? = Fs[j]?
  | [], _, _, _ => rfl
  | c :: cs, Fs, j, n => by
    unfold setsF
    rw [setsF_off fun d hd => n d (List.mem_cons_of_mem _ hd), List.getElem?_set_ne (n c List.mem_cons_self)]
theorem setsD_at : ∀ {cs : List Chg} {ρ : En} {c : Chg}, (cs.map (·.i)).Nodup → c ∈ cs → c.i < ρ.length → (setsD cs ρ)[c.i]? = some (some c.d)
  | [], _, _, _, h, _ => nomatch h
  | d :: cs, ρ, c, n, hc, l => by
    obtain ⟨n1, n2⟩ := List.nodup_cons.mp (show (d.i :: cs.map (·.i)).Nodup from n)
    have ne : ∀ e ∈ cs, e.i ≠ d.i := fun e hd q => n1 (List.mem_map.mpr ⟨e, hd, q⟩)
    unfold setsD
    rcases List.mem_cons.mp hc with q | q
    · subst q
      rw [setsD_comm ne, List.getElem?_set_self (by rw [setsD_len]; exact l)]
    · exact setsD_at n2 q (by rw [List.length_set]; exact l)
theorem setsD_off : ∀ {cs : List Chg} {ρ : En} {j : Nat}, (∀ c ∈ cs, c.i ≠ j) → (setsD cs ρ)[j]? = ρ[j]?
  | [], _, _, _ => rfl
  | c :: cs, ρ, j, n => by
    unfold setsD
    rw [setsD_off fun d hd => n d (List.mem_cons_of_mem _ hd), List.getElem?_set_ne (n c List.mem_cons_self)]
theorem setsF_ok {cs : List Chg} {Fs : List (List Addr)} (nd : Fs.flatten.Nodup) (n : (cs.map (·.i)).Nodup) (hg : ∀ c ∈ cs, Fs[c.i]? = some (c.A ++ c.G ++ c.B)) {X : List Addr} (hX : (cs.map Chg.E).flatten = X) (ndX : X.Nodup) (or : ∀ x ∈ X, x ∈ (cs.map Chg.G).flatten ∨ x ∉ Fs.flatten) :
    (setsF Chg.E cs Fs).flatten.Nodup ∧ ∀ x ∈ (setsF Chg.E cs Fs).flatten, x ∈ Fs.flatten ∨ x ∈ X := by
  have l : ∀ c ∈ cs, c.i < Fs.length := fun c hc => (List.getElem?_eq_some_iff.mp (hg c hc)).1
  have p1 := setsF_perm (h := Chg.E) n l
  have p2 := setsF_perm (h := Chg.G) n l
  rw [setsF_same hg] at p2
  rw [hX] at p1
  have q := p2.nodup_iff.mp nd
  rw [List.nodup_append] at q
  refine ⟨p1.nodup_iff.mpr (List.nodup_append.mpr ⟨ndX, q.2.1, fun x hx y hy e => ?_⟩), fun x hx => ?_⟩
  · subst e
    rcases or x hx with h | h
    · exact q.2.2 x h x hy rfl
    · exact h (p2.mem_iff.mpr (List.mem_append_right _ hy))
  · rcases List.mem_append.mp (p1.mem_iff.mp hx) with h | h
    · exact .inr h
    · exact .inl (p2.mem_iff.mpr (List.mem_append_right _ h))

/-! ### arguments -/
inductive AK where
  | pl (i : Nat) (π : Pi') | hd (f : En → Ot D) | nt (f : En → Ot D)
def AK.te (K : PySem.W.Frag) (cm : Cm) (W : WX) : AK → TE
  | .pl i π => tPth2 K cm W i π
  | .hd f => tP K cm W f
  | .nt f => tP K cm W f
def tAs (K : PySem.W.Frag) (cm : Cm) (W : WX) : List AK → TA
  | [] => tNil
  | a :: r => tCons (a.te K cm W) (tAs K cm W r)
def plS : List AK → List Nat
  | [] => []
  | .pl i _ :: r => i :: plS r
  | .hd _ :: r => plS r
  | .nt _ :: r => plS r
def subD (ρ : En) (i : Nat) (π : Pi') : Option (D × List Nat × D) := match ρ[i]? with
  | some (some d) => (π ρ).bind fun js => (getP d js).map fun d0 => (d, js, d0)
  | _ => none
theorem subD_eq {ρ : En} {i : Nat} {π : Pi'} {d d0 : D} {js : List Nat} (h : subD ρ i π = some (d, js, d0)) : ρ[i]? = some (some d) ∧ π ρ = some js ∧ getP d js = some d0 := by
  unfold subD at h
  split at h
  · rename_i d' hd
    cases e : π ρ with
    | none => rw [e] at h; cases h
    | some js' =>
      rw [e] at h
      dsimp only [Option.bind_some] at h
      cases e2 : getP d' js' with
      | none => rw [e2] at h; cases h
      | some d1 =>
        rw [e2] at h
        cases h
        exact ⟨hd, rfl, e2⟩
  · cases h
def evA (hid : List Nat) (ρ : En) : List AK → Ot (List D)
  | [] => .ok []
  | .pl i π :: r => match subD ρ i π with
    | some (_, _, d0) => if noB d0 then (evA hid ρ r).bind fun ds => .ok (d0 :: ds) else .no
    | none => .no
  | .hd f :: r => (f (wipeE ρ hid)).bind fun d => (evA hid ρ r).bind fun ds => .ok (toArg d :: ds)
  | .nt f :: r => (f ρ).bind fun d => if noT d then (evA hid ρ r).bind fun ds => .ok (toArg d :: ds) else .no
/-- what was handed over goes back to its places -/
def putAll (ρ0 : En) : List AK → List D → En → Option En
  | [], [], ρ => some ρ
  | .pl i π :: r, e :: es, ρ => match subD ρ0 i π with
    | some (d, js, _) => putAll ρ0 r es (ρ.set i (some (putP d js e)))
    | none => none
  | .hd _ :: r, es, ρ => putAll ρ0 r es ρ
  | .nt _ :: r, es, ρ => putAll ρ0 r es ρ
  | _, _, _ => none
def wipeA (Fs : List (List Addr)) : List Nat → List (List Addr)
  | [] => Fs
  | v :: vs => (wipeA Fs vs).set v []
theorem wipeA_mem {Fs : List (List Addr)} : ∀ {vs : List Nat} {a : Addr}, a ∈ (wipeA Fs vs).flatten → ∃ j F, j ∉ vs ∧ Fs[j]? = some F ∧ a ∈ F := by
  have get : ∀ {vs : List Nat} {j : Nat} {F : List Addr}, (wipeA Fs vs)[j]? = some F → F = [] ∨ (j ∉ vs ∧ Fs[j]? = some F) := by
    intro vs
    induction vs with
    | nil => exact fun h => .inr ⟨by simp, h⟩
    | cons v vs ih =>
      intro j F h
      unfold wipeA at h
      by_cases e : v = j
      · subst e
        rw [List.getElem?_set] at h
        split at h
        · split at h
          · cases h; exact .inl rfl
          · cases h
        · rename_i n; exact absurd rfl n
      · rw [List.getElem?_set_ne e] at h
        refine (ih h).imp id fun ⟨a, b⟩ => ⟨?_, b⟩
        intro q
        rcases List.mem_cons.mp q with q | q
        · exact e q.symm
        · exact a q
  intro vs a h
  obtain ⟨F, hF, ha⟩ := List.mem_flatten.mp h
  obtain ⟨j, hj, e⟩ := List.mem_iff_getElem.mp hF
  rcases get (show (wipeA Fs vs)[j]? = some F by rw [List.getElem?_eq_getElem hj, e]) with q | q
  · subst q; cases ha
  · exact ⟨j, F, q.1, q.2, ha⟩
section
variable {K : PySem.W.Frag} {cm : Cm} {H H' : Hp} {Z Z' : Zn} {σ : L2.St} {ρ : En} {Fs : List (List Addr)}
theorem RepE.hide (r : RepE K cm H Z σ ρ Fs) : ∀ vs, RepE K cm H Z σ (wipeE ρ vs) (wipeA Fs vs)
  | [] => r
  | v :: vs => by
    have h := RepE.hide r vs
    unfold wipeE wipeA
    refine ⟨by rw [List.length_set]; exact h.lσ, by rw [List.length_set, List.length_set]; exact h.lF, fun j d q => ?_⟩
    by_cases e : v = j
    · subst e
      rw [List.getElem?_set] at q
      split at q
      · split at q <;> cases q
      · rename_i n; exact absurd rfl n
    · rw [List.getElem?_set_ne e] at q ⊢
      exact h.get j d q
/-- one argument, at hand -/
def AArg (K : PySem.W.Frag) (cm : Cm) (σ : L2.St) (ρ : En) (Fs : List (List Addr)) (b Th : Addr → Prop) (Hc : Hp) (fc : Addr → Prop) : AK → D → V → List Addr → List Addr → Prop
  | .pl i π, d0, v0, O, N => N = [] ∧ noB d0 = true ∧ ∃ d js v F A B, subD ρ i π = some (d, js, d0) ∧ σ[i]? = some (some v) ∧ Fs[i]? = some F ∧ Foc K cm Hc ⟨fc, b, fun _ => False⟩ v F d js d0 v0 O A B
  | .hd _, d', v, O, N => O = [] ∧ ∃ d, d' = toArg d ∧ Rep K cm Hc ⟨fc, b, Th⟩ d v N
  | .nt _, d', v, O, N => O = [] ∧ ∃ d, d' = toArg d ∧ Rep K cm Hc ⟨fc, b, Th⟩ d v N
theorem AArg.grow {b Th : Addr → Prop} {Hc Hd : Hp} {fc fd : Addr → Prop} (g : Grow Hc Hd) (hf : ∀ a, fc a → fd a) : ∀ {k : AK} {d : D} {v : V} {O N : List Addr}, AArg K cm σ ρ Fs b Th Hc fc k d v O N → AArg K cm σ ρ Fs b Th Hd fd k d v O N
  | .pl i π, d0, v0, O, N, h => by
    obtain ⟨e, nb, d, js, v, F, A, B, h1, h2, h3, fo⟩ := h
    exact ⟨e, nb, d, js, v, F, A, B, h1, h2, h3, fo.move (cell_grow g hf (fun _ h => h) fun _ h => h)⟩
  | .hd _, d', v, O, N, h => by
    obtain ⟨e, d, e2, r⟩ := h
    exact ⟨e, d, e2, r.grow g hf (fun _ h => h) fun _ h => h⟩
  | .nt _, d', v, O, N, h => by
    obtain ⟨e, d, e2, r⟩ := h
    exact ⟨e, d, e2, r.grow g hf (fun _ h => h) fun _ h => h⟩
inductive AArgs (K : PySem.W.Frag) (cm : Cm) (σ : L2.St) (ρ : En) (Fs : List (List Addr)) (b Th : Addr → Prop) (Hc : Hp) (fc : Addr → Prop) : List AK → List D → List V → List (List Addr) → List (List Addr) → Prop
  | nil : AArgs K cm σ ρ Fs b Th Hc fc [] [] [] [] []
  | cons {k : AK} {ks : List AK} {d : D} {ds : List D} {v : V} {vs : List V} {O N : List Addr} {Os Ns : List (List Addr)} (h : AArg K cm σ ρ Fs b Th Hc fc k d v O N) (hs : AArgs K cm σ ρ Fs b Th Hc fc ks ds vs Os Ns) : AArgs K cm σ ρ Fs b Th Hc fc (k :: ks) (d :: ds) (v :: vs) (O :: Os) (N :: Ns)
theorem args_run {W : WX} {hid : List Nat} (ok : Ok K cm H σ ρ Fs Z) : ∀ (aks : List AK) {Hc : Hp} {Z1 : Zn}, Ext H (lendZ Z Fs) Hc Z1 → ∀ R : List V → Hp → Prop, evA hid ρ aks ≠ .no →
    (∀ x, evA hid ρ aks = .ex x → ∀ cls dd H' Z', Ext H (lendZ Z Fs) H' Z' → XRep K cm H' Z' x cls dd → W cls dd σ H') →
    (∀ ds, evA hid ρ aks = .ok ds → ∀ vs Os Ns H' Z', Ext Hc Z1 H' Z' → AArgs K cm σ ρ Fs Z.b (fun a => a ∈ (wipeA Fs hid).flatten) H' Z'.f aks ds vs Os Ns → Ns.flatten.Nodup → (∀ a ∈ Ns.flatten, Hc a = none ∧ Mut (H' a)) → (∀ a ∈ Ns.flatten, ¬ Z'.f a) → R vs H') → tAs K cm W aks σ Hc R
  | [], Hc, Z1, e, R, _, _, hk => hk [] rfl [] [] [] Hc Z1 (.refl ((ok.pure).dom.ext e)) .nil List.nodup_nil (fun _ h => nomatch h) (fun _ h => nomatch h)
  | k :: aks, Hc, Z1, e, R, hn, hx, hk => by
    have dm1 := ok.pure.dom.ext e
    have eZ : Z1 = ⟨Z1.f, Z.b, fun a => a ∈ Fs.flatten⟩ := by
      have h1 : Z1.b = Z.b := e.b
      have h2 : Z1.t = fun a => a ∈ Fs.flatten := e.t
      cases Z1
      simp only at h1 h2
      rw [h1, h2]
    cases k with
    | pl i π =>
      unfold evA at hn hx hk
      cases q : subD ρ i π with
      | none => rw [q] at hn; exact absurd rfl hn
      | some p =>
        obtain ⟨d, js, d0⟩ := p
        rw [q] at hn hx hk
        dsimp only at hn hx hk
        by_cases nb : noB d0 = true
        rotate_left
        · rw [if_neg nb] at hn; exact absurd rfl hn
        · rw [if_pos nb] at hn hx hk
          obtain ⟨h1, h2, h3⟩ := subD_eq q
          have ok1 := ok.ext e
          refine ⟨_, ρ, Fs, d, js, d0, ok1, h1, h2, h3, fun H2 Z2 v F v0 F0 A B ex hs hF fo => ?_⟩
          have ex : Ext Hc Z1 H2 Z2 := by rw [eZ]; exact ex
          refine args_run ok aks (e.trans ex) _ (fun q2 => hn (by rw [q2]; rfl)) (fun x q2 => hx x (by rw [q2]; rfl)) fun ds q2 vs Os Ns H3 Z3 ex3 as nd fr nf => ?_
          refine hk (d0 :: ds) (by rw [q2]; rfl) (v0 :: vs) (F0 :: Os) ([] :: Ns) H3 Z3 (ex.trans ex3) (.cons ⟨rfl, nb, d, js, v, F, A, B, q, hs, hF, fo.move (cell_grow ex3.gr ex3.f (fun _ h => h) fun _ h => h)⟩ as) (by simpa using nd) (fun a ha => ?_) (by simpa using nf)
          have ha : a ∈ Ns.flatten := by simpa using ha
          exact ⟨ex.gr.back (fr a ha).1, (fr a ha).2⟩
    | hd f =>
      unfold evA at hn hx hk
      have rh : RepE K cm Hc ⟨Z1.f, Z.b, fun a => a ∈ (wipeA Fs hid).flatten⟩ σ (wipeE ρ hid) (wipeA Fs hid) := by
        have r1 := (ok.ext e).rep.hide hid
        exact ⟨r1.lσ, r1.lF, fun i d q => by
          obtain ⟨v, F, a, b, c⟩ := r1.get i d q
          exact ⟨v, F, a, b, c.grow (.refl _) (fun _ h => h) (fun _ h => h) fun _ h => h.elim⟩⟩
      have okh : OkP K cm Hc σ (wipeE ρ hid) (wipeA Fs hid) ⟨Z1.f, Z.b, fun a => a ∈ (wipeA Fs hid).flatten⟩ := ⟨rh, ⟨dm1.f, fun a h => dm1.b a (by rw [eZ]; exact h), fun a h => by
        obtain ⟨j, F, _, hj, ha⟩ := wipeA_mem h
        exact dm1.t a (by rw [eZ]; exact flat_mem hj ha)⟩, fun a h => h⟩
      refine tP_bind okh (fun q => hn (by rw [q]; rfl)) (fun d q v H2 Z2 F r => ?_) (fun x q cls dd H2 Z2 ex xr => hx x (by rw [q]; rfl) cls dd H2 ⟨Z2.f, Z1.b, Z1.t⟩ (e.trans ⟨ex.gr, ex.f, ex.fn, ex.fd, rfl, rfl⟩) (xr.back fun _ h => h))
      rw [q] at hn hx hk
      simp only [Ot.bind_ok] at hn hx hk
      have ex : Ext Hc Z1 H2 ⟨Z2.f, Z1.b, Z1.t⟩ := ⟨r.ext.gr, r.ext.f, r.ext.fn, r.ext.fd, rfl, rfl⟩
      have e2b : Z2.b = Z.b := r.ext.b
      have e2t : Z2.t = fun a => a ∈ (wipeA Fs hid).flatten := r.ext.t
      have eZ2 : Z2 = ⟨Z2.f, Z.b, fun a => a ∈ (wipeA Fs hid).flatten⟩ := by
        cases Z2
        simp only at e2b e2t
        rw [e2b, e2t]
      have rr := r.rep
      rw [eZ2] at rr
      have hm := Rep.mut d rr
      refine args_run ok aks (e.trans ex) _ (fun q2 => hn (by rw [q2]; rfl)) (fun x q2 => hx x (by rw [q2]; rfl)) fun ds q2 vs Os Ns H3 Z3 ex3 as nd fr nf => ?_
      refine hk (toArg d :: ds) (by rw [q2]; rfl) (v :: vs) ([] :: Os) (F :: Ns) H3 Z3 (ex.trans ex3) (.cons ⟨rfl, d, rfl, rr.grow ex3.gr ex3.f (fun _ h => h) fun _ h => h⟩ as) ?_ (fun a ha => ?_) (fun a ha => ?_)
      · rw [List.flatten_cons, List.nodup_append]
        exact ⟨r.nd, nd, fun x hx y hy exy => by subst exy; exact mut_ne (hm x hx) (fr x hy).1⟩
      · rw [List.flatten_cons] at ha
        rcases List.mem_append.mp ha with ha | ha
        · exact ⟨r.new a ha, ex3.gr.mut (hm a ha)⟩
        · exact ⟨ex.gr.back (fr a ha).1, (fr a ha).2⟩
      · rw [List.flatten_cons] at ha
        rcases List.mem_append.mp ha with ha | ha
        · exact keep_nf ex3 (hm a ha) (r.nf a ha)
        · exact nf a ha
    | nt f =>
      unfold evA at hn hx hk
      have okp : OkP K cm Hc σ ρ Fs Z1 := ok.pure.ext e
      refine tP_bind okp (fun q => hn (by rw [q]; rfl)) (fun d q v H2 Z2 F r => ?_) (fun x q cls dd H2 Z2 ex xr => hx x (by rw [q]; rfl) cls dd H2 Z2 (e.trans ex) xr)
      rw [q] at hn hx hk
      simp only [Ot.bind_ok] at hn hx hk
      by_cases nt : noT d = true
      rotate_left
      · rw [if_neg nt] at hn; exact absurd rfl hn
      · rw [if_pos nt] at hn hx hk
        have e2b : Z2.b = Z.b := r.ext.b.trans e.b
        have rr := noT_rep (t' := fun a => a ∈ (wipeA Fs hid).flatten) r.rep nt
        rw [e2b] at rr
        have hm := Rep.mut d rr
        refine args_run ok aks (e.trans r.ext) _ (fun q2 => hn (by rw [q2]; rfl)) (fun x q2 => hx x (by rw [q2]; rfl)) fun ds q2 vs Os Ns H3 Z3 ex3 as nd fr nf => ?_
        refine hk (toArg d :: ds) (by rw [q2]; rfl) (v :: vs) ([] :: Os) (F :: Ns) H3 Z3 (r.ext.trans ex3) (.cons ⟨rfl, d, rfl, rr.grow ex3.gr ex3.f (fun _ h => h) fun _ h => h⟩ as) ?_ (fun a ha => ?_) (fun a ha => ?_)
        · rw [List.flatten_cons, List.nodup_append]
          exact ⟨r.nd, nd, fun x hx y hy exy => by subst exy; exact mut_ne (hm x hx) (fr x hy).1⟩
        · rw [List.flatten_cons] at ha
          rcases List.mem_append.mp ha with ha | ha
          · exact ⟨r.new a ha, ex3.gr.mut (hm a ha)⟩
          · exact ⟨r.ext.gr.back (fr a ha).1, (fr a ha).2⟩
        · rw [List.flatten_cons] at ha
          rcases List.mem_append.mp ha with ha | ha
          · exact keep_nf ex3 (hm a ha) (r.nf a ha)
          · exact nf a ha
end
end OB

namespace OB
open PySem PySem.Spec PyProof.Rows L2
def okBack : Ot D → Bool
  | .ok d => noB d
  | .ex _ => true
  | .no => false
abbrev Xf := En → Option (Ot D × En)
def plPos : List AK → Nat → List Nat
  | [], _ => []
  | .pl _ _ :: r, k => k :: plPos r (k + 1)
  | .hd _ :: r, k => plPos r (k + 1)
  | .nt _ :: r, k => plPos r (k + 1)
def plV {α : Type} : List AK → List α → List α
  | .pl _ _ :: r, v :: vs => v :: plV r vs
  | .hd _ :: r, _ :: vs => plV r vs
  | .nt _ :: r, _ :: vs => plV r vs
  | _, _ => []
theorem plV_eq {α : Type} : ∀ {aks : List AK} {vs ws : List α} {k : Nat}, vs.length = aks.length → (∀ j, j < vs.length → ws[k + j]? = vs[j]?) → (plPos aks k).filterMap (ws[·]?) = plV aks vs
  | [], [], _, _, _, _ => rfl
  | [], _ :: _, _, _, l, _ => by simp at l
  | _ :: _, [], _, _, l, _ => by simp at l
  | a :: aks, v :: vs, ws, k, l, h => by
    have ih := plV_eq (aks := aks) (vs := vs) (ws := ws) (k := k + 1) (by simpa using l) fun j hj => by
      have := h (j + 1) (by simpa using hj)
      rw [show k + 1 + j = k + (j + 1) by omega, this]; rfl
    have h0 : ws[k]? = some v := by have := h 0 (by simp); simpa using this
    cases a with
    | pl i π =>
      unfold plPos plV
      rw [List.filterMap_cons, h0]
      dsimp only
      rw [ih]
    | hd f => unfold plPos plV; exact ih
    | nt f => unfold plPos plV; exact ih
def xEnd (m : MM) (aks : List AK) (dd : List D) (ρ : En) (ds : List D) : Option (Ot D × En) := match m (ds ++ dd) with
  | none => none
  | some (r, es) => if okBack r && es.all noB && decide ((plS aks).Nodup) then (putAll ρ aks es ρ).map fun ρ' => (r, ρ') else none
def xCall (m : MM) (aks : List AK) (dd : List D) : Xf := fun ρ => match evA (plS aks) ρ aks with
  | .no => none
  | .ex x => some (.ex x, ρ)
  | .ok ds => xEnd m aks dd ρ ds
def FinX (K : PySem.W.Frag) (cm : Cm) (W : WX) (σ : L2.St) (H : Hp) (Z : Zn) (Fs : List (List Addr)) (Q : VK) : Option (Ot D × En) → Prop
  | none => False
  | some (.no, _) => False
  | some (.ok d, ρ') => ∀ v H' Z' Fs' F, SStep [] σ H Z Fs σ H' Z' Fs' → OkT K cm H' σ ρ' Fs' Z' [d] [v] [F] → (∀ a ∈ F, a ∈ Fs.flatten ∨ H a = none) → Q v H'
  | some (.ex x, ρ') => ∀ cls dd H' Z' Fs', SStep [] σ H Z Fs σ H' Z' Fs' → Ok K cm H' σ ρ' Fs' Z' → XRep K cm H' Z' x cls dd → W cls dd σ H'
def tX (K : PySem.W.Frag) (cm : Cm) (W : WX) (f : Xf) : TE := fun σ H Q => ∃ Z ρ Fs, Ok K cm H σ ρ Fs Z ∧ FinX K cm W σ H Z Fs Q (f ρ)
abbrev SX (X : Cx) (cm : Cm) (W : WX) (e : Expr) (f : Xf) : Prop := PE X e (tX X.K cm W f)
theorem SStep.anyP {P : List Nat} {σ : L2.St} {H H' : Hp} {Z Z' : Zn} {Fs Fs' : List (List Addr)} (s : SStep [] σ H Z Fs σ H' Z' Fs') : SStep P σ H Z Fs σ H' Z' Fs' := ⟨s.keep, s.own, s.f, s.fn, s.b, fun _ _ => rfl⟩
theorem setsF_ok2 {cs : List Chg} {Fs : List (List Addr)} (nd : Fs.flatten.Nodup) (n : (cs.map (·.i)).Nodup) (hg : ∀ c ∈ cs, Fs[c.i]? = some (c.A ++ c.G ++ c.B)) {X F : List Addr} (hX : (cs.map Chg.E).flatten = X) (ndX : (X ++ F).Nodup) (or : ∀ x ∈ X ++ F, x ∈ (cs.map Chg.G).flatten ∨ x ∉ Fs.flatten) :
    ((setsF Chg.E cs Fs).flatten ++ F).Nodup ∧ ∀ x ∈ (setsF Chg.E cs Fs).flatten, x ∈ Fs.flatten ∨ x ∈ X := by
  obtain ⟨a, b⟩ := setsF_ok nd n hg hX (List.nodup_append.mp ndX).1 fun x hx => or x (List.mem_append_left _ hx)
  refine ⟨?_, b⟩
  have l : ∀ c ∈ cs, c.i < Fs.length := fun c hc => (List.getElem?_eq_some_iff.mp (hg c hc)).1
  have p1 := setsF_perm (h := Chg.E) n l
  have p2 := setsF_perm (h := Chg.G) n l
  rw [setsF_same hg] at p2
  rw [hX] at p1
  have q := List.nodup_append.mp (p2.nodup_iff.mp nd)
  obtain ⟨n1, n2, n3⟩ := List.nodup_append.mp ndX
  rw [List.nodup_append]
  refine ⟨a, n2, fun x hx y hy e => ?_⟩
  subst e
  rcases List.mem_append.mp (p1.mem_iff.mp hx) with h | h
  · exact n3 x h x hy rfl
  · rcases or x (List.mem_append_right _ hy) with g | g
    · exact q.2.2 x g x h rfl
    · exact g (p2.mem_iff.mpr (List.mem_append_right _ h))
theorem noB_onlyL {K : PySem.W.Frag} {cm : Cm} {H : Hp} {Z Z' : Zn} : ∀ {ds : List D} {vs : List V} {Fs : List (List Addr)}, RepL K cm H Z ds vs Fs → ds.all noB = true → (∀ a, Z.f a → Z'.f a) → RepL K cm H Z' ds vs Fs
  | [], _, _, r, _, _ => r
  | d :: ds, _, _, r, h, hf => by
    obtain ⟨v, vs', F, Fs', rfl, rfl, h1, h2⟩ := r
    rw [List.all_cons, Bool.and_eq_true] at h
    exact repL_cons (noB_only h1 h.1 hf) (noB_onlyL h2 h.2 hf)
section
variable {K : PySem.W.Frag} {cm : Cm} {H : Hp} {Z : Zn} {σ : L2.St} {ρ : En} {Fs : List (List Addr)} {b Th : Addr → Prop} {Hc : Hp} {fc : Addr → Prop}
theorem AArgs.len : ∀ {aks : List AK} {ds : List D} {vs : List V} {Os Ns : List (List Addr)}, AArgs K cm σ ρ Fs b Th Hc fc aks ds vs Os Ns → ds.length = aks.length ∧ vs.length = aks.length
  | _, _, _, _, _, .nil => ⟨rfl, rfl⟩
  | _, _, _, _, _, .cons _ hs => by
    obtain ⟨a, b⟩ := hs.len
    exact ⟨by simp [a], by simp [b]⟩
theorem AArgs.owned : ∀ {aks : List AK} {ds : List D} {vs : List V} {Os Ns : List (List Addr)}, AArgs K cm σ ρ Fs b Th Hc fc aks ds vs Os Ns → Fs.flatten.Nodup → (plS aks).Nodup → Os.flatten.Nodup ∧ ∀ a ∈ Os.flatten, ∃ i ∈ plS aks, ∃ F, Fs[i]? = some F ∧ a ∈ F
  | _, _, _, _, _, .nil, _, _ => ⟨List.nodup_nil, fun _ h => nomatch h⟩
  | k :: ks, _, _, _, _, .cons (O := O) (Os := Os) h hs, nd, n => by
    cases k with
    | pl i π =>
      obtain ⟨n1, n2⟩ := List.nodup_cons.mp (show (i :: plS ks).Nodup from n)
      obtain ⟨a, b⟩ := hs.owned nd n2
      obtain ⟨_, _, d, js, v, F, A, B, _, _, hF, fo⟩ := h
      have sub : ∀ x ∈ O, x ∈ F := fun x hx => by rw [fo.eF]; simp [hx]
      have ndO : O.Nodup := by
        have := nd.sublist (flatten_get hF)
        rw [fo.eF] at this
        exact (List.nodup_append.mp (List.nodup_append.mp this).1).2.1
      refine ⟨?_, fun x hx => ?_⟩
      · rw [List.flatten_cons, List.nodup_append]
        refine ⟨ndO, a, fun x hx y hy e => ?_⟩
        subst e
        obtain ⟨j, hj, G, c1, c2⟩ := b x hy
        exact slots_apart nd hF c1 (fun q => n1 (q ▸ hj)) (sub x hx) c2
      · rw [List.flatten_cons] at hx
        rcases List.mem_append.mp hx with hx | hx
        · exact ⟨i, by simp [plS], F, hF, sub x hx⟩
        · obtain ⟨j, hj, G, c⟩ := b x hx
          exact ⟨j, by simp [plS, hj], G, c⟩
    | hd f =>
      obtain ⟨rfl, _⟩ := h
      exact hs.owned nd n
    | nt f =>
      obtain ⟨rfl, _⟩ := h
      exact hs.owned nd n
theorem AArgs.repL {f : Addr → Prop} {O : List Addr} : ∀ {aks : List AK} {ds : List D} {vs : List V} {Os Ns : List (List Addr)}, AArgs K cm σ ρ Fs b Th Hc fc aks ds vs Os Ns → (∀ a, fc a → f a) → (∀ a ∈ Ns.flatten, f a) → (∀ a, b a → Hc a ≠ none ∧ a ∉ O) → (∀ a, Th a → Hc a ≠ none ∧ a ∉ O) → RepL K cm Hc (lentM Hc f O) ds vs Os
  | _, _, _, _, _, .nil, _, _, _, _ => repL_nil
  | k :: ks, _, _, _, _, .cons (v := v) (N := N) h hs, hf, hN, hb, ht => by
    have ih := hs.repL hf (fun a ha => hN a (by rw [List.flatten_cons]; exact List.mem_append_right _ ha)) hb ht
    have give : ∀ {d : D}, Rep K cm Hc ⟨fc, b, Th⟩ d v N → Rep K cm Hc (lentM Hc f O) (toArg d) v [] := fun {d} r =>
      Rep.give (g := Fl.toArg) (O := fun a => a ∈ N) (cell_flag (fun a ha fl e _ => by subst e; exact hN a (by rw [List.flatten_cons]; exact List.mem_append_left _ ha)) (fun a fl hfl hz => by
        cases fl with
        | own => exact absurd rfl hfl
        | frz => exact hf a hz
        | bor => exact hb a hz
        | tmp => exact ht a hz) (fun fl e => by cases fl <;> cases e)) (fun fl e => by cases fl <;> cases e) d r fun _ h => h
    cases k with
    | pl i π =>
      obtain ⟨_, nb, d, js, v', F, A, B, _, _, _, fo⟩ := h
      exact repL_cons (noB_only fo.rep nb hf) ih
    | hd g =>
      obtain ⟨rfl, d, rfl, r⟩ := h
      exact repL_cons (give r) ih
    | nt g =>
      obtain ⟨rfl, d, rfl, r⟩ := h
      exact repL_cons (give r) ih
/-- the changes of the slots -/
theorem AArgs.chgs {H2 : Hp} {Z2 : Zn} : ∀ {aks : List AK} {ds : List D} {vs : List V} {Os Ns : List (List Addr)}, AArgs K cm σ ρ Fs b Th Hc fc aks ds vs Os Ns → ∀ {es : List D} {Es : List (List Addr)}, RepL K cm H2 Z2 es (plV aks vs) Es →
    ∃ cs : List Chg, cs.map (·.i) = plS aks ∧ (cs.map Chg.G).flatten = Os.flatten ∧ cs.map Chg.E = Es ∧ (∀ c ∈ cs, Fs[c.i]? = some (c.A ++ c.G ++ c.B) ∧ c.i < ρ.length) ∧ (∀ ρ0, putAll ρ aks es ρ0 = some (setsD cs ρ0)) ∧
      ∀ c ∈ cs, ∃ v, σ[c.i]? = some (some v) ∧ ∀ O : Addr → Prop, (∀ x ∈ c.A, ¬ O x) → (∀ x ∈ c.B, ¬ O x) → CellMove K cm Hc H2 ⟨fc, b, fun _ => False⟩ Z2 id (fun a => ¬ O a) → Rep K cm H2 Z2 c.d v (c.A ++ c.E ++ c.B)
  | _, _, _, _, _, .nil, es, Es, r => by
    cases es with
    | nil =>
      obtain ⟨_, rfl⟩ := r
      exact ⟨[], rfl, rfl, rfl, (fun _ h => nomatch h), (fun _ => rfl), (fun _ h => nomatch h)⟩
    | cons e es => obtain ⟨_, _, _, _, h, _⟩ := r; cases h
  | .pl i π :: ks, _, _, _, _, .cons (O := O) h hs, es, Es, r => by
    cases es with
    | nil => cases r.1
    | cons e es =>
      obtain ⟨v1, vs1, F1, Es', hv, rfl, r1, r2⟩ := r
      unfold plV at hv
      obtain ⟨ha, hb⟩ := List.cons.inj hv
      rw [← ha] at r1
      rw [← hb] at r2
      obtain ⟨cs, c1, c2, c3, c4, c5, c6⟩ := hs.chgs r2
      obtain ⟨_, nb, d, js, v', F, A, B, hsub, hσ, hF, fo⟩ := h
      refine ⟨⟨i, A, O, B, F1, putP d js e⟩ :: cs, by simp [plS, c1], by simp [c2], by simp [c3], fun c hc => ?_, fun ρ0 => ?_, fun c hc => ?_⟩
      · rcases List.mem_cons.mp hc with q | q
        · subst q
          exact ⟨by rw [hF, fo.eF], (List.getElem?_eq_some_iff.mp (subD_eq hsub).1).1⟩
        · exact c4 c q
      · unfold putAll setsD
        rw [hsub]
        exact c5 _
      · rcases List.mem_cons.mp hc with q | q
        · subst q
          exact ⟨v', hσ, fun O' hA hB mv => fo.put O' H2 Z2 e F1 hA hB mv r1⟩
        · exact c6 c q
  | .hd f :: ks, _, _, _, _, .cons h hs, es, Es, r => by
    obtain ⟨cs, c1, c2, c3, c4, c5, c6⟩ := hs.chgs (show RepL K cm H2 Z2 es (plV ks _) Es from r)
    obtain ⟨rfl, _⟩ := h
    refine ⟨cs, c1, c2, c3, c4, fun ρ0 => ?_, c6⟩
    rw [← c5 ρ0]
    cases es <;> rfl
  | .nt f :: ks, _, _, _, _, .cons h hs, es, Es, r => by
    obtain ⟨cs, c1, c2, c3, c4, c5, c6⟩ := hs.chgs (show RepL K cm H2 Z2 es (plV ks _) Es from r)
    obtain ⟨rfl, _⟩ := h
    refine ⟨cs, c1, c2, c3, c4, fun ρ0 => ?_, c6⟩
    rw [← c5 ρ0]
    cases es <;> rfl
end
theorem rdd_at {K : PySem.W.Frag} {cm : Cm} {H1 : Hp} : ∀ (l : List D), l.all isAt = true → ∀ (Z2 : Zn), RepL K cm H1 Z2 l (l.map toV) (l.map fun _ => [])
  | [], _, _ => repL_nil
  | d :: l, hl, Z2 => by
    rw [List.all_cons, Bool.and_eq_true] at hl
    refine repL_cons ?_ (rdd_at l hl.2 Z2)
    cases d with
    | nd k ds => cases hl.1
    | non => exact ⟨rfl, rfl⟩
    | bl b => exact ⟨rfl, rfl⟩
    | int i => exact ⟨rfl, rfl⟩
    | str s => exact ⟨rfl, rfl⟩
theorem xcall_fin {K : PySem.W.Frag} {cm : Cm} {W : WX} {m : MM} {n : Nat} {aks : List AK} {dd : List D} {dvs : List V} (hdd : dd.all isAt = true) (hdv : dvs = dd.map toV) (hlen : aks.length + dd.length = n) {σ : L2.St} {H : Hp} {Q : VK} {Z : Zn} {ρ : En} {Fs : List (List Addr)} (ok : Ok K cm H σ ρ Fs Z)
    {H1 : Hp} {Z1 : Zn} {ds : List D} {vs : List V} {Os Ns : List (List Addr)} (ex : Ext H (lendZ Z Fs) H1 Z1) (as : AArgs K cm σ ρ Fs Z.b (fun a => a ∈ (wipeA Fs (plS aks)).flatten) H1 Z1.f aks ds vs Os Ns) (ndN : Ns.flatten.Nodup) (frN : ∀ a ∈ Ns.flatten, H a = none ∧ Mut (H1 a)) (nfN : ∀ a ∈ Ns.flatten, ¬ Z1.f a)
    (q0 : FinX K cm W σ H Z Fs Q (xEnd m aks dd ρ ds)) : spM K cm n (plPos aks 0) m (vs ++ dvs) H1 Q (fun cls d H' => W cls d σ H') := by
    unfold xEnd at q0
    have ok1 := ok.ext ex
    cases em : m (ds ++ dd) with
    | none => rw [em] at q0; exact q0.elim
    | some p =>
      obtain ⟨r, es⟩ := p
      rw [em] at q0
      dsimp only at q0
      split at q0
      rotate_left
      · exact q0.elim
      rename_i hc
      rw [Bool.and_eq_true, Bool.and_eq_true] at hc
      obtain ⟨⟨hr, hes⟩, hnd⟩ := hc
      have hnd := of_decide_eq_true hnd
      obtain ⟨l1, l2⟩ := as.len
      obtain ⟨ndO, ow⟩ := as.owned ok.nd hnd
      have inFs : ∀ a ∈ Os.flatten, a ∈ Fs.flatten := fun a ha => by
        obtain ⟨i, _, F, c1, c2⟩ := ow a ha
        exact flat_mem c1 c2
      have fl0 : ∀ l : List D, (l.map fun _ => ([] : List Addr)).flatten = [] := fun l => by induction l with
        | nil => rfl
        | cons d l ih => rw [List.map_cons, List.flatten_cons, ih]; rfl
      have flO : (Os ++ (dd.map fun _ => [])).flatten = Os.flatten := by rw [List.flatten_append, fl0, List.append_nil]
      have eb : Z1.b = Z.b := ex.b
      let f : Addr → Prop := fun a => Z1.f a ∨ a ∈ Ns.flatten
      have hrep : RepL K cm H1 (lentM H1 f (Os ++ (dd.map fun _ => [])).flatten) (ds ++ dd) (vs ++ dvs) (Os ++ (dd.map fun _ => [])) := by
        rw [flO, hdv]
        refine (as.repL (f := f) (O := Os.flatten) (fun a h => .inl h) (fun a h => .inr h) (fun a h => ⟨ok1.dom.b a h, fun q => (ok1.nz a (inFs a q)).2 h⟩) fun a h => ?_).app (rdd_at dd hdd _)
        obtain ⟨j, F, hj, c1, c2⟩ := wipeA_mem h
        refine ⟨mut_ne (ok1.mu a (flat_mem c1 c2)), fun q => ?_⟩
        obtain ⟨i, hi, G, g1, g2⟩ := ow a q
        exact slots_apart ok.nd c1 g1 (fun z => hj (z ▸ hi)) c2 g2
      have nfO : ∀ a ∈ Os.flatten, ¬ f a := fun a h q => q.elim (ok1.nz a (inFs a h)).1 fun z => mut_ne (ok.mu a (inFs a h)) (frN a z).1
      have ews : (plPos aks 0).filterMap ((vs ++ dvs)[·]?) = plV aks vs := plV_eq l2 fun j hj => by
        rw [Nat.zero_add, List.getElem?_append_left hj]
      refine ⟨f, ds ++ dd, Os ++ (dd.map fun _ => []), fun a h => h.elim (ok1.dom.f a) fun z => mut_ne (frN a z).2, by simp [l1, hlen], hrep, by rw [flO]; exact ndO, by rw [flO]; exact nfO, ?_⟩
      rw [ews, flO, em]
      -- behind the call
      have after : ∀ {H2 : Hp} {f' : Addr → Prop} {Es : List (List Addr)} {Fv : List Addr}, MEnd K cm H1 f Os.flatten (plV aks vs) H2 f' es Es Fv → ∃ ρ' Fs', putAll ρ aks es ρ = some ρ' ∧ Ok K cm H2 σ ρ' Fs' ⟨f', Z.b, fun _ => False⟩ ∧ SStep [] σ H Z Fs σ H2 ⟨f', Z.b, fun _ => False⟩ Fs' ∧ (Fs'.flatten ++ Fv).Nodup ∧
          (∀ a ∈ Fv, ¬ f' a ∧ ¬ Z.b a) ∧ (∀ a ∈ Fv, a ∈ Fs.flatten ∨ H a = none) := fun {H2 f' Es Fv} me => by
        let Z2 : Zn := ⟨f', Z.b, fun _ => False⟩
        have rE : RepL K cm H2 Z2 es (plV aks vs) Es := noB_onlyL me.rep hes fun _ h => h
        obtain ⟨cs, c1, c2, c3, c4, c5, c6⟩ := as.chgs rE
        have n1 : (cs.map (·.i)).Nodup := by rw [c1]; exact hnd
        have back1 : ∀ a, H1 a = none → H a = none := fun a h => ex.gr.back h
        have orX : ∀ x ∈ Es.flatten ++ Fv, x ∈ (cs.map Chg.G).flatten ∨ x ∉ Fs.flatten := fun x hx => (me.org x hx).imp (fun q => by rw [c2]; exact q) fun q z => mut_ne (ok1.mu x z) q
        obtain ⟨nd2, sub2⟩ := setsF_ok2 (F := Fv) ok.nd n1 (fun c hc => (c4 c hc).1) (X := Es.flatten) (by rw [c3]) me.nd orX
        have mv : CellMove K cm H1 H2 ⟨Z1.f, Z.b, fun _ => False⟩ Z2 id (fun a => ¬ a ∈ Os.flatten) := cell_kept me.keep (fun a h => ok1.mu a (inFs a h)) (fun a h => ⟨(ok1.nz a (inFs a h)).1, (ok1.nz a (inFs a h)).2, fun z => z⟩) (fun a h => me.fm a (.inl h)) (fun _ h => h) fun _ h => h
        have mE := RepL.mut es rE
        have offO : ∀ c ∈ cs, ∀ x, (x ∈ c.A ∨ x ∈ c.B) → x ∉ Os.flatten := fun c hc x hx q => by
          obtain ⟨i, hi, G, g1, g2⟩ := ow x q
          have hF := (c4 c hc).1
          have ndF := ok.nd.sublist (flatten_get hF)
          by_cases ei : c.i = i
          · -- the same slot: x is in its own G
            rw [← c2] at q
            obtain ⟨L, hL, hx2⟩ := List.mem_flatten.mp q
            obtain ⟨c', hc', rfl⟩ := List.mem_map.mp hL
            by_cases ec : c'.i = c.i
            · have : c' = c := by
                have inj : ∀ {l : List Chg}, (l.map (·.i)).Nodup → ∀ a ∈ l, ∀ b ∈ l, a.i = b.i → a = b := by
                  intro l
                  induction l with
                  | nil => exact fun _ _ h => nomatch h
                  | cons y l ih =>
                    intro nl a ha b hb e
                    obtain ⟨m1, m2⟩ := List.nodup_cons.mp (show (y.i :: l.map (·.i)).Nodup from nl)
                    rcases List.mem_cons.mp ha with p | p
                    · rcases List.mem_cons.mp hb with p2 | p2
                      · rw [p, p2]
                      · subst p; exact absurd (List.mem_map.mpr ⟨b, p2, e.symm⟩) m1
                    · rcases List.mem_cons.mp hb with p2 | p2
                      · subst p2; exact absurd (List.mem_map.mpr ⟨a, p, e⟩) m1
                      · exact ih m2 a p b p2 e
                exact inj n1 c' hc' c hc ec
              subst this
              rw [List.append_assoc] at ndF
              rcases hx with hx | hx
              · exact (List.nodup_append.mp ndF).2.2 x hx x (List.mem_append_left _ hx2) rfl
              · exact (List.nodup_append.mp (List.nodup_append.mp ndF).2.1).2.2 x hx2 x hx rfl
            · exact slots_apart ok.nd (c4 c' hc').1 hF ec (show x ∈ c'.A ++ c'.G ++ c'.B by simp [hx2]) (show x ∈ c.A ++ c.G ++ c.B by rcases hx with hx | hx <;> simp [hx])
          · exact slots_apart ok.nd hF g1 ei (show x ∈ c.A ++ c.G ++ c.B by rcases hx with hx | hx <;> simp [hx]) g2
        have rE2 : RepE K cm H2 Z2 σ (setsD cs ρ) (setsF Chg.E cs Fs) := by
          refine ⟨by rw [setsD_len]; exact ok.rep.lσ, by rw [setsF_len, setsD_len]; exact ok.rep.lF, fun j d q => ?_⟩
          by_cases hj : ∃ c ∈ cs, c.i = j
          · obtain ⟨c, hcm, rfl⟩ := hj
            rw [setsD_at n1 hcm (c4 c hcm).2] at q
            cases q
            obtain ⟨v, v1, v2⟩ := c6 c hcm
            exact ⟨v, _, v1, setsF_at n1 hcm (by rw [ok.rep.lF]; exact (c4 c hcm).2), v2 (fun a => a ∈ Os.flatten) (fun x hx => offO c hcm x (.inl hx)) (fun x hx => offO c hcm x (.inr hx)) mv⟩
          · have off : ∀ c ∈ cs, c.i ≠ j := fun c hc e => hj ⟨c, hc, e⟩
            rw [setsD_off off] at q
            obtain ⟨v, F, a, b2, r2⟩ := ok1.rep.get j d q
            refine ⟨v, F, a, by rw [setsF_off off]; exact b2, r2.stay mv fun x hx hq => ?_⟩
            obtain ⟨i, hi, G, g1, g2⟩ := ow x hq
            rw [← c1] at hi
            obtain ⟨c, hcm, ei⟩ := List.mem_map.mp hi
            exact slots_apart ok.nd b2 g1 (fun z => off c hcm (ei.trans z.symm)) hx g2
        have subFs : ∀ x ∈ (setsF Chg.E cs Fs).flatten, (x ∈ Fs.flatten ∧ x ∉ Os.flatten) ∨ x ∈ Es.flatten := fun x hx => by
          have l : ∀ c ∈ cs, c.i < Fs.length := fun c hc => (List.getElem?_eq_some_iff.mp (c4 c hc).1).1
          have p1 := setsF_perm (h := Chg.E) n1 l
          have p2 := setsF_perm (h := Chg.G) n1 l
          rw [setsF_same (fun c hc => (c4 c hc).1), c2] at p2
          rw [c3] at p1
          rcases List.mem_append.mp (p1.mem_iff.mp hx) with h | h
          · exact .inr h
          · have nn := List.nodup_append.mp (p2.nodup_iff.mp ok.nd)
            exact .inl ⟨p2.mem_iff.mpr (List.mem_append_right _ h), fun z => nn.2.2 x z x h rfl⟩
        refine ⟨setsD cs ρ, setsF Chg.E cs Fs, c5 ρ, ⟨rE2, ⟨me.fd, fun a h q => ?_, fun _ h => h.elim⟩, fun a ha => ?_, (List.nodup_append.mp nd2).1, fun a ha => ?_, fun _ h => h⟩, ⟨fun a o h n => me.keep a o (ex.gr a o h) fun z => n (inFs a z), fun a ha => ?_, fun a h => me.fm a (.inl (ex.f a h)), fun a h => ?_, rfl, fun _ h => nomatch h⟩, nd2, fun a ha => ?_, fun a ha => ?_⟩
        · have hb1 := ok1.dom.b a h
          cases hh : H1 a with
          | none => exact hb1 hh
          | some o =>
            have := me.keep a o hh fun z => (ok1.nz a (inFs a z)).2 h
            rw [q] at this
            cases this
        · rcases subFs a ha with ⟨h, hn⟩ | h
          · cases hh : H1 a with
            | none => exact absurd hh (mut_ne (ok1.mu a h))
            | some o =>
              have e2 := me.keep a o hh hn
              have := ok1.mu a h
              rw [hh] at this
              rw [e2]; exact this
          · exact mE a h
        · rcases subFs a ha with ⟨h, hn⟩ | h
          · refine ⟨fun z => ?_, (ok1.nz a h).2⟩
            rcases me.fn a z with q | q | q
            · rcases q with q | q
              · exact (ok1.nz a h).1 q
              · exact mut_ne (ok.mu a h) (frN a q).1
            · exact hn q
            · exact mut_ne (ok1.mu a h) q
          · refine ⟨me.nf a (List.mem_append_left _ h), fun z => ?_⟩
            rcases me.org a (List.mem_append_left _ h) with q | q
            · exact (ok1.nz a (inFs a q)).2 z
            · exact ok1.dom.b a z q
        · rcases subFs a ha with ⟨h, _⟩ | h
          · exact .inl h
          · exact (me.org a (List.mem_append_left _ h)).imp (inFs a) (back1 a)
        · rcases me.fn a h with q | q | q
          · rcases q with q | q
            · exact (ex.fn a q).imp id fun q => .inr q
            · exact .inr (.inr (frN a q).1)
          · exact .inr (.inl (inFs a q))
          · exact .inr (.inr (back1 a q))
        · refine ⟨me.nf a (List.mem_append_right _ ha), fun z => ?_⟩
          rcases me.org a (List.mem_append_right _ ha) with q | q
          · exact (ok1.nz a (inFs a q)).2 z
          · exact ok1.dom.b a z q
        · exact (me.org a (List.mem_append_right _ ha)).imp (inFs a) (back1 a)
      cases r with
      | no => cases hr
      | ok d =>
        intro v H2 f' Es F me rp
        obtain ⟨ρ', Fs', hp, ok2, st, nd2, nz2, or2⟩ := after me
        rw [hp] at q0
        have nb : noB d = true := hr
        exact q0 v H2 _ Fs' F st ⟨ok2, repL_cons (noB_only rp nb fun _ h => h) repL_nil, by simpa using nd2, by simpa using nz2⟩ or2
      | ex x =>
        intro cls d H2 f' Es me xr
        obtain ⟨ρ', Fs', hp, ok2, st, _, _, _⟩ := after me
        rw [hp] at q0
        exact q0 cls d H2 _ Fs' st ok2 (xr.back fun _ h => h)
theorem xcall_end {K : PySem.W.Frag} {cm : Cm} {W : WX} {m : MM} {n : Nat} {aks : List AK} {dd : List D} {dvs : List V} (hdd : dd.all isAt = true) (hdv : dvs = dd.map toV) (hlen : aks.length + dd.length = n) {σ : L2.St} {H : Hp} {Q : VK} (q0 : tX K cm W (xCall m aks dd) σ H Q) :
    tAs K cm W aks σ H (fun vs H1 => spM K cm n (plPos aks 0) m (vs ++ dvs) H1 Q (fun cls d H' => W cls d σ H')) := by
  obtain ⟨Z, ρ, Fs, ok, q0⟩ := q0
  unfold xCall at q0
  refine args_run ok aks (.refl ok.pure.dom) _ (fun e => by rw [e] at q0; exact q0) (fun x e cls dd H' Z' ex xr => ?_) fun ds e vs Os Ns H1 Z1 ex as ndN frN nfN => ?_
  · rw [e] at q0
    exact q0 cls dd H' _ Fs (SStep.ext ok ex) (ok.ext ex) (xr.back fun _ h => h)
  · rw [e] at q0
    exact xcall_fin hdd hdv hlen ok ex as ndN frN nfN q0
/-- ahead of the arguments stands the object whose method is called -/
def recvOk (c n : Str) (ρ : En) : List AK → Bool
  | .pl i π :: _ => match subD ρ i π with
    | some (_, _, .nd (.obj _ c' fs) _) => decide (c' = c) && !fs.contains n
    | _ => false
  | _ => false
def xMeth (c n : Str) (m : MM) (aks : List AK) (dd : List D) : Xf := fun ρ => if recvOk c n ρ aks then xCall m aks dd ρ else none
theorem lookup_out {α : Type} {n : Str} : ∀ {fs : List Str} {vs : List α}, fs.contains n = false → (fs.zip vs).lookup n = none
  | [], _, _ => rfl
  | f :: fs, [], _ => rfl
  | f :: fs, v :: vs, h => by
    rw [List.contains_cons, Bool.or_eq_false_iff] at h
    rw [List.zip_cons_cons, List.lookup]
    rw [h.1]
    exact lookup_out h.2
theorem xmeth_end {K : PySem.W.Frag} {cm : Cm} {W : WX} {c nm : Str} {m : MM} {n i : Nat} {π : Pi'} {aks : List AK} {dd : List D} {dvs : List V} (hdd : dd.all isAt = true) (hdv : dvs = dd.map toV) (hlen : aks.length + 1 + dd.length = n) {σ : L2.St} {H : Hp} {Q : VK} (q0 : tX K cm W (xMeth c nm m (.pl i π :: aks) dd) σ H Q) :
    tPth2 K cm W i π σ H (fun x H1 => ∃ a dx fs, x = .ref a ∧ H1 a = some (.ins (cm c) dx fs) ∧ fs.lookup nm = none ∧ tAs K cm W aks σ H1 (fun vs H2 => spM K cm n (plPos (.pl i π :: aks) 0) m (x :: (vs ++ dvs)) H2 Q (fun cls d H' => W cls d σ H'))) := by
  obtain ⟨Z, ρ, Fs, ok, q0⟩ := q0
  unfold xMeth at q0
  split at q0
  rotate_left
  · exact q0.elim
  rename_i hr
  unfold recvOk at hr
  dsimp only at hr
  split at hr
  rotate_left
  · cases hr
  rename_i d js fl c' fs es q
  rw [Bool.and_eq_true] at hr
  have hc : c' = c := of_decide_eq_true hr.1
  subst hc
  have hf : fs.contains nm = false := by simpa using hr.2
  unfold xCall at q0
  have h0 := subD_eq q
  have e : Ext H (lendZ Z Fs) H (lendZ Z Fs) := .refl ok.pure.dom
  refine ⟨Z, ρ, Fs, d, js, _, ok, h0.1, h0.2.1, h0.2.2, fun H2 Z2 v F v0 F0 A B ex hs hF fo => ?_⟩
  obtain ⟨a, us, Es, rfl, cell, _, _⟩ := fo.rep
  obtain ⟨⟨dx, hi⟩, hl, _⟩ := cell
  refine ⟨a, dx, _, rfl, hi, lookup_out hf, ?_⟩
  generalize hD : (D.nd (.obj fl c' fs) es) = d0 at *
  by_cases nb : noB d0 = true
  rotate_left
  · unfold evA at q0
    rw [q] at q0
    dsimp only at q0
    rw [if_neg nb] at q0
    exact q0.elim
  have eev : evA (plS (.pl i π :: aks)) ρ (.pl i π :: aks) = (evA (plS (.pl i π :: aks)) ρ aks).bind fun ds => .ok (d0 :: ds) := by
    conv => lhs; unfold evA
    rw [q]
    dsimp only
    rw [if_pos nb]
  rw [eev] at q0
  refine args_run (hid := plS (.pl i π :: aks)) ok aks (e.trans ex) _ (fun q2 => by rw [q2] at q0; exact q0) (fun x q2 cls dd H' Z' ex' xr => ?_) fun ds q2 vs Os Ns H3 Z3 ex3 as nd fr nf => ?_
  · rw [q2] at q0
    exact q0 cls dd H' _ Fs (SStep.ext ok ex') (ok.ext ex') (xr.back fun _ h => h)
  · rw [q2] at q0
    have := xcall_fin (aks := .pl i π :: aks) (ds := d0 :: ds) (vs := .ref a :: vs) (Os := F0 :: Os) (Ns := [] :: Ns) hdd hdv (by simpa using hlen) ok (ex.trans ex3) (.cons ⟨rfl, nb, d, js, v, F, A, B, q, hs, hF, fo.move (cell_grow ex3.gr ex3.f (fun _ h => h) fun _ h => h)⟩ as) (by simpa using nd) (fun x hx => by
      have hx : x ∈ Ns.flatten := by simpa using hx
      exact ⟨ex.gr.back (fr x hx).1, (fr x hx).2⟩) (by simpa using nf) q0
    exact this
end OB

namespace OB
open PySem PySem.Spec PyProof.Rows L2
/-! ### o.m(..), what is raised is wished for at the caller's slots -/
def tMethSD (C : Addr) (m : Str) (sp : Sp) (dvs : List V) (E : L2.St → XK) (ta : TE) (t : TA) : TE := fun σ H Q => ta σ H fun x H1 => ∃ a dx fs, x = .ref a ∧ H1 a = some (.ins C dx fs) ∧ fs.lookup m = none ∧ t σ H1 fun vs H2 => sp (x :: (vs ++ dvs)) H2 Q (E σ)
section
variable {X : Cx} {CX : CXT} {k : Nat} {f C : Addr} {fd : FuncData} {ps : List Str} {sp : Sp} {dvs : List V} {ds : List Value} {E : L2.St → XK} {x m : Str} {p pos apos : Pos} {e o : Expr} {es : List Expr} {ta : TE} {t : TA}
theorem pe_methSD {pl : Sem Bool} (he : PE X o ta) (c : Cls X.K C) (hm : Meth X.K C m f) (F : FnOk X.prog X.w X.K X.mg X.base CX k f fd ps sp) (hr : Room k X.A) (hb : Binds X.K fd ps ds) (hd : Vals dvs ds) (hx : ∀ σ, PassesAt CX X σ (E σ)) (ha : PA X (e :: es) t)
    (hst : starEach (e :: es) X.env = (false, eval e X.env) :: starEach es X.env := by rfl) (hpl : (backTo pos (starEach es X.env)).any (·.1) = false := by rfl)
    (ht : eval (.Call (.Attribute o m apos) (e :: es) [] pos) X.env = (do
      let ov ← eval o X.env
      standAt apos.atName
      let (f, first) ← holding [ov] (getMethod ov m pl)
      callWith pos f first (backTo pos (starEach (e :: es) X.env)) (backToKw pos (keywordEach [] X.env))) := by rfl) :
    PE X (.Call (.Attribute o m apos) (e :: es) [] pos) (tMethSD C m sp dvs E ta t) := by
  refine ⟨fun pins s σ H Q I h => ?_⟩
  refine PySem.W.methodCall_KW (pl := pl) (thn (he.run pins s σ H _ I h) fun u s1 ⟨x, H1, I1, rx, a, dx, fs, ex, ea, l, q⟩ => ?_) ht
  subst ex
  obtain rfl : u = Value.ref a := rx
  refine getmeth_ok I1 ea c hm l ?_
  refine PySem.W.callWith_K (first := [.ref a]) (h₀ := X.base) I.ok.mod.kin hm.kp (thn (ha.run pos pins s1 σ H1 _ I1 q) fun us s2 ⟨vs, H2, I2, r, q2⟩ => ⟨I2.kIn, ?_⟩) hst hpl
  exact run_fnSD (us := .ref a :: us) (vs := .ref a :: vs) F hr hb hd (hx σ) I2 (.cons rfl r) q2
theorem pe_methSD0 {pl : Sem Bool} (he : PE X o ta) (c : Cls X.K C) (hm : Meth X.K C m f) (F : FnOk X.prog X.w X.K X.mg X.base CX k f fd ps sp) (hr : Room k X.A) (hb : Binds X.K fd ps ds) (hd : Vals dvs ds) (hx : ∀ σ, PassesAt CX X σ (E σ))
    (ht : eval (.Call (.Attribute o m apos) [] [] pos) X.env = (do
      let ov ← eval o X.env
      standAt apos.atName
      let (f, first) ← holding [ov] (getMethod ov m pl)
      callWith pos f first (backTo pos (starEach [] X.env)) (backToKw pos (keywordEach [] X.env))) := by rfl) :
    PE X (.Call (.Attribute o m apos) [] [] pos) (tMethSD C m sp dvs E ta tNil) := by
  refine ⟨fun pins s σ H Q I h => ?_⟩
  refine PySem.W.methodCall_KW (pl := pl) (thn (he.run pins s σ H _ I h) fun u s1 ⟨x, H1, I1, rx, a, dx, fs, ex, ea, l, q⟩ => ?_) ht
  subst ex
  obtain rfl : u = Value.ref a := rx
  refine getmeth_ok I1 ea c hm l ?_
  exact PySem.W.callWith_K0 (first := [.ref a]) I1.kIn hm.kp (run_fnSD (us := [.ref a]) (vs := [.ref a]) F hr hb hd (hx σ) I1 (.cons rfl .nil) q)
theorem pe_call0SD (F : FnOk X.prog X.w X.K X.mg X.base CX k f fd ps sp) (hr : Room k X.A) (hg : Gl X x) (hm : X.mg x = some (.ref f)) (hk : PySem.W.keepIn X.K (.ref f) = true) (hb : Binds X.K fd ps ds) (hd : Vals dvs ds) (hx : ∀ σ, PassesAt CX X σ (E σ))
    (hdb : (x == ("__debug__" : Str)) = false := by decide) : PE X (.Call (.Name x p) [] [] pos) (tCallSD sp dvs E tNil) := by
  refine ⟨fun pins s σ H Q I h => ?_⟩
  refine wpAny_Call_Name_kw (ld_glob I hg hm ?_ hdb)
  exact PySem.W.callWith_K0 I.kIn hk (run_fnSD (us := []) F hr hb hd (hx σ) I .nil h)
end

/-! ### what is called, by name -/
section
variable (P : Program) (w : World) (K : PySem.W.Frag) (mg : Str → Option Value) (base : Heap) (cm : Cm)
def GoodF (x : Str) (k : Nat) (sp : Sp) (dd : List D) : Prop :=
  ∃ (a : Addr) (fd : FuncData) (ps : List Str) (ds : List Value), mg x = some (.ref a) ∧ PySem.W.keepIn K (.ref a) = true ∧ Binds K fd ps ds ∧ Vals (dd.map toV) ds ∧ FnOk P w K mg base (L2.CX P w) k a fd ps sp
def GoodMt (c n : Str) (k : Nat) (sp : Sp) (dd : List D) : Prop :=
  ∃ (f : Addr) (fd : FuncData) (ps : List Str) (ds : List Value), Cls K (cm c) ∧ Meth K (cm c) n f ∧ Binds K fd ps ds ∧ Vals (dd.map toV) ds ∧ FnOk P w K mg base (L2.CX P w) k f fd ps sp
def GoodMk (c : Str) (k : Nat) (sp : Sp) (dd : List D) : Prop :=
  ∃ (f : Addr) (fd : FuncData) (ps : List Str) (ds : List Value), mg c = some (.ref (cm c)) ∧ Mk K (cm c) f ∧ Binds K fd ps ds ∧ Vals (dd.map toV) ds ∧ FnOk P w K mg base (L2.CX P w) k f fd ps sp
end
theorem as_nil {X : Cx} {cm : Cm} {W : WX} : PA X [] (tAs X.K cm W []) := pa_nil
theorem as_cons {X : Cx} {cm : Cm} {W : WX} {e : Expr} {es : List Expr} {a : AK} {aks : List AK} (h : PE X e (a.te X.K cm W)) (hs : PA X es (tAs X.K cm W aks)) (hst : starEach (e :: es) X.env = (false, eval e X.env) :: starEach es X.env := by rfl) : PA X (e :: es) (tAs X.K cm W (a :: aks)) := pa_cons h hs hst
section
variable {X : Cx} {cm : Cm} {W : WX} {x c nm : Str} {p pos apos : Pos} {o e : Expr} {es : List Expr} {k j n i : Nat} {π : Pi'} {mt : List Nat} {m : MM} {dd : List D} {aks : List AK}
theorem x_call (tk : Takes X W) (G : GoodF X.prog X.w X.K X.mg X.base x k (spM X.K cm n mt m) dd) (hr : Room j X.A) (hk : k ≤ j) (hg : Gl X x) (hdd : dd.all isAt = true) (hn : aks.length + dd.length = n) (hmt : plPos aks 0 = mt) (ha : PA X (e :: es) (tAs X.K cm W aks))
    (hdb : (x == ("__debug__" : Str)) = false := by decide) (he : starEach (e :: es) X.env = (false, eval e X.env) :: starEach es X.env := by rfl) (hpl : (backTo pos (starEach es X.env)).any (·.1) = false := by rfl) :
    SX X cm W (.Call (.Name x p) (e :: es) [] pos) (xCall m aks dd) := by
  obtain ⟨a, fd, ps, ds, hm, kp, b, hd, F⟩ := G
  subst hmt
  exact PE.imp (pe_callSD (E := fun σ cls d H => W cls d σ H) F (hr.mono hk) hg hm kp b hd (fun σ => passAt tk σ) ha hdb he hpl) fun σ H Q q0 => xcall_end hdd rfl hn q0
theorem x_meth {pl : Sem Bool} (tk : Takes X W) (G : GoodMt X.prog X.w X.K X.mg X.base cm c nm k (spM X.K cm n mt m) dd) (hr : Room j X.A) (hk : k ≤ j) (hdd : dd.all isAt = true) (hn : aks.length + 1 + dd.length = n) (hmt : plPos (.pl i π :: aks) 0 = mt) (ho : SP2 X cm W o i π) (ha : PA X (e :: es) (tAs X.K cm W aks))
    (hst : starEach (e :: es) X.env = (false, eval e X.env) :: starEach es X.env := by rfl) (hpl : (backTo pos (starEach es X.env)).any (·.1) = false := by rfl)
    (ht : eval (.Call (.Attribute o nm apos) (e :: es) [] pos) X.env = (do
      let ov ← eval o X.env
      standAt apos.atName
      let (f, first) ← holding [ov] (getMethod ov nm pl)
      callWith pos f first (backTo pos (starEach (e :: es) X.env)) (backToKw pos (keywordEach [] X.env))) := by rfl) :
    SX X cm W (.Call (.Attribute o nm apos) (e :: es) [] pos) (xMeth c nm m (.pl i π :: aks) dd) := by
  obtain ⟨f, fd, ps, ds, cl, hm, b, hd, F⟩ := G
  subst hmt
  exact PE.imp (pe_methSD (pl := pl) (E := fun σ cls d H => W cls d σ H) ho cl hm F (hr.mono hk) b hd (fun σ => passAt tk σ) ha hst hpl ht) fun σ H Q q0 => xmeth_end hdd rfl hn q0
theorem x_meth0 {pl : Sem Bool} (tk : Takes X W) (G : GoodMt X.prog X.w X.K X.mg X.base cm c nm k (spM X.K cm n mt m) dd) (hr : Room j X.A) (hk : k ≤ j) (hdd : dd.all isAt = true) (hn : 1 + dd.length = n) (hmt : [0] = mt) (ho : SP2 X cm W o i π)
    (ht : eval (.Call (.Attribute o nm apos) [] [] pos) X.env = (do
      let ov ← eval o X.env
      standAt apos.atName
      let (f, first) ← holding [ov] (getMethod ov nm pl)
      callWith pos f first (backTo pos (starEach [] X.env)) (backToKw pos (keywordEach [] X.env))) := by rfl) :
    SX X cm W (.Call (.Attribute o nm apos) [] [] pos) (xMeth c nm m [.pl i π] dd) := by
  obtain ⟨f, fd, ps, ds, cl, hm, b, hd, F⟩ := G
  subst hmt
  exact PE.imp (pe_methSD0 (pl := pl) (E := fun σ cls d H => W cls d σ H) ho cl hm F (hr.mono hk) b hd (fun σ => passAt tk σ) ht) fun σ H Q q0 => xmeth_end (aks := []) hdd rfl (by simpa using hn) q0
end

/-! ### a method that changes nothing -/
theorem eL_len {ρ : En} : ∀ {fs : List (En → Ot D)} {ds : List D}, eL fs ρ = .ok ds → ds.length = fs.length
  | [], ds, h => by cases h; rfl
  | f :: fs, ds, h => by
    unfold eL at h
    cases q1 : f ρ with
    | no => rw [q1] at h; cases h
    | ex x => rw [q1] at h; cases h
    | ok d =>
      rw [q1, Ot.bind_ok] at h
      cases q2 : eL fs ρ with
      | no => rw [q2] at h; cases h
      | ex x => rw [q2] at h; cases h
      | ok es => rw [q2, Ot.bind_ok] at h; cases h; simp [eL_len q2]
theorem flat_map_nil {α : Type} : ∀ l : List α, (l.map fun _ => ([] : List Addr)).flatten = []
  | [] => rfl
  | d :: l => by rw [List.map_cons, List.flatten_cons, flat_map_nil l]; rfl
/-- behind the arguments -/
theorem call_fin {K : PySem.W.Frag} {cm : Cm} {W : WX} {m : List D → Ot D} {n : Nat} {dd : List D} {dvs : List V} (hdd : dd.all isAt = true) (hdv : dvs = dd.map toV) {σ : L2.St} {H H1 : Hp} {Z Z1 : Zn} {ds : List D} {vs : List V} {Gs : List (List Addr)} {Q : VK} (hlen : ds.length + dd.length = n)
    (dm : Dom H Z) (r1 : ResL K cm H Z H1 Z1 [] ds vs Gs) (q0 : FinD K cm W σ H Z Q (back (m (ds.map toArg ++ dd)))) : spP K cm n m (vs ++ dvs) H1 Q (fun cls d H' => W cls d σ H') := by
  have dm1 := dm.ext r1.ext
  obtain ⟨Ms, e1, e2⟩ := r1.rep.arg (f := fun a => Z1.f a ∨ a ∈ Gs.flatten) (fun a h => .inr h) (fun a h => .inl h)
  have hm := RepL.mut ds r1.rep
  refine ⟨fun a => Z1.f a ∨ a ∈ Gs.flatten, ds.map toArg ++ dd, Ms ++ (dd.map fun _ => []), fun a h => h.elim (dm1.f a) fun z => mut_ne (hm a z), by simp [hlen], by rw [List.flatten_append, e1, flat_map_nil]; rfl, ?_, ?_⟩
  · rw [hdv]; exact e2.app (rdd_at dd hdd _)
  · have extB : ∀ {H2 : Hp} {Z2 : Zn}, Ext H1 (lentZ H1 fun a => Z1.f a ∨ a ∈ Gs.flatten) H2 Z2 → Ext H Z H2 ⟨Z2.f, Z.b, Z.t⟩ := fun {H2 Z2} e =>
      ⟨r1.ext.gr.trans e.gr, fun a h => e.f a (.inl (r1.ext.f a h)), fun a h => (e.fn a h).elim (fun q => q.elim (r1.ext.fn a) fun z => .inr (r1.new a z)) fun q => .inr (r1.ext.gr.back q), e.fd, rfl, rfl⟩
    cases q2 : m (ds.map toArg ++ dd) with
    | no => rw [q2] at q0; exact q0
    | ok r =>
      rw [q2] at q0
      have q0 : FinD K cm W σ H Z Q (if noB r then .ok r else .no) := q0
      split at q0
      · rename_i nb
        intro v H2 Z2 F r2
        exact q0 v H2 ⟨Z2.f, Z.b, Z.t⟩ F ⟨extB r2.ext, noB_only r2.rep nb fun _ h => h, r2.nd, fun a h => .inl (r1.ext.gr.back (r2.new a h)), r2.nf⟩
      · exact q0.elim
    | ex x =>
      rw [q2] at q0
      have q0 : FinD K cm W σ H Z Q (.ex x) := q0
      intro cls d H2 Z2 e xr
      exact q0 cls d H2 ⟨Z2.f, Z.b, Z.t⟩ (extB e) (xr.back fun _ h => h)
def objHas (c n : Str) : D → Bool
  | .nd (.obj _ c' fs) _ => decide (c' = c) && !fs.contains n
  | _ => false
def eMeth (c n : Str) (m : List D → Ot D) (dd : List D) (f : En → Ot D) (fs : List (En → Ot D)) : En → Ot D := fun ρ => (f ρ).bind fun x => if objHas c n x then (eL fs ρ).bind fun ds => back (m ((x :: ds).map toArg ++ dd)) else .no
theorem objHas_ok {K : PySem.W.Frag} {cm : Cm} {H : Hp} {Z : Zn} {c n : Str} {d : D} {v : V} {F : List Addr} (h : Rep K cm H Z d v F) (e : objHas c n d = true) : ∃ a dx fs, v = .ref a ∧ H a = some (.ins (cm c) dx fs) ∧ fs.lookup n = none := by
  unfold objHas at e
  split at e
  · rename_i fl c' fs es
    rw [Bool.and_eq_true] at e
    have hc := of_decide_eq_true e.1
    subst hc
    obtain ⟨a, us, Es, rfl, ⟨⟨dx, hi⟩, hl, _⟩, _, _⟩ := h
    exact ⟨a, dx, _, rfl, hi, lookup_out (by simpa using e.2)⟩
  · cases e
theorem meth_end {K : PySem.W.Frag} {cm : Cm} {W : WX} {c nm : Str} {m : List D → Ot D} {n : Nat} {dd : List D} {f : En → Ot D} {fs : List (En → Ot D)} {dvs : List V} (hdd : dd.all isAt = true) (hdv : dvs = dd.map toV) (hlen : fs.length + 1 + dd.length = n) {σ : L2.St} {H : Hp} {Q : VK} (q0 : tP K cm W (eMeth c nm m dd f fs) σ H Q) :
    tP K cm W f σ H (fun x H1 => ∃ a dx fs', x = .ref a ∧ H1 a = some (.ins (cm c) dx fs') ∧ fs'.lookup nm = none ∧ tPL K cm W (eL fs) σ H1 (fun vs H2 => spP K cm n m (x :: (vs ++ dvs)) H2 Q (fun cls d H' => W cls d σ H'))) := by
  obtain ⟨Z, ρ, Fs, ok, q0⟩ := q0
  unfold eMeth at q0
  refine tP_bind ok (fun q => ?_) (fun x q v H1 Z1 F r1 => ?_) (fun x q => ?_)
  · rw [q] at q0; exact q0
  · rw [q, Ot.bind_ok] at q0
    split at q0
    · rename_i ty
      obtain ⟨a, dx, fs', rfl, e1, e2⟩ := objHas_ok r1.rep ty
      refine ⟨a, dx, fs', rfl, e1, e2, Z1, ρ, Fs, ok.ext r1.ext, ?_⟩
      cases q2 : eL fs ρ with
      | no => rw [q2] at q0; exact q0
      | ex x => rw [q2] at q0; exact fun cls dd H' Z' ex xr => q0 cls dd H' Z' (r1.ext.trans ex) xr
      | ok ds =>
        rw [q2, Ot.bind_ok] at q0
        intro vs H2 Z2 Gs r2
        have rl := ResL.cons r1 r2
        exact call_fin (vs := .ref a :: vs) hdd hdv (by simp [eL_len q2]; omega) ok.dom rl q0
    · exact q0.elim
  · rw [q] at q0; exact q0
section
variable {X : Cx} {cm : Cm} {W : WX} {x c nm : Str} {p pos apos : Pos} {o e : Expr} {es : List Expr} {k j n i : Nat} {m : List D → Ot D} {dd : List D} {f : En → Ot D} {fs : List (En → Ot D)}
theorem s_meth {pl : Sem Bool} (tk : Takes X W) (G : GoodMt X.prog X.w X.K X.mg X.base cm c nm k (spP X.K cm n m) dd) (hr : Room j X.A) (hk : k ≤ j) (hdd : dd.all isAt = true) (hn : fs.length + 1 + dd.length = n) (ho : SE X cm W o f) (ha : SA X cm W (e :: es) (eL fs))
    (hst : starEach (e :: es) X.env = (false, eval e X.env) :: starEach es X.env := by rfl) (hpl : (backTo pos (starEach es X.env)).any (·.1) = false := by rfl)
    (ht : eval (.Call (.Attribute o nm apos) (e :: es) [] pos) X.env = (do
      let ov ← eval o X.env
      standAt apos.atName
      let (f, first) ← holding [ov] (getMethod ov nm pl)
      callWith pos f first (backTo pos (starEach (e :: es) X.env)) (backToKw pos (keywordEach [] X.env))) := by rfl) :
    SE X cm W (.Call (.Attribute o nm apos) (e :: es) [] pos) (eMeth c nm m dd f fs) := by
  obtain ⟨g, fd, ps, ds, cl, hm, b, hd, F⟩ := G
  exact PE.imp (pe_methSD (pl := pl) (E := fun σ cls d H => W cls d σ H) ho cl hm F (hr.mono hk) b hd (fun σ => passAt tk σ) ha hst hpl ht) fun σ H Q q0 => meth_end hdd rfl hn q0
theorem s_meth0 {pl : Sem Bool} (tk : Takes X W) (G : GoodMt X.prog X.w X.K X.mg X.base cm c nm k (spP X.K cm n m) dd) (hr : Room j X.A) (hk : k ≤ j) (hdd : dd.all isAt = true) (hn : 1 + dd.length = n) (ho : SE X cm W o f)
    (ht : eval (.Call (.Attribute o nm apos) [] [] pos) X.env = (do
      let ov ← eval o X.env
      standAt apos.atName
      let (f, first) ← holding [ov] (getMethod ov nm pl)
      callWith pos f first (backTo pos (starEach [] X.env)) (backToKw pos (keywordEach [] X.env))) := by rfl) :
    SE X cm W (.Call (.Attribute o nm apos) [] [] pos) (eMeth c nm m dd f []) := by
  obtain ⟨g, fd, ps, ds, cl, hm, b, hd, F⟩ := G
  exact PE.imp (pe_methSD0 (pl := pl) (E := fun σ cls d H => W cls d σ H) ho cl hm F (hr.mono hk) b hd (fun σ => passAt tk σ) ht) fun σ H Q q0 => by
    obtain ⟨Z, ρ, Fs, ok, q⟩ := meth_end (fs := []) hdd rfl (by simpa using hn) q0
    refine tP_bind ok (fun e => by rw [e] at q; exact q) (fun d e v H1 Z1 F r => ?_) (fun x e => by rw [e] at q; exact q)
    rw [e] at q
    obtain ⟨a, dx, fs', e1, e2, e3, q4⟩ := q v H1 Z1 F r
    refine ⟨a, dx, fs', e1, e2, e3, ?_⟩
    obtain ⟨Z2, ρ2, Fs2, ok2, q5⟩ := q4
    exact q5 [] H1 Z2 [] (.nil ok2.dom)
/-- a def's value, no parameters given, what it raises let out -/
theorem s_call0X (tk : Takes X W) (G : GoodF X.prog X.w X.K X.mg X.base x k (spP X.K cm n m) dd) (hr : Room j X.A) (hk : k ≤ j) (hg : Gl X x) (hdd : dd.all isAt = true) (hn : dd.length = n) (hdb : (x == ("__debug__" : Str)) = false := by decide) :
    SE X cm W (.Call (.Name x p) [] [] pos) (eCall m dd []) := by
  obtain ⟨a, fd, ps, ds, hm, kp, b, hd, F⟩ := G
  exact PE.imp (pe_call0SD (E := fun σ cls d H => W cls d σ H) F (hr.mono hk) hg hm kp b hd (fun σ => passAt tk σ) hdb) fun σ H Q q0 => by
    obtain ⟨Z, ρ, Fs, ok, q3⟩ := call_end (n := n) (fs := []) hdd rfl (by simpa using hn) q0
    exact q3 [] H Z [] (.nil ok.dom)
theorem s_callF (tk : Takes X W) (G : GoodF X.prog X.w X.K X.mg X.base x k (spP X.K cm n m) dd) (hr : Room j X.A) (hk : k ≤ j) (hg : Gl X x) (hdd : dd.all isAt = true) (hn : fs.length + dd.length = n) (ha : SA X cm W (e :: es) (eL fs))
    (hdb : (x == ("__debug__" : Str)) = false := by decide) (he : starEach (e :: es) X.env = (false, eval e X.env) :: starEach es X.env := by rfl) (hpl : (backTo pos (starEach es X.env)).any (·.1) = false := by rfl) :
    SE X cm W (.Call (.Name x p) (e :: es) [] pos) (eCall m dd fs) := by
  obtain ⟨a, fd, ps, ds, hm, kp, b, hd, F⟩ := G
  exact s_call tk F (hr.mono hk) hg hm kp b hd hdd rfl hn ha hdb he hpl
end
end OB

namespace OB
open PySem PySem.Spec PyProof.Rows L2
/-! ### C(..) -/
def tMakeSD (C : Addr) (sp : Sp) (dvs : List V) (E : L2.St → XK) (t : TA) : TE := fun σ H Q => t σ H fun vs H1 => ∀ x dx, H1 x = none → H1 dx = none → dx ≠ x →
  sp (.ref x :: (vs ++ dvs)) (L2.upd (L2.upd H1 dx (.own x)) x (.ins C dx [])) (fun v H2 => v = .non ∧ Q (.ref x) H2) (E σ)
section
variable {X : Cx} {CX : CXT} {k : Nat} {f C : Addr} {fd : FuncData} {ps : List Str} {sp : Sp} {dvs : List V} {ds : List Value} {E : L2.St → XK} {x m : Str} {p pos apos : Pos} {e o : Expr} {es : List Expr} {ta : TE} {t : TA}
theorem run_makeSD {pins : List (Addr × Obj)} {σ : L2.St} {H : Hp} {s : Shared} {Q : VK} {us : List Value} {vs : List V} (M : Mk X.K C f) (F : FnOk X.prog X.w X.K X.mg X.base CX k f fd ps sp) (hr : Room (k + 1) X.A) (hb : Binds X.K fd ps ds) (hd : Vals dvs ds)
    (hx : PassesAt CX X σ (E σ)) (I : Inv X pins σ H s) (r : Vals vs us)
    (h : ∀ x dx, H x = none → H dx = none → dx ≠ x → sp (.ref x :: (vs ++ dvs)) (L2.upd (L2.upd H dx (.own x)) x (.ins C dx [])) (fun v H2 => v = .non ∧ Q (.ref x) H2) (E σ)) :
    wpAny (model X.prog X.w) X.A (call (.ref C) us) (EP X pins σ Q) X.xe s := by
  have hq := h (s.heap.objs.size + 1) s.heap.objs.size (I.hok.fresh (Nat.le_succ _)) (I.hok.fresh (Nat.le_refl _)) (Nat.ne_of_lt (Nat.lt_succ_self _))
  have I2 := Inv.made (C := C) I
  have r2 : Vals (V.ref (s.heap.objs.size + 1) :: (vs ++ dvs)) (Value.ref (s.heap.objs.size + 1) :: (us ++ ds)) := .cons rfl (r.append hd)
  have hl : (Value.ref (s.heap.objs.size + 1) :: us ++ ds).length = ps.length := by
    have e := r2.length
    rw [F.len _ _ _ _ hq] at e
    exact e.symm
  refine wpAny_call (make_map (f := f) I.kIn M.makes M.init (beq_iff_eq.mp M.fn) (codeAny_mono (F.run _ X.stack _ _ ⟨Value.ref (s.heap.objs.size + 1) :: us, []⟩ (Value.ref (s.heap.objs.size + 1) :: (us ++ ds)) _ _ (E σ) (hr.make C us [])
    (I2.env0.make C us []) (hb _ (Value.ref (s.heap.objs.size + 1) :: us) I2.kIn hl) r2 hq) fun r s' hq' => ?_))
  cases r with
  | error e => exact hx pins _ _ e s' I2 hq'
  | ok fl =>
    cases fl with
    | ret u =>
      obtain ⟨v, H', I3, rv, ev, q3⟩ := I2.after hq'
      subst ev
      exact ⟨rv, ⟨V.ref (s.heap.objs.size + 1), H', I3, rfl, q3⟩⟩
    | next => exact False.elim hq'
    | brk => exact False.elim hq'
    | cont => exact False.elim hq'
theorem pe_makeSD (M : Mk X.K C f) (F : FnOk X.prog X.w X.K X.mg X.base CX k f fd ps sp) (hr : Room (k + 1) X.A) (hg : Gl X x) (hm : X.mg x = some (.ref C)) (hb : Binds X.K fd ps ds) (hd : Vals dvs ds) (hx : ∀ σ, PassesAt CX X σ (E σ))
    (ha : PA X (e :: es) t) (hdb : (x == ("__debug__" : Str)) = false := by decide) (he : starEach (e :: es) X.env = (false, eval e X.env) :: starEach es X.env := by rfl) (hpl : (backTo pos (starEach es X.env)).any (·.1) = false := by rfl) :
    PE X (.Call (.Name x p) (e :: es) [] pos) (tMakeSD C sp dvs E t) := by
  refine ⟨fun pins s σ H Q I h => ?_⟩
  refine wpAny_Call_Name_kw (ld_glob I hg hm ?_ hdb)
  refine PySem.W.callWith_K (h₀ := X.base) I.ok.mod.kin M.kp (thn (ha.run pos pins s σ H _ I h) fun us s1 ⟨vs, H1, I1, r, q⟩ => ⟨I1.kIn, ?_⟩) he hpl
  exact run_makeSD M F hr hb hd (hx σ) I1 r q
theorem pe_makeSD0 (M : Mk X.K C f) (F : FnOk X.prog X.w X.K X.mg X.base CX k f fd ps sp) (hr : Room (k + 1) X.A) (hg : Gl X x) (hm : X.mg x = some (.ref C)) (hb : Binds X.K fd ps ds) (hd : Vals dvs ds) (hx : ∀ σ, PassesAt CX X σ (E σ))
    (hdb : (x == ("__debug__" : Str)) = false := by decide) : PE X (.Call (.Name x p) [] [] pos) (tMakeSD C sp dvs E tNil) := by
  refine ⟨fun pins s σ H Q I h => ?_⟩
  refine wpAny_Call_Name_kw (ld_glob I hg hm ?_ hdb)
  exact PySem.W.callWith_K0 I.kIn M.kp (run_makeSD (us := []) M F hr hb hd (hx σ) I .nil h)
end
def mkBack : Option (Ot D × List D) → Ot D
  | some (.ok .non, [d]) => if noB d then .ok d else .no
  | some (.ex x, _) => .ex x
  | _ => .no
def eMake (c : Str) (m : MM) (dd : List D) (fs : List (En → Ot D)) : En → Ot D := fun ρ => (eL fs ρ).bind fun ds => mkBack (m (.nd (.obj .own c []) [] :: (ds.map toArg ++ dd)))
theorem make_fin {K : PySem.W.Frag} {cm : Cm} {W : WX} {c : Str} {m : MM} {n : Nat} {dd : List D} {dvs : List V} (hdd : dd.all isAt = true) (hdv : dvs = dd.map toV) {σ : L2.St} {H H1 : Hp} {Z Z1 : Zn} {ds : List D} {vs : List V} {Gs : List (List Addr)} {Q : VK} (hlen : ds.length + 1 + dd.length = n)
    (dm : Dom H Z) (r1 : ResL K cm H Z H1 Z1 [] ds vs Gs) (q0 : FinD K cm W σ H Z Q (mkBack (m (.nd (.obj .own c []) [] :: (ds.map toArg ++ dd))))) {x dx : Addr} (hx : H1 x = none) (hdx : H1 dx = none) (ne : dx ≠ x) :
    spM K cm n [0] m (.ref x :: (vs ++ dvs)) (L2.upd (L2.upd H1 dx (.own x)) x (.ins (cm c) dx [])) (fun v H2 => v = .non ∧ Q (.ref x) H2) (fun cls d H' => W cls d σ H') := by
  have dm1 := dm.ext r1.ext
  obtain ⟨Ms, e1, e2⟩ := r1.rep.arg (f := fun a => Z1.f a ∨ a ∈ Gs.flatten) (fun a h => .inr h) (fun a h => .inl h)
  have hm := RepL.mut ds r1.rep
  generalize eH2 : L2.upd (L2.upd H1 dx (.own x)) x (.ins (cm c) dx []) = H2
  have g0 : Grow H1 (L2.upd H1 dx (.own x)) := .new hdx
  have g : Grow H1 H2 := by
    rw [← eH2]
    exact g0.trans (.new (by rw [upd_ne ne.symm]; exact hx))
  have hHx : H2 x = some (.ins (cm c) dx []) := by rw [← eH2]; exact upd_same
  have fd1 : ∀ a, (Z1.f a ∨ a ∈ Gs.flatten) → H1 a ≠ none := fun a h => h.elim (dm1.f a) fun z => mut_ne (hm a z)
  have flO : ([x] :: (Ms ++ (dd.map fun _ => []))).flatten = [x] := by
    rw [List.flatten_cons, List.flatten_append, e1, flat_map_nil]; rfl
  refine ⟨fun a => Z1.f a ∨ a ∈ Gs.flatten, .nd (.obj .own c []) [] :: (ds.map toArg ++ dd), [x] :: (Ms ++ (dd.map fun _ => [])), fun a h q => fd1 a h (g.back q), by simp; omega, ?_, by rw [flO]; simp, fun a ha => ?_, ?_⟩
  · rw [flO, hdv]
    refine repL_cons ⟨x, [], [], rfl, ⟨⟨dx, hHx⟩, rfl, trivial⟩, repL_nil, by simp [ownA, Kd.isOwn, Kd.fl]⟩ (RepL.app (e2.grow g (fun _ h => h) (fun a h => ⟨fun q => h (g.back q), fun q => ?_⟩) fun _ h => h) (rdd_at dd hdd _))
    have : a = x := by simpa using q
    subst this
    exact h hx
  · rw [flO] at ha
    have : a = x := by simpa using ha
    subst this
    exact fun h => fd1 a h hx
  · have ews : ([0] : List Nat).filterMap ((V.ref x :: (vs ++ dvs))[·]?) = [V.ref x] := rfl
    rw [ews, flO]
    have extB : ∀ {H' : Hp} {f' : Addr → Prop} {es : List D} {Es : List (List Addr)} {Fv : List Addr}, MEnd K cm H2 (fun a => Z1.f a ∨ a ∈ Gs.flatten) [x] [V.ref x] H' f' es Es Fv → Ext H Z H' ⟨f', Z.b, Z.t⟩ := fun {H' f' es Es Fv} me =>
      ⟨fun a o h => me.keep a o (g a o (r1.ext.gr a o h)) (fun q => by
        have : a = x := by simpa using q
        subst this
        rw [r1.ext.gr a o h] at hx; cases hx), fun a h => me.fm a (.inl (r1.ext.f a h)), fun a h => by
        rcases me.fn a h with q | q | q
        · rcases q with q | q
          · exact r1.ext.fn a q
          · exact .inr (r1.new a q)
        · have : a = x := by simpa using q
          subst this
          exact .inr (r1.ext.gr.back hx)
        · exact .inr (r1.ext.gr.back (g.back q)), me.fd, rfl, rfl⟩
    cases em : m (.nd (.obj .own c []) [] :: (ds.map toArg ++ dd)) with
    | none => rw [em] at q0; exact q0.elim
    | some p =>
      obtain ⟨r, es⟩ := p
      rw [em] at q0
      cases r with
      | no => exact q0.elim
      | ex xd =>
        have q0 : FinD K cm W σ H Z Q (.ex xd) := q0
        intro cls d H' f' Es me xr
        exact q0 cls d H' ⟨f', Z.b, Z.t⟩ (extB me) (xr.back fun _ h => h)
      | ok d =>
        cases d with
        | non =>
          match es, q0 with
          | [], q0 => exact q0.elim
          | [d1], q0 =>
            have q0 : FinD K cm W σ H Z Q (if noB d1 then .ok d1 else .no) := q0
            split at q0
            rotate_left
            · exact q0.elim
            rename_i nb
            intro v H' f' Es F me rp
            refine ⟨rp.1, ?_⟩
            obtain ⟨v1, F1, hv1, rfl, r⟩ := repL1 me.rep
            cases hv1
            have fl1 : ([F1] : List (List Addr)).flatten = F1 := by simp
            refine q0 _ H' ⟨f', Z.b, Z.t⟩ F1 ⟨extB me, noB_only r nb fun _ h => h, ?_, fun a ha => .inl ?_, fun a ha => me.nf a (by simp [ha])⟩
            · have := me.nd
              rw [fl1] at this
              exact (List.nodup_append.mp this).1
            · rcases me.org a (by simp [ha]) with q | q
              · have : a = x := by simpa using q
                subst this
                exact r1.ext.gr.back hx
              · exact r1.ext.gr.back (g.back q)
          | _ :: _ :: _, q0 => exact q0.elim
        | bl b => exact q0.elim
        | int b => exact q0.elim
        | str b => exact q0.elim
        | nd k b => exact q0.elim
section
variable {X : Cx} {cm : Cm} {W : WX} {c : Str} {p pos : Pos} {e : Expr} {es : List Expr} {k j n : Nat} {m : MM} {dd : List D} {fs : List (En → Ot D)}
theorem s_make (tk : Takes X W) (G : GoodMk X.prog X.w X.K X.mg X.base cm c k (spM X.K cm n [0] m) dd) (hr : Room j X.A) (hk : k + 1 ≤ j) (hg : Gl X c) (hdd : dd.all isAt = true) (hn : fs.length + 1 + dd.length = n) (ha : SA X cm W (e :: es) (eL fs))
    (hdb : (c == ("__debug__" : Str)) = false := by decide) (he : starEach (e :: es) X.env = (false, eval e X.env) :: starEach es X.env := by rfl) (hpl : (backTo pos (starEach es X.env)).any (·.1) = false := by rfl) :
    SE X cm W (.Call (.Name c p) (e :: es) [] pos) (eMake c m dd fs) := by
  obtain ⟨f, fd, ps, ds, hm, M, b, hd, F⟩ := G
  refine PE.imp (pe_makeSD (E := fun σ cls d H => W cls d σ H) M F (hr.mono hk) hg hm b hd (fun σ => passAt tk σ) ha hdb he hpl) fun σ H Q q0 => ?_
  obtain ⟨Z, ρ, Fs, ok, q0⟩ := q0
  refine ⟨Z, ρ, Fs, ok, ?_⟩
  unfold eMake at q0
  cases q : eL fs ρ with
  | no => rw [q] at q0; exact q0
  | ex x => rw [q] at q0; exact q0
  | ok ds =>
    rw [q, Ot.bind_ok] at q0
    exact fun vs H1 Z1 Gs r1 x dx hx hdx ne => make_fin hdd rfl (by rw [eL_len q]; exact hn) ok.dom r1 q0 hx hdx ne
theorem s_make0 (tk : Takes X W) (G : GoodMk X.prog X.w X.K X.mg X.base cm c k (spM X.K cm n [0] m) dd) (hr : Room j X.A) (hk : k + 1 ≤ j) (hg : Gl X c) (hdd : dd.all isAt = true) (hn : 1 + dd.length = n) (hdb : (c == ("__debug__" : Str)) = false := by decide) :
    SE X cm W (.Call (.Name c p) [] [] pos) (eMake c m dd []) := by
  obtain ⟨f, fd, ps, ds, hm, M, b, hd, F⟩ := G
  refine PE.imp (pe_makeSD0 (E := fun σ cls d H => W cls d σ H) M F (hr.mono hk) hg hm b hd (fun σ => passAt tk σ) hdb) fun σ H Q q0 => ?_
  obtain ⟨Z, ρ, Fs, ok, q0⟩ := q0
  exact fun x dx hx hdx ne => make_fin (ds := []) hdd rfl (by simpa using hn) ok.dom (.nil ok.dom) q0 hx hdx ne
end

/-! ### o.f -/
def pFld (cs : List Str) (n : Str) : List D → Option D
  | [.nd (.obj _ c fs) es] => if c ∈ cs then (fs.findIdx? (fun q => decide (q = n))).bind fun j => es[j]? else none
  | _ => none
def rFld (K : PySem.W.Frag) (n : Str) : V → Hp → VK → Prop := fun x H1 Q => ∃ a C dx fs v, x = .ref a ∧ H1 a = some (.ins C dx fs) ∧ Cls K C ∧ NoAttr K C n ∧ fs.lookup n = some v ∧ Q v H1
theorem ok_fld {K : PySem.W.Frag} {cm : Cm} {cs : List Str} {n : Str} (hc : ∀ c ∈ cs, Cls K (cm c) ∧ NoAttr K (cm c) n) : OkPr K cm (r1L (rFld K n)) (pFld cs n) := fun H Z ds vs Fs d dm rl nd nf h Q q => by
  unfold pFld at h
  split at h
  · split at h
    rotate_left
    · cases h
    rename_i fl c fs es hcs
    obtain ⟨v, F, rfl, rfl, a, us, Es, rfl, ⟨⟨dx, hi⟩, hl, hz⟩, l, rfl⟩ := repL1 rl
    cases e : fs.findIdx? (fun q => decide (q = n)) with
    | none => rw [e] at h; cases h
    | some j =>
      rw [e] at h
      have h : es[j]? = some d := h
      obtain ⟨w, w1, w2⟩ := lookup_idx e hl
      obtain ⟨v1, F1, b1, b2, b3⟩ := l.get h
      rw [w1] at b1
      cases b1
      have hs : F1.Sublist Es.flatten := flatten_get b2
      have nd : (ownA (.obj fl c fs) a ++ Es.flatten).Nodup := by simpa using nd
      refine ⟨_, rfl, a, _, dx, _, w, rfl, hi, (hc c hcs).1, (hc c hcs).2, w2, q w H Z F1 (.same dm b3 ((List.nodup_append.mp nd).2.1.sublist hs) (fun x hx => ?_) fun x hx => nf x ?_)⟩
      · have := hs.subset hx
        simp only [List.flatten_cons, List.flatten_nil, List.append_nil]
        exact List.mem_append_right _ this
      · have := hs.subset hx
        simp only [List.flatten_cons, List.flatten_nil, List.append_nil]
        exact List.mem_append_right _ this
  · cases h
theorem s_fld {X : Cx} {cm : Cm} {W : WX} {o : Expr} {f : En → Ot D} {n : Str} {pos : Pos} {cs : List Str} (hc : ∀ c ∈ cs, Cls X.K (cm c) ∧ NoAttr X.K (cm c) n) (ho : SE X cm W o f) (hb : attributeBase o n X.env (eval o X.env) = eval o X.env := by rfl) :
    SE X cm W (.Attribute o n pos) (ePr (pFld cs n) [f]) := PE.imp (pe_fld ho hb) fun σ H Q h => one_of (pr_end (ok_fld hc) h)

/-! ### a place is written -/
theorem Ok.putF {K : PySem.W.Frag} {cm : Cm} {H H1 : Hp} {σ : L2.St} {ρ : En} {Fs : List (List Addr)} {Z Z1 : Zn} {i : Nat} {d : D} {js : List Nat} {k : Kd} {es : List D} {v : V} {F : List Addr} {a : Addr} {F0 A B : List Addr} {ds : List D} {vs : List V} {Gs : List (List Addr)}
    (ok : Ok K cm H σ ρ Fs Z) (hi : ρ[i]? = some (some d)) (hs : σ[i]? = some (some v)) (hF : Fs[i]? = some F) (fo : Foc K cm H1 ⟨Z1.f, Z.b, fun _ => False⟩ v F d js (.nd k es) (.ref a) F0 A B) (hk : k.isOwn = true) (ex : Ext H (lendZ Z Fs) H1 Z1)
    (o : OkT K cm H1 σ ρ Fs ⟨Z1.f, Z.b, fun _ => False⟩ ds vs Gs) :
    ∃ us Es, Cell K cm H1 ⟨Z1.f, Z.b, fun _ => False⟩ a k us ∧ RepL K cm H1 ⟨Z1.f, Z.b, fun _ => False⟩ es us Es ∧ a ∈ Fs.flatten ∧ a ∉ Gs.flatten ∧ a ∉ Es.flatten ∧ (Es.flatten ++ Gs.flatten).Nodup ∧
      ∀ k' es' us' Es' o' Fv, k'.isOwn = true → Cell K cm (L2.upd H1 a o') ⟨Z1.f, Z.b, fun _ => False⟩ a k' us' → Mut (some o') → RepL K cm H1 ⟨Z1.f, Z.b, fun _ => False⟩ es' us' Es' → (∀ x ∈ Es'.flatten ++ Fv, x ∈ Es.flatten ∨ x ∈ Gs.flatten) → (Es'.flatten ++ Fv).Nodup →
        ∃ Fs', Ok K cm (L2.upd H1 a o') σ (ρ.set i (some (putP d js (.nd k' es')))) Fs' ⟨Z1.f, Z.b, fun _ => False⟩ ∧ (∀ x ∈ Fs'.flatten, x ∈ Fs.flatten ∨ x ∈ Gs.flatten) ∧ (Fs'.flatten ++ Fv).Nodup ∧ (∀ x ∈ Fv, ¬ Z1.f x ∧ ¬ Z.b x ∧ (x ∈ Fs.flatten ∨ x ∈ Gs.flatten)) := by
  obtain ⟨a', us, Es, ea, c, l, eF0⟩ := fo.rep
  cases ea
  have hO : ownA k a = [a] := by unfold ownA; rw [if_pos hk]
  rw [hO] at eF0
  have eF := fo.eF
  rw [eF0] at eF
  have sub : ∀ x ∈ F, x ∈ Fs.flatten := fun x hx => flat_mem hF hx
  have ndF : F.Nodup := ok.nd.sublist (flatten_get hF)
  have ha : a ∈ Fs.flatten := sub a (by rw [eF]; simp)
  have hEs : ∀ x ∈ Es.flatten, x ∈ Fs.flatten := fun x hx => sub x (by rw [eF]; exact List.mem_append_left _ (List.mem_append_right _ (List.mem_append_right _ hx)))
  have ndF2 := ndF
  rw [eF] at ndF2
  have n1 := List.nodup_append.mp ndF2
  have n2 := List.nodup_append.mp n1.1
  have n3 := List.nodup_append.mp n2.2.1
  have aE : a ∉ Es.flatten := fun q => n3.2.2 a (List.mem_singleton.mpr rfl) a q rfl
  have ndG := List.nodup_append.mp o.nd
  have mu := o.ok.mu a ha
  have nz := o.ok.nz a ha
  have nt := o.ok.t a
  have aG : a ∉ Gs.flatten := fun q => ndG.2.2 a ha a q rfl
  refine ⟨us, Es, c, l, ha, aG, aE, List.nodup_append.mpr ⟨n3.2.1, ndG.2.1, fun x hx y hy e => ndG.2.2 x (hEs x hx) y hy e⟩, fun k' es' us' Es' o' Fv hk' c' mu' l' sub' nd' => ?_⟩
  have l2 := l'.upd (p := a) (o := o') mu (fun q => (sub' a (List.mem_append_left _ q)).elim aE aG) nz.1 nz.2 nt
  have mv : CellMove K cm H1 (L2.upd H1 a o') ⟨Z1.f, Z.b, fun _ => False⟩ ⟨Z1.f, Z.b, fun _ => False⟩ id (fun x => x ≠ a) := cell_upd mu nz.1 nz.2 nt
  have aA : ∀ x ∈ A, ¬ x = a := fun x hx e => n2.2.2 x hx a (by simp) e
  have aB : ∀ x ∈ B, ¬ x = a := fun x hx e => n1.2.2 a (by simp) x hx e.symm
  have rr := fo.put (fun x => x = a) (L2.upd H1 a o') ⟨Z1.f, Z.b, fun _ => False⟩ (.nd k' es') ([a] ++ Es'.flatten) aA aB mv ⟨a, us', Es', rfl, c', l2, by unfold ownA; rw [if_pos hk']⟩
  have gF : ∀ x ∈ Gs.flatten, x ∉ Fs.flatten := fun x hx q => ndG.2.2 x q x hx rfl
  obtain ⟨nd2, sub2⟩ := setsF_ok2 (cs := [⟨i, A, [a] ++ Es.flatten, B, [a] ++ Es'.flatten, .non⟩]) (F := Fv) (X := [a] ++ Es'.flatten) ok.nd (by simp) (fun c hc => by
    have : c = ⟨i, A, [a] ++ Es.flatten, B, [a] ++ Es'.flatten, .non⟩ := by simpa using hc
    subst this
    exact hF.trans (by rw [eF])) (by simp) (by
      rw [List.append_assoc]
      exact List.nodup_cons.mpr ⟨fun q => (sub' a q).elim aE aG, nd'⟩) (fun x hx => by
      rw [List.append_assoc] at hx
      rcases List.mem_append.mp hx with hx | hx
      · exact .inl (by simp at hx; simp [hx])
      · rcases sub' x hx with q | q
        · exact .inl (by simp only [List.map_cons, List.map_nil, List.flatten_cons, List.flatten_nil, List.append_nil]; exact List.mem_append_right _ q)
        · exact .inr (gF x q))
  have gm : ∀ x ∈ Gs.flatten, Mut (H1 x) := RepL.mut ds o.rep
  have smem : ∀ x ∈ (Fs.set i (A ++ ([a] ++ Es'.flatten) ++ B)).flatten, x ∈ Fs.flatten ∨ x ∈ Gs.flatten := fun x hx => by
    rcases sub2 x hx with q | q
    · exact .inl q
    · rcases List.mem_append.mp q with q | q
      · exact .inl (by have : x = a := by simpa using q
                       rw [this]; exact ha)
      · exact (sub' x (List.mem_append_left _ q)).imp (hEs x) id
  refine ⟨Fs.set i (A ++ ([a] ++ Es'.flatten) ++ B), ⟨o.ok.rep.upd1 ok.nd hs hF (by rw [eF]; simp) mv rr, ⟨fun x hx => ?_, fun x hx => ?_, fun x hx => hx.elim⟩, fun x hx => ?_, (List.nodup_append.mp nd2).1, fun x hx => (smem x hx).elim (o.ok.nz x) (o.nz x), o.ok.t⟩, smem, nd2, fun x hx => ?_⟩
  · by_cases e : x = a
    · rw [e, upd_same]; simp
    · rw [upd_ne e]; exact o.ok.dom.f x hx
  · by_cases e : x = a
    · rw [e, upd_same]; simp
    · rw [upd_ne e]; exact o.ok.dom.b x hx
  · by_cases e : x = a
    · rw [e, upd_same]; exact mu'
    · rw [upd_ne e]
      exact (smem x hx).elim (o.ok.mu x) (gm x)
  · have s := sub' x (List.mem_append_right _ hx)
    have z : ¬ Z1.f x ∧ ¬ Z.b x := s.elim (fun q => o.ok.nz x (hEs x q)) (o.nz x)
    exact ⟨z.1, z.2, s.imp (hEs x) id⟩
end OB

namespace OB
open PySem PySem.Spec PyProof.Rows L2
section
variable {K : PySem.W.Frag} {cm : Cm} {W : WX} {P : List Nat} {D0 : Ends} {H H1 : Hp} {Z Z1 : Zn} {σ : L2.St} {ρ ρ1 : En} {Fs Fs1 : List (List Addr)}
theorem SStep.back (s : SStep [] σ H Z Fs σ H1 Z1 Fs1) {a : Addr} (h : a ∈ Fs1.flatten ∨ H1 a = none) : a ∈ Fs.flatten ∨ H a = none := h.elim (s.own a) fun q => (s.keep.back q).elim .inr .inl
theorem FinX.step {Q : VK} {r : Option (Ot D × En)} (h : FinX K cm W σ H Z Fs Q r) (s : SStep [] σ H Z Fs σ H1 Z1 Fs1) : FinX K cm W σ H1 Z1 Fs1 Q r := by
  match r, h with
  | none, h => exact h
  | some (.no, _), h => exact h
  | some (.ok d, ρ'), h => exact fun v H' Z' Fs' F s2 o og => h v H' Z' Fs' F (s.trans s2) o fun a ha => s.back (og a ha)
  | some (.ex x, ρ'), h => exact fun cls dd H' Z' Fs' s2 o xr => h cls dd H' Z' Fs' (s.trans s2) o xr
/-! ### bind -/
def xBind {α β : Type} (r : Option (Ot α × En)) (k : α → En → Option (Ot β × En)) : Option (Ot β × En) := match r with
  | none => none
  | some (.no, _) => none
  | some (.ok d, ρ1) => k d ρ1
  | some (.ex x, ρ1) => some (.ex x, ρ1)
@[simp] theorem xBind_ok {α β : Type} (d : α) (ρ : En) (k : α → En → Option (Ot β × En)) : xBind (some (.ok d, ρ)) k = k d ρ := rfl
@[simp] theorem xBind_ex {α β : Type} (x : XD) (ρ : En) (k : α → En → Option (Ot β × En)) : xBind (some ((.ex x : Ot α), ρ)) k = some (.ex x, ρ) := rfl
@[simp] theorem xBind_none {α β : Type} (k : α → En → Option (Ot β × En)) : xBind none k = none := rfl
theorem tX_bind {f : Xf} {k : D → En → Option (Ot D × En)} {Q R : VK} (ok : Ok K cm H σ ρ Fs Z) (q : FinX K cm W σ H Z Fs Q (xBind (f ρ) k))
    (hk : ∀ d ρ1 v H1 Z1 Fs1 F, f ρ = some (.ok d, ρ1) → SStep [] σ H Z Fs σ H1 Z1 Fs1 → OkT K cm H1 σ ρ1 Fs1 Z1 [d] [v] [F] → (∀ a ∈ F, a ∈ Fs.flatten ∨ H a = none) → FinX K cm W σ H Z Fs Q (k d ρ1) → R v H1) : tX K cm W f σ H R := by
  refine ⟨Z, ρ, Fs, ok, ?_⟩
  match e : f ρ, q with
  | none, q => exact q.elim
  | some (.no, _), q => exact q.elim
  | some (.ok d, ρ'), q =>
    exact fun v H' Z' Fs' F s o og => hk d ρ' v H' Z' Fs' F e s o og q
  | some (.ex x, ρ'), q => exact q
/-- from a statement -/
def xOn (f : Xf) (k : D → Mst) : Mst := fun ρ => match f ρ with
  | none => none
  | some (.no, _) => none
  | some (.ok d, ρ1) => k d ρ1
  | some (.ex x, ρ1) => some (.ex x, ρ1)
theorem x_go {f : Xf} {k : D → Mst} {Q : VK} (ok : Ok K cm H σ ρ Fs Z) (q : FinS K cm W P D0 σ H Z Fs (xOn f k ρ))
    (hk : ∀ d ρ1 v H1 Z1 Fs1 F, SStep [] σ H Z Fs σ H1 Z1 Fs1 → OkT K cm H1 σ ρ1 Fs1 Z1 [d] [v] [F] → (∀ a ∈ F, a ∈ Fs.flatten ∨ H a = none) → FinS K cm W P D0 σ H Z Fs (k d ρ1) → Q v H1) : tX K cm W f σ H Q := by
  refine ⟨Z, ρ, Fs, ok, ?_⟩
  unfold xOn at q
  match e : f ρ, q with
  | none, q => exact q.elim
  | some (.no, _), q => exact q.elim
  | some (.ok d, ρ'), q =>
    exact fun v H' Z' Fs' F s o og => hk d ρ' v H' Z' Fs' F s o og q
  | some (.ex x, ρ'), q =>
    exact fun cls dd H' Z' Fs' s o xr => q σ H' Z' Fs' s.anyP o cls dd xr
/-! ### tests -/
abbrev Xt := En → Option (Ot Bool × En)
def FinXT (K : PySem.W.Frag) (cm : Cm) (W : WX) (σ : L2.St) (H : Hp) (Z : Zn) (Fs : List (List Addr)) (Q : Bool → Hp → Prop) : Option (Ot Bool × En) → Prop
  | none => False
  | some (.no, _) => False
  | some (.ok b, ρ') => ∀ H' Z' Fs', SStep [] σ H Z Fs σ H' Z' Fs' → Ok K cm H' σ ρ' Fs' Z' → Q b H'
  | some (.ex x, ρ') => ∀ cls dd H' Z' Fs', SStep [] σ H Z Fs σ H' Z' Fs' → Ok K cm H' σ ρ' Fs' Z' → XRep K cm H' Z' x cls dd → W cls dd σ H'
def tXT (K : PySem.W.Frag) (cm : Cm) (W : WX) (f : Xt) : TT := fun σ H Q => ∃ Z ρ Fs, Ok K cm H σ ρ Fs Z ∧ FinXT K cm W σ H Z Fs Q (f ρ)
theorem FinXT.step {Q : Bool → Hp → Prop} {r : Option (Ot Bool × En)} (h : FinXT K cm W σ H Z Fs Q r) (s : SStep [] σ H Z Fs σ H1 Z1 Fs1) : FinXT K cm W σ H1 Z1 Fs1 Q r := by
  match r, h with
  | none, h => exact h
  | some (.no, _), h => exact h
  | some (.ok d, ρ'), h => exact fun H' Z' Fs' s2 o => h H' Z' Fs' (s.trans s2) o
  | some (.ex x, ρ'), h => exact fun cls dd H' Z' Fs' s2 o xr => h cls dd H' Z' Fs' (s.trans s2) o xr
theorem tXT_bind {t : Xt} {k : Bool → Xt} {Q R : Bool → Hp → Prop} (ok : Ok K cm H σ ρ Fs Z) (q : FinXT K cm W σ H Z Fs Q (xBind (t ρ) k))
    (hk : ∀ b ρ1 H1 Z1 Fs1, SStep [] σ H Z Fs σ H1 Z1 Fs1 → Ok K cm H1 σ ρ1 Fs1 Z1 → FinXT K cm W σ H Z Fs Q (k b ρ1) → R b H1) : tXT K cm W t σ H R := by
  refine ⟨Z, ρ, Fs, ok, ?_⟩
  match e : t ρ, q with
  | none, q => exact q.elim
  | some (.no, _), q => exact q.elim
  | some (.ok d, ρ'), q =>
    exact fun H' Z' Fs' s o => hk d ρ' H' Z' Fs' s o q
  | some (.ex x, ρ'), q => exact q
end
abbrev STX (X : Cx) (cm : Cm) (W : WX) (e : Expr) (f : Xt) : Prop := PT X e (tXT X.K cm W f)
abbrev SWX (X : Cx) (cm : Cm) (W : WX) (e : Expr) (f : Xt) : Prop := PW X e (tXT X.K cm W f)
/-! ### what changes nothing -/
def xP (f : En → Ot D) : Xf := fun ρ => match f ρ with
  | .no => none
  | .ok d => if noT d then some (.ok d, ρ) else none
  | .ex x => some (.ex x, ρ)
def xPT (t : En → Ot Bool) : Xt := fun ρ => match t ρ with
  | .no => none
  | .ok b => some (.ok b, ρ)
  | .ex x => some (.ex x, ρ)
def xTr (f : Xf) : Xt := fun ρ => xBind (f ρ) fun d ρ1 => match d with
  | .bl b => some (.ok b, ρ1)
  | _ => none
def xNotT (t : Xt) : Xt := fun ρ => xBind (t ρ) fun b ρ1 => some (.ok (!b), ρ1)
def xAndT (t u : Xt) : Xt := fun ρ => xBind (t ρ) fun b ρ1 => if b then u ρ1 else some (.ok false, ρ1)
def xOrT (t u : Xt) : Xt := fun ρ => xBind (t ρ) fun b ρ1 => if b then some (.ok true, ρ1) else u ρ1
def xAnd (f g : Xf) : Xf := fun ρ => xBind (f ρ) fun d ρ1 => match d with
  | .bl b => if b then g ρ1 else some (.ok (.bl false), ρ1)
  | _ => none
def xOr (f g : Xf) : Xf := fun ρ => xBind (f ρ) fun d ρ1 => match d with
  | .bl b => if b then some (.ok (.bl true), ρ1) else g ρ1
  | _ => none
def xNot (f : Xf) : Xf := fun ρ => xBind (f ρ) fun d ρ1 => match d with
  | .bl b => some (.ok (.bl (!b)), ρ1)
  | _ => none
/-- an operation, its left side changes slots -/
def xL (p : List D → Option D) (f : Xf) (g : En → Ot D) : Xf := fun ρ => xBind (f ρ) fun d ρ1 => match g ρ1 with
  | .no => none
  | .ex x => some (.ex x, ρ1)
  | .ok e => match p [d, e] with
    | some z => if isAt z then some (.ok z, ρ1) else none
    | none => none
section
variable {K : PySem.W.Frag} {cm : Cm} {W : WX} {P : List Nat} {D0 : Ends} {H H1 : Hp} {Z Z1 : Zn} {σ : L2.St} {ρ ρ1 : En} {Fs Fs1 : List (List Addr)}
theorem okT_at {d : D} (ok : Ok K cm H σ ρ Fs Z) (h : isAt d = true) : OkT K cm H σ ρ Fs Z [d] [toV d] [[]] := by
  refine ⟨ok, repL_cons ?_ repL_nil, by simpa using ok.nd, fun a h => by simp at h⟩
  have := rdd_at (K := K) (cm := cm) (H1 := H) [d] (by simpa using h) Z
  obtain ⟨v, F, e1, e2, r⟩ := repL1 this
  simp only [List.map_cons, List.map_nil, List.cons.injEq, and_true] at e1 e2
  rw [e1, e2]
  exact r
theorem FinX.at_ {d : D} {Q : VK} (h : FinX K cm W σ H Z Fs Q (some (.ok d, ρ1))) (s : SStep [] σ H Z Fs σ H1 Z1 Fs1) (ok : Ok K cm H1 σ ρ1 Fs1 Z1) (a : isAt d = true) : Q (toV d) H1 :=
  h _ H1 Z1 Fs1 [] s (okT_at ok a) (fun _ h => nomatch h)
theorem FinXT.at_ {b : Bool} {Q : Bool → Hp → Prop} (h : FinXT K cm W σ H Z Fs Q (some (.ok b, ρ1))) (s : SStep [] σ H Z Fs σ H1 Z1 Fs1) (ok : Ok K cm H1 σ ρ1 Fs1 Z1) : Q b H1 := h H1 Z1 Fs1 s ok
theorem ext_step (ok : Ok K cm H σ ρ Fs Z) (e : Ext H (lendZ Z Fs) H1 Z1) : SStep [] σ H Z Fs σ H1 ⟨Z1.f, Z.b, fun _ => False⟩ Fs := SStep.ext ok e
theorem bl_of {d : D} {v : V} {F : List Addr} (r : RepL K cm H Z [d] [v] [F]) {b : Bool} (e : d = .bl b) : v = .bl b := by
  subst e
  obtain ⟨v', F', e1, _, r⟩ := repL1 r
  cases e1
  exact r.1
end
section
variable {X : Cx} {cm : Cm} {W : WX} {P : List Nat} {a b e : Expr} {f g : Xf} {t u : Xt} {pos : Pos} {rest : List Expr}
theorem x_se {f : En → Ot D} (h : SE X cm W e f) : SX X cm W e (xP f) := PE.imp h fun σ H Q q => by
  obtain ⟨Z, ρ, Fs, ok, q⟩ := q
  unfold xP at q
  refine tP_bind ok.pure (fun e => by rw [e] at q; exact q) (fun d e v H1 Z1 F r => ?_) (fun x e => ?_)
  · rw [e] at q
    dsimp only at q
    split at q
    · rename_i nt
      exact q v H1 _ Fs F (ext_step ok r.ext) (ok.one r nt) fun a h => .inr (r.new a h)
    · exact q.elim
  · rw [e] at q
    exact fun cls dd H1 Z1 ex xr => q cls dd H1 _ Fs (ext_step ok ex) (ok.ext ex) (xr.back fun _ h => h)
theorem xt_st {t : En → Ot Bool} (h : ST X cm W e t) : STX X cm W e (xPT t) := PT.imp h fun σ H Q q => by
  obtain ⟨Z, ρ, Fs, ok, q⟩ := q
  unfold xPT at q
  refine ⟨lendZ Z Fs, ρ, Fs, ok.pure, ?_⟩
  match e : t ρ, q with
  | .no, q => exact q.elim
  | .ok b, q =>
    exact fun H1 Z1 ex => q H1 _ Fs (ext_step ok ex) (ok.ext ex)
  | .ex x, q =>
    exact fun cls dd H1 Z1 ex xr => q cls dd H1 _ Fs (ext_step ok ex) (ok.ext ex) (xr.back fun _ h => h)
theorem tX_T {K : PySem.W.Frag} {f : Xf} {σ : L2.St} {H : Hp} {Q : Bool → Hp → Prop} (h : tXT K cm W (xTr f) σ H Q) : tX K cm W f σ H (fun x H1 => ∃ k, x = .bl k ∧ Q k H1) := by
  obtain ⟨Z, ρ, Fs, ok, q⟩ := h
  refine ⟨Z, ρ, Fs, ok, ?_⟩
  unfold xTr at q
  match e : f ρ, q with
  | none, q => exact q.elim
  | some (.no, _), q => exact q.elim
  | some (.ex x, ρ'), q => exact q
  | some (.ok d, ρ'), q =>
    rw [xBind_ok] at q
    cases d with
    | bl b =>
      intro v H' Z' Fs' F s o og
      exact ⟨b, bl_of o.rep rfl, q H' Z' Fs' s o.ok⟩
    | non => exact q.elim
    | int b => exact q.elim
    | str b => exact q.elim
    | nd k b => exact q.elim
theorem xt_val (ha : SX X cm W e f) (he : ∀ whole, isTrue e X.env whole = (do let v ← whole; standAt e.pos; holding [v] (truthy v)) := by intro _; rfl) : STX X cm W e (xTr f) := PT.imp (pt_val ha he) fun σ H Q h => tX_T h
theorem xt_not (ha : STX X cm W a t) : STX X cm W (.UnaryOp .Not a pos) (xNotT t) := PT.imp (pt_not ha) fun σ H Q h => by
  obtain ⟨Z, ρ, Fs, ok, q⟩ := h
  exact tXT_bind (k := fun b ρ1 => some (.ok (!b), ρ1)) ok q fun b ρ1 H1 Z1 Fs1 s o q1 => q1.at_ s o
theorem xw_and1 (ha : STX X cm W a t) : SWX X cm W (.BoolOp .And [a] pos) t := pw_and1 ha
theorem xw_or1 (ha : STX X cm W a t) : SWX X cm W (.BoolOp .Or [a] pos) t := pw_or1 ha
theorem xw_and (ha : STX X cm W a t) (hb : SWX X cm W (.BoolOp .And (b :: rest) pos) u) : SWX X cm W (.BoolOp .And (a :: b :: rest) pos) (xAndT t u) := PW.imp (pw_and ha hb) fun σ H Q h => by
  obtain ⟨Z, ρ, Fs, ok, q⟩ := h
  refine tXT_bind (k := fun b ρ1 => if b then u ρ1 else some (.ok false, ρ1)) ok q fun b ρ1 H1 Z1 Fs1 s o q1 => ?_
  cases b with
  | true => exact ⟨Z1, ρ1, Fs1, o, q1.step s⟩
  | false => exact q1.at_ s o
theorem xw_or (ha : STX X cm W a t) (hb : SWX X cm W (.BoolOp .Or (b :: rest) pos) u) : SWX X cm W (.BoolOp .Or (a :: b :: rest) pos) (xOrT t u) := PW.imp (pw_or ha hb) fun σ H Q h => by
  obtain ⟨Z, ρ, Fs, ok, q⟩ := h
  refine tXT_bind (k := fun b ρ1 => if b then some (.ok true, ρ1) else u ρ1) ok q fun b ρ1 H1 Z1 Fs1 s o q1 => ?_
  cases b with
  | false => exact ⟨Z1, ρ1, Fs1, o, q1.step s⟩
  | true => exact q1.at_ s o
theorem xt_w (h : SWX X cm W e t) : STX X cm W e t := h.pt
theorem x_one {op : BoolOp} (ha : SX X cm W a f) : SX X cm W (.BoolOp op [a] pos) f := pe_one ha
theorem x_and (ha : SX X cm W a f) (hb : SX X cm W (.BoolOp .And (b :: rest) pos) g) : SX X cm W (.BoolOp .And (a :: b :: rest) pos) (xAnd f g) := PE.imp (pe_and ha hb) fun σ H Q h => by
  obtain ⟨Z, ρ, Fs, ok, q⟩ := h
  refine tX_bind ok q fun d ρ1 v H1 Z1 Fs1 F _ s o og q1 => ?_
  cases d with
  | bl c =>
    refine ⟨c, bl_of o.rep rfl, ?_⟩
    cases c with
    | true => exact ⟨Z1, ρ1, Fs1, o.ok, FinX.step q1 s⟩
    | false => exact FinX.at_ q1 s o.ok rfl
  | non => exact q1.elim
  | int b => exact q1.elim
  | str b => exact q1.elim
  | nd k b => exact q1.elim
theorem x_or (ha : SX X cm W a f) (hb : SX X cm W (.BoolOp .Or (b :: rest) pos) g) : SX X cm W (.BoolOp .Or (a :: b :: rest) pos) (xOr f g) := PE.imp (pe_or ha hb) fun σ H Q h => by
  obtain ⟨Z, ρ, Fs, ok, q⟩ := h
  refine tX_bind ok q fun d ρ1 v H1 Z1 Fs1 F _ s o og q1 => ?_
  cases d with
  | bl c =>
    refine ⟨c, bl_of o.rep rfl, ?_⟩
    cases c with
    | false => exact ⟨Z1, ρ1, Fs1, o.ok, FinX.step q1 s⟩
    | true => exact FinX.at_ q1 s o.ok rfl
  | non => exact q1.elim
  | int b => exact q1.elim
  | str b => exact q1.elim
  | nd k b => exact q1.elim
theorem x_not (ha : SX X cm W a f) : SX X cm W (.UnaryOp .Not a pos) (xNot f) := PE.imp (pe_not ha) fun σ H Q h => by
  obtain ⟨Z, ρ, Fs, ok, q⟩ := h
  refine tX_bind ok q fun d ρ1 v H1 Z1 Fs1 F _ s o og q1 => ?_
  cases d with
  | bl c => exact ⟨c, bl_of o.rep rfl, FinX.at_ q1 s o.ok rfl⟩
  | non => exact q1.elim
  | int b => exact q1.elim
  | str b => exact q1.elim
  | nd k b => exact q1.elim
theorem xL_end {r : R2} {p : List D → Option D} {g : En → Ot D} (hp : OkPr X.K cm (r2L r) p) {σ : L2.St} {H : Hp} {Q : VK} (h : tX X.K cm W (xL p f g) σ H Q) : tX X.K cm W f σ H fun x H1 => tP X.K cm W g σ H1 fun y H2 => r x y H2 Q := by
  obtain ⟨Z, ρ, Fs, ok, q⟩ := h
  refine tX_bind ok q fun d ρ1 v H1 Z1 Fs1 F _ s o og q1 => ?_
  refine tP_bind o.ok.pure (fun e => by rw [e] at q1; exact q1) (fun y e u H2 Z2 G r2 => ?_) (fun x e => ?_)
  · rw [e] at q1
    dsimp only at q1
    split at q1
    rotate_left
    · exact q1.elim
    rename_i z hz
    split at q1
    rotate_left
    · exact q1.elim
    rename_i ha
    obtain ⟨v', F', ev, eF, rd⟩ := repL1 o.rep
    cases ev; cases eF
    have mF : ∀ a ∈ F, Mut (H1 a) := Rep.mut d rd
    have rd2 : Rep X.K cm H2 Z2 d v F := (rd.grow (.refl H1) (fun _ h => h) (fun _ h => h) (Z' := lendZ Z1 Fs1) (fun a h => (o.ok.t a h).elim)).ext r2.ext
    have ndF : F.Nodup := by
      have := (List.nodup_append.mp o.nd).2.1
      simpa using this
    have nzF : ∀ a ∈ F, ¬ Z1.f a := fun a ha => (o.nz a (by simpa using ha)).1
    obtain ⟨x0, y0, exy, k⟩ := hp H2 Z2 [d, y] [v, u] [F, G] z (o.ok.pure.dom.ext r2.ext) (repL_cons rd2 (repL_cons r2.rep repL_nil)) (by
      simp only [List.flatten_cons, List.flatten_nil, List.append_nil]
      exact List.nodup_append.mpr ⟨ndF, r2.nd, fun a ha b hb e => by subst e; exact mut_ne (mF a ha) (r2.new a hb)⟩) (fun a ha => by
      simp only [List.flatten_cons, List.flatten_nil, List.append_nil] at ha
      rcases List.mem_append.mp ha with ha | ha
      · exact keep_nf (Z1 := lendZ Z1 Fs1) r2.ext (mF a ha) (nzF a ha)
      · exact r2.nf a ha) hz Q (fun w H3 Z3 M r3 => by
      have ex3 := r2.ext.trans r3.ext
      obtain ⟨e1, _, _⟩ := rep_at r3.rep ha
      rw [e1]
      exact FinX.at_ q1 (s.trans (ext_step o.ok ex3)) (o.ok.ext ex3) ha)
    cases exy
    exact k
  · rw [e] at q1
    exact fun cls dd H2 Z2 ex xr => q1 cls dd H2 _ Fs1 (s.trans (ext_step o.ok ex)) (o.ok.ext ex) (xr.back fun _ h => h)
theorem x_cmp {op : CmpOp} {r : R2} {p : List D → Option D} {g : En → Ot D} (ho : OpR X (compareOp op) r) (hp : OkPr X.K cm (r2L r) p) (ha : SX X cm W a f) (hb : SE X cm W b g) (hm : behindInMarks op b = false) : SX X cm W (.Compare a [op] [b] pos) (xL p f g) :=
  PE.imp (pe_cmpR ho ha hb hm) fun σ H Q h => xL_end hp h
theorem x_op {op : Operator} {r : R2} {p : List D → Option D} {g : En → Ot D} (ho : OpR X (binaryOp op) r) (hp : OkPr X.K cm (r2L r) p) (ha : SX X cm W a f) (hb : SE X cm W b g) : SX X cm W (.BinOp a op b pos) (xL p f g) :=
  PE.imp (pe_op ho ha hb) fun σ H Q h => xL_end hp h
theorem xt_cmp {op : CmpOp} {r : R2} {p : List D → Option D} {g : En → Ot D} (ho : OpR X (compareOp op) r) (hp : OkPr X.K cm (r2L r) p) (ha : SX X cm W a f) (hb : SE X cm W b g) (hm : behindInMarks op b = false) : STX X cm W (.Compare a [op] [b] pos) (xTr (xL p f g)) :=
  PT.imp (pt_cmpR ho ha hb hm) fun σ H Q h => xL_end (Q := fun z H2 => ∃ k, z = .bl k ∧ Q k H2) hp (tX_T h)
/-! ### statements -/
theorem ss_exprX (he : SX X cm W e f) (hs : swapsWith e none pos.line X.env = pure false := by rfl) : SS X cm W P (.Expr e pos) (xOn f fun _ ρ => some (.nx, ρ)) := PS.imp (ps_expr he hs) fun D0 σ H q => by
  obtain ⟨Z, ρ, Fs, ok, q⟩ := q
  exact x_go ok q fun d ρ1 v H1 Z1 Fs1 F s o og q1 => q1 σ H1 Z1 Fs1 s.anyP o.ok
theorem ss_retX (he : SX X cm W e f) : SS X cm W P (.Return (some e) pos) (xOn f fun d ρ => some (.ret d, ρ)) := PS.imp (ps_ret he) fun D0 σ H q => by
  obtain ⟨Z, ρ, Fs, ok, q⟩ := q
  refine x_go ok q fun d ρ1 v H1 Z1 Fs1 F s o og q1 => ?_
  obtain ⟨v', F', ev, eF, rd⟩ := repL1 o.rep
  cases ev; cases eF
  exact q1 σ H1 Z1 Fs1 s.anyP o.ok v F rd (by simpa using o.nd) (fun a ha => o.nz a (by simpa using ha)) og
theorem ss_setX {st : Stmt} {i : Nat} (hi : (!P.contains i) = true) (hs : PS X st (tAsg (tX X.K cm W f) (gName i))) : SS X cm W P st (xOn f fun d ρ => some (.nx, ρ.set i (some d))) := PS.imp hs fun D0 σ H q => by
  obtain ⟨Z, ρ, Fs, ok, q⟩ := q
  refine x_go ok q fun d ρ1 v H1 Z1 Fs1 F s o og q1 => ?_
  have o2 := o.set i
  exact q1 (σ.set i (some v)) H1 Z1 (Fs1.set i F) ⟨s.keep, fun a h => (set_mem h).elim (s.own a) (og a), s.f, s.fn, s.b, prot_set hi⟩ o2.ok
def sIfX (t : Xt) (g h : Mst) : Mst := fun ρ => match t ρ with
  | none => none
  | some (.no, _) => none
  | some (.ok b, ρ1) => if b then g ρ1 else h ρ1
  | some (.ex x, ρ1) => some (.ex x, ρ1)
theorem ss_ifX {c : Expr} {a b : List Stmt} {g h : Mst} (hc : STX X cm W c t) (ha : SB X cm W P a g) (hb : SB X cm W P b h) : SS X cm W P (.If c a b pos) (sIfX t g h) := PS.imp (ps_if hc ha hb) fun D0 σ H q => by
  obtain ⟨Z, ρ, Fs, ok, q⟩ := q
  refine ⟨Z, ρ, Fs, ok, ?_⟩
  unfold sIfX at q
  match e : t ρ, q with
  | none, q => exact q.elim
  | some (.no, _), q => exact q.elim
  | some (.ex x, ρ'), q =>
    exact fun cls dd H' Z' Fs' s o xr => q σ H' Z' Fs' s.anyP o cls dd xr
  | some (.ok k, ρ'), q =>
    intro H' Z' Fs' s o
    cases k with
    | true => exact ⟨Z', ρ', Fs', o, FinS.step q s.anyP⟩
    | false => exact ⟨Z', ρ', Fs', o, FinS.step q s.anyP⟩
end
end OB

namespace OB
open PySem PySem.Spec PyProof.Rows L2
/-! ### o.m(..) of a list at a place -/
def MutX (K : PySem.W.Frag) (cm : Cm) (r : V → List V → Hp → VK → Prop) (op : List D → List D → Option (D × List D)) : Prop := ∀ (H : Hp) (Z : Zn) (l : Addr) (us : List V) (es : List D) (Es : List (List Addr)) (ds : List D) (vs : List V) (Gs : List (List Addr)) (dv : D) (es' : List D),
  H l = some (.lst us) → RepL K cm H Z es us Es → RepL K cm H Z ds vs Gs → l ∉ Gs.flatten → (Es.flatten ++ Gs.flatten).Nodup → op es ds = some (dv, es') →
    ∃ v us' Es' Fv, RepL K cm H Z es' us' Es' ∧ Rep K cm H Z dv v Fv ∧ (∀ x ∈ Es'.flatten ++ Fv, x ∈ Es.flatten ∨ x ∈ Gs.flatten) ∧ (Es'.flatten ++ Fv).Nodup ∧ ∀ Q : VK, Q v (L2.upd H l (.lst us')) → r (.ref l) vs H Q
def xBm (i : Nat) (π : Pi') (op : List D → List D → Option (D × List D)) (f : En → Ot (List D)) : Xf := fun ρ => match subD ρ i π with
  | some (d, js, .nd (.lst .own) es) => (match f ρ with
    | .no => none
    | .ex x => some (.ex x, ρ)
    | .ok ds => if ds.all noT then (match op es ds with
      | some (dv, es') => some (.ok dv, ρ.set i (some (putP d js (.nd (.lst .own) es'))))
      | none => none) else none)
  | _ => none
theorem lend_eq {K : PySem.W.Frag} {cm : Cm} {H H1 H2 : Hp} {Z Z1 Z2 : Zn} {Fs : List (List Addr)} (e1 : Ext H (lendZ Z Fs) H1 Z1) (e : Ext H1 (lendZ ⟨Z1.f, Z.b, fun _ => False⟩ Fs) H2 Z2) : Ext H (lendZ Z Fs) H2 Z2 := by
  have eZ : Z1 = lendZ ⟨Z1.f, Z.b, fun _ => False⟩ Fs := by
    have h1 : Z1.b = Z.b := e1.b
    have h2 : Z1.t = fun a => a ∈ Fs.flatten := e1.t
    cases Z1
    simp only at h1 h2
    subst h1; subst h2
    rfl
  rw [← eZ] at e
  exact e1.trans e
theorem bm_end {K : PySem.W.Frag} {cm : Cm} {W : WX} {r : V → List V → Hp → VK → Prop} {i : Nat} {π : Pi'} {op : List D → List D → Option (D × List D)} {t : TA} {f : En → Ot (List D)} (ht : ∀ σ H Q, tPL K cm W f σ H Q → t σ H Q) (hm : MutX K cm r op) {σ : L2.St} {H : Hp} {Q : VK} (q : tX K cm W (xBm i π op f) σ H Q) :
    tPth2 K cm W i π σ H fun x H1 => tyV K "list" x H1 ∧ t σ H1 fun xs H2 => r x xs H2 Q := by
  obtain ⟨Z, ρ, Fs, ok, q⟩ := q
  unfold xBm at q
  split at q
  rotate_left
  · exact q.elim
  rename_i d js es hp
  obtain ⟨h1, h2, h3⟩ := subD_eq hp
  refine ⟨Z, ρ, Fs, d, js, _, ok, h1, h2, h3, fun H1 Z1 v F v0 F0 A B ex hs hF fo => ?_⟩
  obtain ⟨a, us, Es, rfl, c, l, _⟩ := fo.rep
  refine ⟨.inl ⟨rfl, us, .inl c.2.1⟩, ht _ _ _ ⟨Z1, ρ, Fs, ok.pure.ext ex, ?_⟩⟩
  match e : f ρ, q with
  | .no, q => exact q.elim
  | .ex x, q => exact fun cls dd H2 Z2 ex2 xr => q cls dd H2 _ Fs (ext_step ok (ex.trans ex2)) (ok.ext (ex.trans ex2)) (xr.back fun _ h => h)
  | .ok ds, q =>
    dsimp only at q
    split at q
    rotate_left
    · exact q.elim
    rename_i nt
    split at q
    rotate_left
    · exact q.elim
    rename_i dv es' ho
    intro vs H2 Z2 Gs r2
    have ex2 := ex.trans r2.ext
    have r3 : ResL K cm H (lendZ Z Fs) H2 Z2 [] ds vs Gs := ⟨ex2, r2.rep, r2.nd, fun a ha => .inl (ex.gr.back (r2.new a ha)), r2.nf⟩
    have o := ok.many r3 nt
    have fo2 := fo.move (cell_grow (Z' := ⟨Z2.f, Z.b, fun _ => False⟩) r2.ext.gr r2.ext.f (fun _ h => h) fun _ h => h)
    obtain ⟨us, Es, c, l, ha, aG, aE, nd, kk⟩ := ok.putF h1 hs hF fo2 rfl ex2 o
    obtain ⟨vv, us', Es', Fv, l', rv, sub, nd', fin⟩ := hm H2 _ a us es Es ds vs Gs dv es' (c.1 rfl) l o.rep aG nd ho
    refine fin Q ?_
    obtain ⟨Fs', ok', sub', nd2, nz⟩ := kk (.lst .own) es' us' Es' (.lst us') Fv rfl ⟨fun _ => upd_same, .inl upd_same, trivial⟩ trivial l' sub nd'
    have mu := o.ok.mu a ha
    have aFv : a ∉ Fv := fun h => (sub a (List.mem_append_right _ h)).elim aE aG
    have fr : ∀ x ∈ Gs.flatten, H x = none := fun x h => r3.new x h
    refine q vv _ _ Fs' Fv (.put ex2 ha sub' fr) ⟨ok', repL_cons (rv.upd mu aFv (o.ok.nz a ha).1 (o.ok.nz a ha).2 (fun h => h)) repL_nil, by simpa using nd2, fun x hx => ?_⟩ fun x hx => (nz x hx).2.2.imp id (fr x)
    have hx : x ∈ Fv := by simpa using hx
    exact ⟨(nz x hx).1, (nz x hx).2.1⟩
section
variable {X : Cx} {cm : Cm} {W : WX} {P : List Nat} {o e : Expr} {es : List Expr} {fs : List (En → Ot D)} {name : Str} {apos cpos pos : Pos} {id : String} {r : V → List V → Hp → VK → Prop} {op : List D → List D → Option (D × List D)} {i : Nat} {π : Pi'}
theorem x_bm (slot : Slot "list" name id) (hty : typeOf (.builtin id) = pure (.type "method_descriptor")) (hr : MtR X id r) (hm : MutX X.K cm r op) (ho : SP2 X cm W o i π) (ha : SA X cm W (e :: es) (eL fs))
    (hbase : attributeBase o name X.env (eval o X.env) = eval o X.env := by rfl)
    (hfew : ((backTo cpos (starEach (e :: es) X.env)).all (fun x => !x.1) && (backToKw cpos (keywordEach [] X.env)).all (fun x => x.1.isSome)
      && decide ((e :: es).length + ([] : List Keyword).length + (if ([] : List Keyword).isEmpty then 0 else 1) < 30)) = true := by rfl)
    (hline : (apos.endLine == cpos.line) = true := by rfl) (hs : starEach (e :: es) X.env = (false, eval e X.env) :: starEach es X.env := by rfl) (hplain : (backTo cpos (starEach es X.env)).any (·.1) = false := by rfl) :
    SX X cm W (.Call (.Attribute o name apos) (e :: es) [] cpos) (xBm i π op (eL fs)) :=
  PE.imp (pe_bm PySem.F.plainAttrs_list slot hty hr ho ha hbase hfew hline hs hplain) fun σ H Q q => bm_end (fun _ _ _ h => h) hm q
theorem x_bm0 (slot : Slot "list" name id) (hty : typeOf (.builtin id) = pure (.type "method_descriptor")) (hr : MtR X id r) (hm : MutX X.K cm r op) (ho : SP2 X cm W o i π)
    (hbase : attributeBase o name X.env (eval o X.env) = eval o X.env := by rfl) (hline : (apos.endLine == cpos.line) = true := by rfl) :
    SX X cm W (.Call (.Attribute o name apos) [] [] cpos) (xBm i π op (eL [])) :=
  PE.imp (pe_bm0 PySem.F.plainAttrs_list slot hty hr ho hbase hline) fun σ H Q q => bm_end (t := tNil) (fun σ H Q h => by
    obtain ⟨Z, ρ, Fs, ok, q⟩ := h
    exact q [] H Z [] (.nil ok.dom)) hm q
end
def oApp (es ds : List D) : Option (D × List D) := match ds with
  | [d] => if es.length < sizeLine then some (.non, es ++ [d]) else none
  | _ => none
def oExt (es ds : List D) : Option (D × List D) := match ds with
  | [.nd (.lst .own) xs] => if es.length + xs.length ≤ sizeLine then some (.non, es ++ xs) else none
  | _ => none
def oPop (es ds : List D) : Option (D × List D) := match ds with
  | [] => (es[es.length - 1]?).map fun y => (y, es.dropLast)
  | _ => none
theorem mx_append {K : PySem.W.Frag} {cm : Cm} : MutX K cm rAppend oApp := fun H Z l us es Es ds vs Gs dv es' hl re rd nl nd h => by
  unfold oApp at h
  split at h
  · split at h
    · rename_i d hs
      cases h
      obtain ⟨v, F, rfl, rfl, hd⟩ := repL1 rd
      refine ⟨.non, us ++ [v], Es ++ [F], [], re.app (repL_cons hd repL_nil), rep_non, fun x hx => ?_, by simpa using nd, fun Q q => ⟨l, us, v, rfl, rfl, hl, by rw [re.len.1]; exact hs, q⟩⟩
      rw [List.flatten_append, List.append_nil] at hx
      exact List.mem_append.mp hx
    · cases h
  · cases h
theorem mx_extend {K : PySem.W.Frag} {cm : Cm} : MutX K cm rExtend oExt := fun H Z l us es Es ds vs Gs dv es' hl re rd nl nd h => by
  unfold oExt at h
  split at h
  · split at h
    · rename_i xs hs
      cases h
      obtain ⟨v, F, rfl, rfl, a, ws, Ws, rfl, c, rw_, rfl⟩ := repL1 rd
      have e1 : ownA (.lst .own) a = [a] := by simp [ownA, Kd.isOwn, Kd.fl]
      have nd : (Es.flatten ++ (ownA (.lst .own) a ++ Ws.flatten)).Nodup := by simpa using nd
      have n := List.nodup_append.mp nd
      refine ⟨.non, us ++ ws, Es ++ Ws, [], re.app rw_, rep_non, fun x hx => ?_, ?_, fun Q q => ⟨l, a, us, ws, rfl, rfl, hl, c.1 rfl, by rw [re.len.1, rw_.len.1]; exact hs, q⟩⟩
      · rw [List.flatten_append, List.append_nil] at hx
        rcases List.mem_append.mp hx with hx | hx
        · exact .inl hx
        · exact .inr (by simp [hx])
      · rw [List.flatten_append, List.append_nil]
        exact List.nodup_append.mpr ⟨n.1, (List.nodup_append.mp n.2.1).2.1, fun x hx y hy e => n.2.2 x hx y (List.mem_append_right _ hy) e⟩
    · cases h
  · cases h

/-! ### o[i] = v of a list or a dict at a place -/
def putD2 (k : Kd) (es : List D) (key x : D) : Option (Kd × List D) := match k with
  | .lst .own => match key with
    | .int z => (ixN es.length z).map fun j => (.lst .own, es.set j x)
    | _ => none
  | .dct .own ks => (keyD key).bind fun q => match ks.findIdx? (fun p => decide (p = q)) with
    | some j => if ks.length < sizeLine ∧ ks.Nodup then some (.dct .own ks, es.set j x) else none
    | none => if ks.length < sizeLine then some (.dct .own (ks ++ [q]), es ++ [x]) else none
  | _ => none
theorem putK_at {α : Type} : ∀ {ks : List Key} {us : List V} {q : Key} {j : Nat} {v : V}, ks.findIdx? (fun p => decide (p = q)) = some j → ks.Nodup → ks.length = us.length → putK (ks.zip us) q v = ks.zip (us.set j v) := by
  have key : ∀ {ks : List Key} {us : List V} {q : Key} {j : Nat} {v : V}, ks.findIdx? (fun p => decide (p = q)) = some j → ks.Nodup → ks.length = us.length → ((ks.zip us).any fun kv => decide (kv.1 = q)) = true ∧ (ks.zip us).map (fun kv => if kv.1 = q then (kv.1, v) else kv) = ks.zip (us.set j v) := by
    intro ks
    induction ks with
    | nil => intro us q j v h; simp at h
    | cons k ks ih =>
      intro us q j v h nd l
      cases us with
      | nil => simp at l
      | cons u us =>
        obtain ⟨n1, n2⟩ := List.nodup_cons.mp nd
        rw [List.findIdx?_cons] at h
        by_cases e : k = q
        · rw [if_pos (by simpa using e)] at h
          cases h
          subst e
          refine ⟨by simp, ?_⟩
          have rest : (ks.zip us).map (fun kv => if kv.1 = k then (kv.1, v) else kv) = ks.zip us := by
            conv => rhs; rw [← List.map_id (ks.zip us)]
            refine List.map_congr_left fun kv hkv => ?_
            have : kv.1 ∈ ks := (List.of_mem_zip (show (kv.1, kv.2) ∈ ks.zip us from hkv)).1
            rw [if_neg (show ¬ kv.1 = k from fun z => n1 (by rw [← z]; exact this))]
            rfl
          rw [List.zip_cons_cons, List.map_cons, if_pos rfl, rest]
          rfl
        · rw [if_neg (by simpa using e)] at h
          cases f : ks.findIdx? (fun p => decide (p = q)) with
          | none => rw [f] at h; cases h
          | some j' =>
            rw [f] at h
            cases h
            obtain ⟨a, b⟩ := ih (us := us) (v := v) f n2 (by simpa using l)
            refine ⟨by rw [List.zip_cons_cons, List.any_cons, a, Bool.or_true], ?_⟩
            rw [List.zip_cons_cons, List.map_cons, if_neg e, b]
            rfl
  intro ks us q j v h nd l
  obtain ⟨a, b⟩ := key (v := v) h nd l
  unfold putK
  rw [if_pos a, b]
theorem putK_new {ks : List Key} {us : List V} {q : Key} {v : V} (h : ks.findIdx? (fun p => decide (p = q)) = none) (l : ks.length = us.length) : putK (ks.zip us) q v = (ks ++ [q]).zip (us ++ [v]) := by
  have a : ((ks.zip us).any fun kv => decide (kv.1 = q)) = false := by
    rw [List.any_eq_false]
    intro kv hkv
    have m : kv.1 ∈ ks := (List.of_mem_zip (show (kv.1, kv.2) ∈ ks.zip us from hkv)).1
    have := List.findIdx?_eq_none_iff.mp h kv.1 m
    simpa using this
  unfold putK
  rw [if_neg (by rw [a]; decide), List.zip_append l]
  rfl
def rSet2 : TSet := fun o i v H Q => rSetL o i v H Q ∨ rSetD o i v H Q
theorem set_2 {X : Cx} (hu : X.A.units + 1 < cLine) : PSet X rSet2 := by
  intro pins s σ H o i v ov iv u Q I ro ri rv h
  rcases h with h | h
  · exact set_list pins s σ H o i v ov iv u Q I ro ri rv h
  · exact set_dict hu pins s σ H o i v ov iv u Q I ro ri rv h
theorem put_ok2 {K : PySem.W.Frag} {cm : Cm} {H : Hp} {Z : Zn} {a : Addr} {k k' : Kd} {us : List V} {es es' : List D} {Es : List (List Addr)} {key x : D} {ky v : V} {F G : List Addr} (c : Cell K cm H Z a k us) (l : RepL K cm H Z es us Es) (rk : Rep K cm H Z key ky G) (rx : Rep K cm H Z x v F) (h : putD2 k es key x = some (k', es')) (nd : (Es.flatten ++ F).Nodup) :
    ∃ us' Es' o', k'.isOwn = true ∧ Cell K cm (L2.upd H a o') Z a k' us' ∧ Mut (some o') ∧ RepL K cm H Z es' us' Es' ∧ (∀ y ∈ Es'.flatten, y ∈ Es.flatten ∨ y ∈ F) ∧ Es'.flatten.Nodup ∧ ∀ Q : Hp → Prop, Q (L2.upd H a o') → rSet2 (.ref a) ky v H Q := by
  have setnd : ∀ {j : Nat}, (Es.set j F).flatten.Nodup ∧ ∀ y ∈ (Es.set j F).flatten, y ∈ Es.flatten ∨ y ∈ F := fun {j} => by
    have n := List.nodup_append.mp nd
    exact ⟨set_nodup n.1 n.2.1 fun x hx q => n.2.2 x hx x q rfl, fun y hy => set_mem hy⟩
  unfold putD2 at h
  split at h
  · split at h
    · rename_i z
      cases e : ixN es.length z with
      | none => rw [e] at h; cases h
      | some j =>
        rw [e] at h
        cases h
        obtain ⟨rfl, _⟩ := rk
        exact ⟨us.set j v, Es.set j F, .lst (us.set j v), rfl, ⟨fun _ => upd_same, .inl upd_same, trivial⟩, trivial, l.set j rx, setnd.2, setnd.1, fun Q q => .inl ⟨a, us, _, j, rfl, rfl, c.1 rfl, by rw [l.len.1]; exact e, q⟩⟩
    · cases h
  · rename_i ks
    cases ek : keyD key with
    | none => rw [ek] at h; cases h
    | some q0 =>
      rw [ek, Option.bind_some] at h
      have eky := key_ok rk ek
      subst eky
      have hl := c.2.2.1
      split at h
      · rename_i j ej
        split at h
        · rename_i hc
          cases h
          refine ⟨us.set j v, Es.set j F, .dK (ks.zip (us.set j v)), rfl, ⟨fun _ => upd_same, .inl upd_same, by rw [List.length_set]; exact hl, trivial⟩, trivial, l.set j rx, setnd.2, setnd.1, fun Q q => .inr ⟨a, _, rfl, DPut.k (c.1 rfl) (by rw [List.length_zip]; omega), ?_⟩⟩
          rw [putK_at (α := Nat) ej hc.2 hl]
          exact q
        · cases h
      · rename_i ej
        split at h
        · rename_i hc
          cases h
          refine ⟨us ++ [v], Es ++ [F], .dK ((ks ++ [q0]).zip (us ++ [v])), rfl, ⟨fun _ => upd_same, .inl upd_same, by simp [hl], trivial⟩, trivial, l.app (repL_cons rx repL_nil), fun y hy => ?_, by simpa using nd, fun Q q => .inr ⟨a, _, rfl, DPut.k (c.1 rfl) (by rw [List.length_zip]; omega), ?_⟩⟩
          · rw [List.flatten_append] at hy
            exact (List.mem_append.mp hy).imp id fun h => by simpa using h
          · rw [putK_new ej hl]
            exact q
        · cases h
  · cases h
def sPut2 (i : Nat) (π : Pi') (fv fi : En → Ot D) : Mst := fun ρ => match subD ρ i π with
  | some (d, js, .nd k es) => if k.isOwn then sOnL (eL [fv, fi]) (fun ds ρ => match ds with
    | [x, y] => if noT x && isAt y then (match putD2 k es y x with
      | some (k', es') => some (.nx, ρ.set i (some (putP d js (.nd k' es'))))
      | none => none) else none
    | _ => none) ρ else none
  | _ => none
theorem put_end2 {K : PySem.W.Frag} {cm : Cm} {W : WX} {P : List Nat} {i : Nat} {π : Pi'} {fv fi : En → Ot D} {D0 : Ends} {σ : L2.St} {H : Hp} (q : tS K cm W P (sPut2 i π fv fi) D0 σ H) :
    tP K cm W fv σ H fun x H1 => tPth2 K cm W i π σ H1 fun o H2 => tP K cm W fi σ H2 fun y H3 => rSet2 o y x H3 fun H4 => D0.nx σ H4 := by
  obtain ⟨Z, ρ, Fs, ok, q⟩ := q
  unfold sPut2 at q
  split at q
  rotate_left
  · exact q.elim
  rename_i d js k es hp
  split at q
  rotate_left
  · exact q.elim
  rename_i hk
  obtain ⟨h1, h2, h3⟩ := subD_eq hp
  unfold sOnL at q
  simp only [eL] at q
  refine tP_bind ok.pure (fun e => by rw [e] at q; exact q) (fun x e v H1 Z1 F r1 => ?_) (fun x e => ?_)
  rotate_left
  · rw [e] at q
    exact fun cls dd H1 Z1 ex xr => q σ H1 _ Fs (.ext ok ex) (ok.ext ex) cls dd (xr.back fun _ h => h)
  rw [e, Ot.bind_ok] at q
  refine ⟨_, ρ, Fs, d, js, _, ok.ext r1.ext, h1, h2, h3, fun H2 Z2 v' F' v0 F0 A B ex2 hs hF fo => ?_⟩
  have ex02 := lend_eq (K := K) (cm := cm) r1.ext ex2
  refine tP_bind (ok.pure.ext ex02) (fun e => by rw [e] at q; exact q) (fun y e2 u H3 Z3 G r3 => ?_) (fun x e => ?_)
  rotate_left
  · rw [e] at q
    exact fun cls dd H1 Z1 ex xr => q σ H1 _ Fs (.ext ok (ex02.trans ex)) (ok.ext (ex02.trans ex)) cls dd (xr.back fun _ h => h)
  simp only [e2, Ot.bind_ok] at q
  split at q
  rotate_left
  · exact q.elim
  rename_i hc
  rw [Bool.and_eq_true] at hc
  split at q
  rotate_left
  · exact q.elim
  rename_i k' es' ho
  have ex03 := ex02.trans r3.ext
  have mF : ∀ a ∈ F, Mut (H1 a) := Rep.mut x r1.rep
  -- the value, carried along
  have eb1 : Z1.b = Z.b := r1.ext.b
  have rx : Rep K cm H3 ⟨Z3.f, Z.b, fun _ => False⟩ x v F := by
    have r0 := noT_rep (t' := fun _ => False) r1.rep hc.1
    rw [eb1] at r0
    exact r0.grow (ex2.gr.trans r3.ext.gr) (fun a h => r3.ext.f a (ex2.f a h)) (fun _ h => h) fun _ h => h
  have ho1 := ok.one r1 hc.1
  have nfF : ∀ a ∈ F, ¬ Z3.f a := fun a ha h => by
    have n1 : ¬ Z2.f a := keep_nf (Z1 := lendZ ⟨Z1.f, Z.b, fun _ => False⟩ Fs) ex2 (mF a ha) (r1.nf a ha)
    exact keep_nf r3.ext (ex2.gr.mut (mF a ha)) n1 h
  have o : OkT K cm H3 σ ρ Fs ⟨Z3.f, Z.b, fun _ => False⟩ [x] [v] [F] := ⟨ok.ext ex03, repL_cons rx repL_nil, ho1.nd, fun a ha => ⟨nfF a (by simpa using ha), (ho1.nz a ha).2⟩⟩
  have fo2 := fo.move (cell_grow (Z' := ⟨Z3.f, Z.b, fun _ => False⟩) r3.ext.gr r3.ext.f (fun _ h => h) fun _ h => h)
  obtain ⟨a, _, _, eav, _⟩ := fo2.rep
  subst eav
  obtain ⟨us, Es, c, l, ha, aG, aE, nd, kk⟩ := ok.putF h1 hs hF fo2 hk ex03 o
  have ry : Rep K cm H3 ⟨Z3.f, Z.b, fun _ => False⟩ y u [] := by
    obtain ⟨e1, e2, _⟩ := rep_at r3.rep hc.2
    have := rdd_at (K := K) (cm := cm) (H1 := H3) [y] (by simpa using hc.2) ⟨Z3.f, Z.b, fun _ => False⟩
    obtain ⟨v, F, e3, e4, r⟩ := repL1 this
    simp only [List.map_cons, List.map_nil, List.cons.injEq, and_true] at e3 e4
    rw [e1, e3, e4]
    exact r
  obtain ⟨us', Es', o', hk', c', mu', l', sub, nd', fin⟩ := put_ok2 c l ry rx ho (by simpa using nd)
  refine fin _ ?_
  obtain ⟨Fs', ok', sub', nd2, nz⟩ := kk k' es' us' Es' o' [] hk' c' mu' l' (fun x hx => by
    rw [List.append_nil] at hx
    exact (sub x hx).imp id fun h => by simpa using h) (by rw [List.append_nil]; exact nd')
  exact q σ _ _ Fs' (.put ex03 ha sub' fun x hx => r1.new x (by simpa using hx)) ok'
section
variable {X : Cx} {cm : Cm} {W : WX} {P : List Nat} {o ix value : Expr} {pos' pos : Pos} {i : Nat} {π : Pi'} {fv fi : En → Ot D}
theorem ss_put2 (hu : X.A.units + 1 < cLine) (ho : SP2 X cm W o i π) (hv : SE X cm W value fv) (hi : SE X cm W ix fi)
    (ha : ∀ v, assign (.Subscript o ix pos') X.env v = (do
      let ov ← holding [v] (eval o X.env)
      let iv ← holding [v, ov] (eval ix X.env)
      standAt pos'
      holding [v, ov, iv] (setItem ov iv v)
      release [v, ov, iv] []) := by intro _; rfl)
    (hs : swapsWithSole [.Subscript o ix pos'] value pos.line X.env = pure false := by rfl) (hw : swappedStores [.Subscript o ix pos'] value X.env = pure none := by rfl)
    (h1 : (assignEach [.Subscript o ix pos'] X.env).map (·.2) = [assign (.Subscript o ix pos') X.env] := by rfl) : SS X cm W P (.Assign [.Subscript o ix pos'] value pos) (sPut2 i π fv fi) :=
  PS.imp (ps_asg hv (pg_sub ho hi (set_2 hu) ha) hs hw h1) fun D0 σ H q => put_end2 q
end

/-! ### o.f = v -/
def putFD (fs : List Str) (es : List D) (n : Str) (x : D) : List Str × List D := match fs.findIdx? (fun q => decide (q = n)) with
  | some j => (fs, es.set j x)
  | none => (fs ++ [n], es ++ [x])
theorem putF_zip {n : Str} {v : V} : ∀ {fs : List Str} {us : List V}, fs.length = us.length → (∀ j, fs.findIdx? (fun q => decide (q = n)) = some j → putF n v (fs.zip us) = fs.zip (us.set j v)) ∧ (fs.findIdx? (fun q => decide (q = n)) = none → putF n v (fs.zip us) = (fs ++ [n]).zip (us ++ [v]))
  | [], [], _ => ⟨fun j h => by simp at h, fun _ => rfl⟩
  | [], _ :: _, h => by simp at h
  | _ :: _, [], h => by simp at h
  | f :: fs, u :: us, h => by
    obtain ⟨a, b⟩ := putF_zip (n := n) (v := v) (fs := fs) (us := us) (by simpa using h)
    rw [List.findIdx?_cons]
    have un : putF n v ((f, u) :: fs.zip us) = (if f = n then (f, v) :: fs.zip us else (f, u) :: putF n v (fs.zip us)) := rfl
    by_cases e : f = n
    · rw [if_pos (by simpa using e)]
      refine ⟨fun j hj => ?_, fun h => nomatch h⟩
      cases hj
      rw [List.zip_cons_cons, un, if_pos e]
      rfl
    · rw [if_neg (by simpa using e)]
      cases f1 : fs.findIdx? (fun q => decide (q = n)) with
      | none =>
        refine ⟨(fun j hj => nomatch hj), fun _ => ?_⟩
        rw [List.zip_cons_cons, un, if_neg e, b f1]
        rfl
      | some j' =>
        refine ⟨fun j hj => ?_, fun h => nomatch h⟩
        cases hj
        rw [List.zip_cons_cons, un, if_neg e, a j' f1]
        rfl
def fldK (i : Nat) (π : Pi') (cs : List Str) (n : Str) (x : D) : Mst := fun ρ => match subD ρ i π with
  | some (d, js, .nd (.obj .own c fs) es) => if noT x && decide (c ∈ cs) && decide (fs.length < 1000) then some (.nx, ρ.set i (some (putP d js (.nd (.obj .own c (putFD fs es n x).1) (putFD fs es n x).2)))) else none
  | _ => none
def sFldS (i : Nat) (π : Pi') (cs : List Str) (n : Str) (fv : En → Ot D) : Mst := sOn fv (fldK i π cs n)
section
variable {X : Cx} {cm : Cm} {W : WX} {P : List Nat} {o value : Expr} {n : Str} {pos' pos : Pos} {i : Nat} {π : Pi'} {fv : En → Ot D} {cs : List Str}
theorem ss_fld (hc : ∀ c ∈ cs, Cls X.K (cm c) ∧ NoAttr X.K (cm c) n) (ho : SP2 X cm W o i π) (hv : SE X cm W value fv) (hs : swapsWith value (some (.Attribute o n pos')) pos.line X.env = pure false := by rfl) :
    SS X cm W P (.Assign [.Attribute o n pos'] value pos) (sFldS i π cs n fv) := PS.imp (ps_fld ho hv hs) fun D0 σ H q => by
  obtain ⟨Z, ρ, Fs, ok, q⟩ := q
  refine on_go ok q fun x v H1 Z1 F e r1 _ => ?_
  have q1 : FinS X.K cm W P D0 σ H Z Fs (fldK i π cs n x ρ) := by
    have q3 := q
    unfold sFldS sOn at q3
    rw [e] at q3
    exact q3
  unfold fldK at q1
  split at q1
  rotate_left
  · exact q1.elim
  rename_i d js c fs es hp
  split at q1
  rotate_left
  · exact q1.elim
  rename_i hcc
  rw [Bool.and_eq_true, Bool.and_eq_true] at hcc
  obtain ⟨⟨nt, hcs⟩, hlen⟩ := hcc
  have hcs := of_decide_eq_true hcs
  have hlen := of_decide_eq_true hlen
  obtain ⟨h1, h2, h3⟩ := subD_eq hp
  refine ⟨_, ρ, Fs, d, js, _, ok.ext r1.ext, h1, h2, h3, fun H2 Z2 v' F' v0 F0 A B ex2 hs hF fo => ?_⟩
  have ex02 := lend_eq (K := X.K) (cm := cm) r1.ext ex2
  have mF : ∀ a ∈ F, Mut (H1 a) := Rep.mut x r1.rep
  have eb1 : Z1.b = Z.b := r1.ext.b
  have rx : Rep X.K cm H2 ⟨Z2.f, Z.b, fun _ => False⟩ x v F := by
    have r0 := noT_rep (t' := fun _ => False) r1.rep nt
    rw [eb1] at r0
    exact r0.grow ex2.gr ex2.f (fun _ h => h) fun _ h => h
  have ho1 := ok.one r1 nt
  have o : OkT X.K cm H2 σ ρ Fs ⟨Z2.f, Z.b, fun _ => False⟩ [x] [v] [F] := ⟨ok.ext ex02, repL_cons rx repL_nil, ho1.nd, fun a ha => ⟨keep_nf (Z1 := lendZ ⟨Z1.f, Z.b, fun _ => False⟩ Fs) ex2 (mF a (by simpa using ha)) (r1.nf a (by simpa using ha)), (ho1.nz a ha).2⟩⟩
  obtain ⟨a, _, _, eav, _⟩ := fo.rep
  subst eav
  obtain ⟨us, Es, cell, l, ha, aG, aE, nd, kk⟩ := ok.putF h1 hs hF fo rfl ex02 o
  obtain ⟨⟨dx, hi⟩, hl, _⟩ := cell
  refine ⟨a, _, dx, _, rfl, hi, (hc c hcs).1, (hc c hcs).2, by rw [List.length_zip]; omega, ?_⟩
  have nd : (Es.flatten ++ F).Nodup := by simpa using nd
  have n0 := List.nodup_append.mp nd
  obtain ⟨pa, pb⟩ := putF_zip (n := n) (v := v) hl
  have fin : ∀ fs' es' us' Es', fs'.length = us'.length → putF n v (fs.zip us) = fs'.zip us' → RepL X.K cm H2 ⟨Z2.f, Z.b, fun _ => False⟩ es' us' Es' → (∀ x ∈ Es'.flatten, x ∈ Es.flatten ∨ x ∈ F) → Es'.flatten.Nodup → putFD fs es n x = (fs', es') → D0.nx σ (L2.upd H2 a (.ins (cm c) dx (putF n v (fs.zip us)))) := fun fs' es' us' Es' e1 e2 e3 e4 e5 e6 => by
    rw [e2]
    obtain ⟨Fs', ok', sub', nd2, nz⟩ := kk (.obj .own c fs') es' us' Es' (.ins (cm c) dx (fs'.zip us')) [] rfl ⟨⟨dx, upd_same⟩, e1, trivial⟩ trivial e3 (fun x hx => by
      rw [List.append_nil] at hx
      exact (e4 x hx).imp id fun h => by simpa using h) (by rw [List.append_nil]; exact e5)
    rw [e6] at q1
    exact q1 σ _ _ Fs' (.put ex02 ha sub' fun x hx => r1.new x (by simpa using hx)) ok'
  cases ej : fs.findIdx? (fun q => decide (q = n)) with
  | some j => exact fin fs (es.set j x) (us.set j v) (Es.set j F) (by rw [List.length_set]; exact hl) (pa j ej) (l.set j rx) (fun y hy => set_mem hy) (set_nodup n0.1 n0.2.1 fun x hx q => n0.2.2 x hx x q rfl) (by unfold putFD; rw [ej])
  | none => exact fin (fs ++ [n]) (es ++ [x]) (us ++ [v]) (Es ++ [F]) (by simp [hl]) (pb ej) (l.app (repL_cons rx repL_nil)) (fun y hy => by
      rw [List.flatten_append] at hy
      exact (List.mem_append.mp hy).imp id fun h => by simpa using h) (by simpa using nd) (by unfold putFD; rw [ej])
end
end OB

namespace OB
open PySem PySem.Spec PyProof.Rows L2
theorem PE.or {X : Cx} {e : Expr} {t t' : TE} (h : PE X e t) (h' : PE X e t') : PE X e (fun σ H Q => t σ H Q ∨ t' σ H Q) := ⟨fun pins s σ H Q I q => q.elim (h.run pins s σ H Q I) (h'.run pins s σ H Q I)⟩
section
variable {K : PySem.W.Frag} {cm : Cm} {H H' : Hp} {Z Z' : Zn}
theorem Reach.split : ∀ {js : List Nat} {d : D} {v v1 : V} {j : Nat} {k : Kd} {es : List D}, Reach K cm H Z d v (js ++ [j]) v1 → getP d js = some (.nd k es) → ∃ a vs, Reach K cm H Z d v js (.ref a) ∧ Cell K cm H Z a k vs ∧ vs.length = es.length ∧ vs[j]? = some v1
  | [], d, v, v1, j, k, es, h, e => by
    have e : d = .nd k es := by simpa [getP] using e
    subst e
    obtain ⟨a, vs, vj, dj, rfl, c, el, e1, e2, r⟩ := h
    have : vj = v1 := by cases dj <;> exact r
    subst this
    exact ⟨a, vs, rfl, c, el, e2⟩
  | j' :: js, .nd k' ds, v, v1, j, k, es, h, e => by
    obtain ⟨a, vs, vj, dj, rfl, c, el, e1, e2, r⟩ := (show Reach K cm H Z (.nd k' ds) v (j' :: (js ++ [j])) v1 from h)
    rw [getP_cons e1] at e
    obtain ⟨a2, vs2, r2, c2, e3⟩ := Reach.split r e
    exact ⟨a2, vs2, ⟨a, vs, vj, dj, rfl, c, el, e1, e2, r2⟩, c2, e3⟩
  | _ :: _, .non, _, _, _, _, _, h, e => by simp [getP] at e
  | _ :: _, .bl _, _, _, _, _, _, h, e => by simp [getP] at e
  | _ :: _, .int _, _, _, _, _, _, h, e => by simp [getP] at e
  | _ :: _, .str _, _, _, _, _, _, h, e => by simp [getP] at e
end
/-! ### a path, only read -/
def tPthP (K : PySem.W.Frag) (cm : Cm) (i : Nat) (π : Pi') : TE := fun σ H Q => ∃ Z ρ Fs d js d0 v v0, OkP K cm H σ ρ Fs Z ∧ ρ[i]? = some (some d) ∧ π ρ = some js ∧ getP d js = some d0 ∧ σ[i]? = some (some v) ∧ Reach K cm H Z d v js v0 ∧
  ∀ H' Z', Ext H Z H' Z' → Q v0 H'
abbrev SPP (X : Cx) (cm : Cm) (e : Expr) (i : Nat) (π : Pi') : Prop := PE X e (tPthP X.K cm i π)
section
variable {X : Cx} {cm : Cm} {W : WX} {o e : Expr} {i : Nat} {π : Pi'} {f : En → Ot D} {pos p : Pos} {x : Str}
theorem spp_name (he : PE X (.Name x p) (tVar i)) : SPP X cm (.Name x p) i pHere := PE.imp he fun σ H Q q => by
  obtain ⟨Z, ρ, Fs, d, js, d0, v, v0, ok, h1, h2, h3, hs, r, q⟩ := q
  cases h2
  have : v = v0 := by cases d <;> exact r
  subst this
  exact ⟨v, hs, q H Z (.refl ok.dom)⟩
theorem spp_fld (ho : SPP X cm o i π) {n : Str} {cs : List Str} (hc : ∀ c ∈ cs, Cls X.K (cm c) ∧ NoAttr X.K (cm c) n) (hb : attributeBase o n X.env (eval o X.env) = eval o X.env := by rfl) : SPP X cm (.Attribute o n pos) i (πFld i π cs n) := PE.imp (pe_fld ho hb) fun σ H Q q => by
  obtain ⟨Z, ρ, Fs, d, js, d0, v, v0, ok, h1, h2, h3, hs, r, q⟩ := q
  unfold πFld at h2
  rw [h1] at h2
  cases e1 : π ρ with
  | none => rw [e1] at h2; cases h2
  | some js0 =>
    rw [e1] at h2
    dsimp only [Option.bind_some] at h2
    cases e2 : getP d js0 with
    | none => rw [e2] at h2; cases h2
    | some dd =>
      rw [e2] at h2
      dsimp only [Option.bind_some] at h2
      unfold fldP at h2
      split at h2
      · rename_i fl c fs es
        split at h2
        rotate_left
        · cases h2
        rename_i hcs
        cases e3 : fs.findIdx? (fun q => decide (q = n)) with
        | none => rw [e3] at h2; cases h2
        | some j =>
          rw [e3] at h2
          cases h2
          obtain ⟨a, vs, r1, ⟨⟨dx, hi⟩, hl, _⟩, _, e4⟩ := Reach.split r e2
          obtain ⟨w, w1, w2⟩ := lookup_idx e3 hl
          rw [e4] at w1
          cases w1
          exact ⟨Z, ρ, Fs, d, js0, _, v, .ref a, ok, h1, e1, e2, hs, r1, fun H' Z' ex => ⟨a, _, dx, _, v0, rfl, ex.gr _ _ hi, (hc c hcs).1, (hc c hcs).2, w2, q H' Z' ex⟩⟩
      · cases h2
theorem spp_ix (hu : X.A.units + 1 < cLine) (ho : SPP X cm o i π) (he : SE X cm W e f) (hs : PlainIx e := by exact fun _ _ => rfl) : SPP X cm (.Subscript o e pos) i (πIx i π f) := PE.imp (pe_ix (ix_4 hu) ho he hs) fun σ H Q q => by
  obtain ⟨Z, ρ, Fs, d, js, d0, v, v0, ok, h1, h2, h3, hs, r, q⟩ := q
  unfold πIx at h2
  rw [h1] at h2
  cases e1 : π ρ with
  | none => rw [e1] at h2; cases h2
  | some js0 =>
    rw [e1] at h2
    dsimp only [Option.bind_some] at h2
    cases e2 : getP d js0 with
    | none => rw [e2] at h2; cases h2
    | some dd =>
      rw [e2] at h2
      dsimp only [Option.bind_some] at h2
      cases ef : f ρ with
      | no => rw [ef] at h2; cases h2
      | ex x => rw [ef] at h2; cases h2
      | ok key =>
        rw [ef] at h2
        dsimp only at h2
        cases e3 : stepP dd key with
        | none => rw [e3] at h2; cases h2
        | some j =>
          rw [e3] at h2
          cases h2
          cases dd with
          | nd kk es =>
            obtain ⟨a, us, r1, cell, lu, hu'⟩ := Reach.split r e2
            refine ⟨Z, ρ, Fs, d, js0, _, v, .ref a, ok, h1, e1, e2, hs, r1, fun H' Z' ex => ?_⟩
            refine tP_bind (ok.ext ex) (fun q' => by rw [ef] at q'; cases q') (fun kd ek vk H2 Z2 Fk rk => ?_) (fun x q' => by rw [ef] at q'; cases q')
            rw [ef] at ek
            cases ek
            have ex2 := ex.trans rk.ext
            have fin := q H2 Z2 ex2
            cases kk with
            | tup =>
              unfold stepP at e3
              dsimp only at e3
              split at e3
              · rename_i z
                obtain ⟨rfl, _⟩ := rk.rep
                exact .inl (.inr (.inl ⟨a, us, _, v0, rfl, rfl, ex2.gr.sqT cell, by unfold atI; rw [lu, e3]; exact hu', fin⟩))
              · cases e3
            | lst fl =>
              unfold stepP at e3
              dsimp only at e3
              split at e3
              · rename_i z
                obtain ⟨rfl, _⟩ := rk.rep
                exact .inl (.inl ⟨a, us, _, v0, rfl, rfl, rdL (ex2.gr.rd cell.2.1), by unfold atI; rw [lu, e3]; exact hu', fin⟩)
              · cases e3
            | dct fl ks =>
              unfold stepP at e3
              dsimp only at e3
              cases ek : keyD key with
              | none => rw [ek] at e3; cases e3
              | some k =>
                rw [ek] at e3
                dsimp only [Option.bind_some] at e3
                have ekk := key_ok rk.rep ek
                subst ekk
                obtain ⟨w, w1, w2⟩ := look_idx e3 cell.2.2.1
                rw [hu'] at w1
                cases w1
                have g := DGet.rk (k := k) (ex2.gr.rd cell.2.1)
                rw [look_valV cell.2.2.1, w2] at g
                exact .inr ⟨a, v0, rfl, g, fin⟩
            | obj fl c fs => cases e3
            | exc fl c fs => cases e3
          | non => cases e3
          | bl b => cases e3
          | int b => cases e3
          | str b => cases e3
end

/-! ### a dict is locked while it is read -/
def keyDat : Key → D
  | .inl i => .int i
  | .inr s => .str s
theorem rep_key {K : PySem.W.Frag} {cm : Cm} {H : Hp} {Z : Zn} (k : Key) : Rep K cm H Z (keyDat k) (kV k) [] := by
  cases k <;> exact ⟨rfl, rfl⟩
section
variable {K : PySem.W.Frag} {cm : Cm} {H : Hp} {Z : Zn} {a : Addr} {kvs : List (Key × V)} {od : Obj}
theorem rd_lock (e : H a = some (.dK kvs)) {b : Addr} {u : HO} (h : Rd H b u) : Rd (L2.upd H a (.frz od (.dK kvs))) b u := by
  by_cases q : b = a
  · subst q
    rcases h with h | ⟨o, h⟩
    · rw [e] at h; cases h
      exact .inr ⟨od, upd_same⟩
    · rw [e] at h; cases h
  · rcases h with h | ⟨o, h⟩
    · exact .inl (by rw [upd_ne q]; exact h)
    · exact .inr ⟨o, by rw [upd_ne q]; exact h⟩
theorem rd_unlock (e : H a = some (.frz od (.dK kvs))) {b : Addr} {u : HO} (h : Rd H b u) (n : ∀ o v, u ≠ .frz o v) : Rd (L2.upd H a (.dK kvs)) b u := by
  by_cases q : b = a
  · subst q
    rcases h with h | ⟨o, h⟩
    · rw [e] at h; cases h
      exact absurd rfl (n _ _)
    · rw [e] at h; cases h
      exact .inl upd_same
  · rcases h with h | ⟨o, h⟩
    · exact .inl (by rw [upd_ne q]; exact h)
    · exact .inr ⟨o, by rw [upd_ne q]; exact h⟩
theorem cell_lock (e : H a = some (.dK kvs)) : CellMove K cm H (L2.upd H a (.frz od (.dK kvs))) Z Z id (fun _ => False) := fun b k vs h ho => by
  have ne : ∀ u, H b = some u → (∀ kvs, u ≠ .dK kvs) → b ≠ a := fun u hu n q => by subst q; rw [e] at hu; cases hu; exact n _ rfl
  cases k with
  | tup => exact h.imp (rd_lock e) id
  | lst fl => exact ⟨fun q => (ho (by subst q; rfl)).elim, rd_lock e h.2.1, h.2.2⟩
  | dct fl ks => exact ⟨fun q => (ho (by subst q; rfl)).elim, rd_lock e h.2.1, h.2.2⟩
  | obj fl c fs =>
    obtain ⟨⟨dx, e2⟩, l, o⟩ := h
    exact ⟨⟨dx, by rw [upd_ne (ne _ e2 fun _ q => nomatch q)]; exact e2⟩, l, o⟩
  | exc fl c fs =>
    obtain ⟨⟨dx, e2, q⟩, l, o⟩ := h
    refine ⟨⟨dx, by rw [upd_ne (ne _ e2 fun _ q => nomatch q)]; exact e2, ?_⟩, l, o⟩
    cases dx with
    | none => exact q
    | some d =>
      have q : H d = some (.xd (fs.zip vs)) := q
      have nd : d ≠ a := fun z => by subst z; rw [e] at q; cases q
      exact (upd_ne nd).trans q
theorem cell_unlock (e : H a = some (.frz od (.dK kvs))) : CellMove K cm H (L2.upd H a (.dK kvs)) Z Z id (fun _ => True) := fun b k vs h _ => by
  have ne : ∀ u, H b = some u → (∀ o v, u ≠ .frz o v) → b ≠ a := fun u hu n q => by subst q; rw [e] at hu; cases hu; exact n _ _ rfl
  have ex : ∀ u, H b = some u → (∀ o v, u ≠ .frz o v) → L2.upd H a (.dK kvs) b = some u := fun u hu n => by rw [upd_ne (ne u hu n)]; exact hu
  cases k with
  | tup => exact h.imp (fun q => rd_unlock e q fun _ _ z => nomatch z) id
  | lst fl => exact ⟨fun q => ex _ (h.1 q) (fun _ _ z => nomatch z), rd_unlock e h.2.1 fun _ _ z => (nomatch z), h.2.2⟩
  | dct fl ks => exact ⟨fun q => ex _ (h.1 q) (fun _ _ z => nomatch z), rd_unlock e h.2.1 fun _ _ z => (nomatch z), h.2.2⟩
  | obj fl c fs =>
    obtain ⟨⟨dx, e2⟩, l, o⟩ := h
    exact ⟨⟨dx, ex _ e2 (fun _ _ z => nomatch z)⟩, l, o⟩
  | exc fl c fs =>
    obtain ⟨⟨dx, e2, q⟩, l, o⟩ := h
    refine ⟨⟨dx, ex _ e2 fun _ _ z => (nomatch z), ?_⟩, l, o⟩
    cases dx with
    | none => exact q
    | some d =>
      have q : H d = some (.xd (fs.zip vs)) := q
      have nd : d ≠ a := fun z => by subst z; rw [e] at q; cases q
      exact (upd_ne nd).trans q
mutual
theorem allF_true : ∀ d : D, allF (fun _ => true) d = true
  | .non => rfl
  | .bl _ => rfl
  | .int _ => rfl
  | .str _ => rfl
  | .nd k ds => by
    unfold allF
    rw [allFL_true ds]
    cases k <;> rfl
theorem allFL_true : ∀ ds : List D, allFL (fun _ => true) ds = true
  | [] => rfl
  | d :: ds => by unfold allFL; rw [allF_true d, allFL_true ds]; rfl
end
theorem Reach.moveN {H' : Hp} {Z' : Zn} (m : CellMove K cm H H' Z Z' id (fun _ => False)) : ∀ (js : List Nat) {d : D} {v v0 : V}, allF (fun f => f != .own) d = true → Reach K cm H Z d v js v0 → Reach K cm H' Z' d v js v0
  | [], d, v, v0, _, h => by cases d <;> exact h
  | j :: js, d, v, v0, ha, h => by
    cases d with
    | nd k ds =>
      obtain ⟨a, vs, vj, dj, rfl, c, el, e1, e2, r⟩ := h
      unfold allF at ha
      rw [Bool.and_eq_true, allFL_eq] at ha
      have no : k.isOwn = true → False := fun q => by
        have h1 := ha.1
        cases k with
        | tup => cases q
        | lst f => cases f <;> first | exact absurd (show false = true from h1) Bool.false_ne_true | exact absurd (show false = true from q) Bool.false_ne_true
        | dct f ks => cases f <;> first | exact absurd (show false = true from h1) Bool.false_ne_true | exact absurd (show false = true from q) Bool.false_ne_true
        | obj f c fs => cases f <;> first | exact absurd (show false = true from h1) Bool.false_ne_true | exact absurd (show false = true from q) Bool.false_ne_true
        | exc f c fs => cases f <;> first | exact absurd (show false = true from h1) Bool.false_ne_true | exact absurd (show false = true from q) Bool.false_ne_true
      have cc := m a k vs c no
      rw [Kd.mapF_id] at cc
      exact ⟨a, vs, vj, dj, rfl, cc, el, e1, e2, Reach.moveN m js (List.all_eq_true.mp ha.2 dj (List.mem_of_getElem? e1)) r⟩
    | _ => exact h.elim
def tmpE (ρ : En) : En := ρ.map (Option.map (mapF Fl.toTmp))
theorem OkP.tmp {σ : L2.St} {ρ : En} {Fs : List (List Addr)} (ok : OkP K cm H σ ρ Fs Z) : OkP K cm H σ (tmpE ρ) (Fs.map fun _ => []) Z := by
  refine ⟨⟨by unfold tmpE; rw [List.length_map]; exact ok.rep.lσ, by unfold tmpE; rw [List.length_map, List.length_map]; exact ok.rep.lF, fun i d h => ?_⟩, ok.dom, fun a h => by rw [flat_map_nil] at h; cases h⟩
  unfold tmpE at h
  rw [List.getElem?_map] at h
  cases e : ρ[i]? with
  | none => rw [e] at h; cases h
  | some o =>
    rw [e] at h
    cases o with
    | none => cases h
    | some d0 =>
      cases h
      obtain ⟨v, hv, r⟩ := ok.lent (i := i) (d := d0) (by unfold getV; rw [e]; rfl)
      obtain ⟨v', F, _, hF, _⟩ := ok.rep.get i d0 e
      exact ⟨v, [], hv, by rw [List.getElem?_map, hF]; rfl, r⟩
theorem OkP.locked {σ : L2.St} {ρ : En} {Fs : List (List Addr)} (ok : OkP K cm H σ ρ Fs Z) (e : H a = some (.dK kvs)) (nil : Fs.flatten = []) : OkP K cm (L2.upd H a (.frz od (.dK kvs))) σ ρ Fs Z := by
  refine ⟨⟨ok.rep.lσ, ok.rep.lF, fun i d h => ?_⟩, ⟨fun x h => ?_, fun x h => ?_, fun x h => ?_⟩, ok.tm⟩
  · obtain ⟨v, F, e1, e2, r⟩ := ok.rep.get i d h
    have : F = [] := by
      cases F with
      | nil => rfl
      | cons x F => exact absurd (flat_mem e2 (List.mem_cons_self (a := x) (l := F))) (by rw [nil]; simp)
    subst this
    exact ⟨v, [], e1, e2, r.stay (cell_lock e) fun _ h => nomatch h⟩
  all_goals
    by_cases q : x = a
    · subst q; rw [upd_same]; simp
    · rw [upd_ne q]
      first
        | exact ok.dom.f x h
        | exact ok.dom.b x h
        | exact ok.dom.t x h
theorem walk_keys {ks : List Key} {vs : List V} {O : List Addr} (e : H a = some (.frz od (.dK (ks.zip vs)))) (l : ks.length = vs.length) (n : a ∉ O) : Walks K cm (Itk a od (ks.zip vs)) H O Z (ks.map keyDat) where
  go := fun i H2 k h => ⟨k _ _ e n, by rw [List.length_zip]; rw [List.length_map] at h; omega⟩
  stop := fun i H2 k h => ⟨k _ _ e n, by rw [List.length_zip]; rw [List.length_map] at h; omega⟩
  yld := fun i H2 x H3 k h d hd => by
    obtain ⟨rfl, kk, v, hk, rfl⟩ := h
    rw [List.getElem?_map] at hd
    have : ks[i]? = some kk := by
      rw [List.getElem?_zip_eq_some] at hk
      exact hk.1
    rw [this] at hd
    cases hd
    exact ⟨.refl _, rep_key kk⟩
end
def eCompK (i : Nat) (π : Pi') (tg : D → En → Option En) (c : En → Ot Bool) (f : En → Ot D) (vs : List Nat) : En → Ot D := fun ρ => match subD (tmpE ρ) i π with
  | some (_, _, .nd (.dct _ ks) _) => (match compL tg c f (wipeE (tmpE ρ) vs) (ks.map keyDat) with
    | some ys => if ys.length ≤ sizeLine then .ok (.nd (.lst .own) ys) else .no
    | none => .no)
  | _ => .no
theorem compK_end {K : PySem.W.Frag} {cm : Cm} {W : WX} {i : Nat} {π : Pi'} {tg : D → En → Option En} {g : TG} {S : List Nat} {c : En → Ot Bool} {tt : TT} {f : En → Ot D} {vs : List Nat} (hg : OkTg K cm S g tg) (hS : ∀ i ∈ S, i ∈ vs) (hT : ∀ σ H Q, tPT K cm W0 c σ H Q → tt σ H Q)
    {σ : L2.St} {H : Hp} {Q : VK} (q0 : tP K cm W (eCompK i π tg c f vs) σ H Q) : tLockE (tLc (iKeys (tPthP K cm i π)) g tt (tP K cm W0 f) vs) σ H Q ∨ tLc (iKeys (tPthP K cm i π)) g tt (tP K cm W0 f) vs σ H Q := by
  obtain ⟨Z, ρ, Fs, ok, q0⟩ := q0
  unfold eCompK at q0
  split at q0
  rotate_left
  · exact q0.elim
  rename_i d js fl ks es hp
  split at q0
  rotate_left
  · exact q0.elim
  rename_i all hc
  split at q0
  rotate_left
  · exact q0.elim
  rename_i hz
  obtain ⟨h1, h2, h3⟩ := subD_eq hp
  have okt := ok.tmp
  obtain ⟨v, F, hv, hF, rv⟩ := okt.rep.get i d h1
  obtain ⟨v0, F0, A, B, eF, r0, rc, _⟩ := Rep.focus js rv h3
  obtain ⟨a, us, Es, rfl, cell, _, _⟩ := r0
  have hl := cell.2.2.1
  have nil := flat_map_nil (Fs)
  -- the run, the dict locked
  have run : ∀ (Hl : Hp) (od : Obj) (Q' : VK), Hl a = some (.frz od (.dK (ks.zip us))) → OkP K cm Hl σ (tmpE ρ) (Fs.map fun _ => []) Z → Reach K cm Hl Z d v js (.ref a) → (∀ H2 Z2 (F : V × List Addr), Res K cm Hl Z H2 Z2 [] (.nd (.lst .own) all) F.1 F.2 → Q' F.1 H2) → tLc (iKeys (tPthP K cm i π)) g tt (tP K cm W0 f) vs σ Hl Q' := fun Hl od Q' el okl rl fin => by
    refine ⟨Z, tmpE ρ, _, d, js, _, v, .ref a, okl, h1, h2, h3, hv, rl, fun H' Z' ex => ⟨a, od, rfl, .inl ⟨ks.zip us, ex.gr _ _ el, fun D0 hD => ?_⟩⟩⟩
    exact comp_core hg hS hT (okl.ext ex) (walk_keys (ex.gr _ _ el) hl (fun h => nomatch h)) hc hz hD fun H2 Z2 F r => fin H2 Z2 (.ref D0, F) (r.trans0 ex)
  rcases cell.2.1 with e | ⟨od, e⟩
  · refine .inl ⟨a, _, e, trivial, fun od => ?_⟩
    have e' : L2.upd H a (.frz od (.dK (ks.zip us))) a = some (.frz od (.dK (ks.zip us))) := upd_same
    have hd : allF (fun f => f != .own) d = true := by
      unfold tmpE at h1
      rw [List.getElem?_map] at h1
      cases e1 : ρ[i]? with
      | none => rw [e1] at h1; cases h1
      | some o =>
        rw [e1] at h1
        cases o with
        | none => cases h1
        | some d0 =>
          cases h1
          exact allF_mapF (p := fun _ => true) (fun f _ => by cases f <;> rfl) d0 (allF_true d0)
    exact run _ od _ e' (okt.locked e nil) (Reach.moveN (cell_lock e) js hd rc) fun H2 Z2 F r => by
      have e2 : H2 a = some (.frz od (.dK (ks.zip us))) := r.ext.gr _ _ e'
      refine ⟨e2, q0 F.1 _ Z2 F.2 ⟨⟨fun x o h => ?_, r.ext.f, fun x h => ?_, fun x h => ?_, r.ext.b, r.ext.t⟩, r.rep.stay (cell_unlock e2) (fun _ _ => trivial), r.nd, fun x h => ?_, r.nf⟩⟩
      · by_cases q : x = a
        · subst q
          rw [e] at h; cases h
          exact upd_same
        · rw [upd_ne q]
          exact r.ext.gr _ _ (by rw [upd_ne q]; exact h)
      · rcases r.ext.fn x h with z | z
        · exact .inl z
        · by_cases q : x = a
          · subst q; rw [upd_same] at z; cases z
          · rw [upd_ne q] at z; exact .inr z
      · by_cases q : x = a
        · subst q; rw [upd_same]; simp
        · rw [upd_ne q]; exact r.ext.fd x h
      · have z := r.new x h
        by_cases q : x = a
        · subst q; rw [upd_same] at z; cases z
        · rw [upd_ne q] at z; exact .inl z
  · exact .inr (run H od Q e okt rc fun H2 Z2 F r => q0 F.1 H2 Z2 F.2 r)
section
variable {X : Cx} {cm : Cm} {W : WX} {i : Nat} {π : Pi'}
variable {elt tgx iter : Expr} {ifs : List Expr} {scope : Scope} {own : List (Str × Nat)} {pos : Pos} {tg : D → En → Option En} {g : TG} {S : List Nat} {c : En → Ot Bool} {tt : TT} {f : En → Ot D} {t : Expr}
/-- [elt for target in a dict if ..] -/
theorem s_compK (hc : X.calm = true) (hN : X.N.Nodup) (hi : SPP X cm iter i π) (ok : BlkOk X.N X.env.scope scope own) (hS : (S.all fun i => (own.map (·.2)).contains i) = true) (hgo : OkTg X.K cm S g tg)
    (hg : ∀ (s : Shared) (H : Hp) (C : Addr) (cl : List (Str × Addr)) (fp : List Addr), PG (X.blk s H scope (compEnvC scope cl C X.env) fp) tgx g) (ht : ∀ (s : Shared) (H : Hp) (C : Addr) (cl : List (Str × Addr)) (fp : List Addr), PTs (X.blk s H scope (compEnvC scope cl C X.env) fp) ifs tt)
    (hT : ∀ σ H Q, tPT X.K cm W0 c σ H Q → tt σ H Q)
    (he : ∀ (s : Shared) (H : Hp) (C : Addr) (cl : List (Str × Addr)) (fp : List Addr), SE (X.blk s H scope (compEnvC scope cl C X.env) fp) cm W0 elt f) (hs : ∀ x, foldedSetIterable iter X.env x = pure x := by intro _; rfl) :
    SE X cm W (.ListComp elt [⟨tgx, iter, ifs, 0⟩] scope pos) (eCompK i π tg c f (own.map (·.2))) :=
  PE.imp (PE.or (pe_lock (pe_lc hc hN (pi_keys hi) ok hg ht he hs)) (pe_lc hc hN (pi_keys hi) ok hg ht he hs)) fun σ H Q q0 => compK_end hgo (fun i hi => by
    have := List.all_eq_true.mp hS i hi
    simpa using this) hT q0
end

/-! ### list(d), dict(d), dict(pairs) -/
def pListD : List D → Option D
  | [.nd (.dct _ ks) _] => some (.nd (.lst .own) (ks.map keyDat))
  | _ => none
def pDictD : List D → Option D
  | [.nd (.dct _ ks) ds] => some (.nd (.dct .own ks) ds)
  | _ => none
def pairsD : List D → Option (List Key × List D)
  | [] => some ([], [])
  | .nd .tup [k, d] :: ds => (keyD k).bind fun q => (pairsD ds).map fun p => (q :: p.1, d :: p.2)
  | _ => none
def pDictP : List D → Option D
  | [.nd (.lst _) es] => (pairsD es).bind fun p => if p.1.Nodup then some (.nd (.dct .own p.1) p.2) else none
  | _ => none
theorem mergeK_app {α : Type} : ∀ {kvs acc : List (Key × V)}, (acc.map (·.1) ++ kvs.map (·.1)).Nodup → mergeK acc kvs = acc ++ kvs
  | [], acc, _ => by simp [mergeK]
  | kv :: kvs, acc, nd => by
    have nin : (acc.any fun p => decide (p.1 = kv.1)) = false := by
      rw [List.any_eq_false]
      intro p hp q
      have q := of_decide_eq_true q
      rw [List.map_cons] at nd
      have := (List.nodup_append.mp nd).2.2 p.1 (List.mem_map.mpr ⟨p, hp, rfl⟩) kv.1 (by simp)
      exact this q
    have e : putK acc kv.1 kv.2 = acc ++ [kv] := by
      unfold putK
      rw [if_neg (by rw [nin]; decide)]
    have : mergeK acc (kv :: kvs) = mergeK (putK acc kv.1 kv.2) kvs := rfl
    rw [this, e, mergeK_app (α := α) (by simpa using nd)]
    simp
theorem mergeK_nil {ks : List Key} {us : List V} (nd : ks.Nodup) (l : ks.length = us.length) : mergeK [] (ks.zip us) = ks.zip us := by
  have := mergeK_app (α := Nat) (kvs := ks.zip us) (acc := []) (by
    rw [List.map_nil, List.nil_append, List.map_fst_zip (by omega)]
    exact nd)
  simpa using this
section
variable {K : PySem.W.Frag} {cm : Cm}
theorem ok_listD : OkPr K cm (fun xs H Q => ∃ (a : Addr) (kvs : List (Key × V)), xs = [.ref a] ∧ Rd H a (.dK kvs) ∧ ∀ p, H p = none → Q (.ref p) (L2.upd H p (.lst (kvs.map fun kv => kV kv.1)))) pListD := fun H Z ds vs Fs d dm rl nd nf h Q q => by
  unfold pListD at h
  split at h
  · rename_i fl ks es
    cases h
    obtain ⟨v, F, rfl, rfl, a, us, Es, rfl, c, l, rfl⟩ := repL1 rl
    refine ⟨a, _, rfl, c.2.1, fun p hp => ?_⟩
    have e : (ks.zip us).map (fun kv => kV kv.1) = ks.map kV := by
      have : (ks.zip us).map (·.1) = ks := List.map_fst_zip (by have := c.2.2.1; omega)
      conv => rhs; rw [← this]
      rw [List.map_map]; rfl
    rw [e]
    have rk : RepL K cm H Z (ks.map keyDat) (ks.map kV) (List.replicate ks.length []) := repL_mk (g := keyDat) (g' := kV) (fun k => rep_key k) ks
    have fl0 : (List.replicate ks.length ([] : List Addr)).flatten = [] := flatten_nils _
    exact q _ _ Z _ (.newL dm rk (by rw [fl0]; exact List.nodup_nil) (fun a h => by rw [fl0] at h; cases h) (fun a h => by rw [fl0] at h; cases h) hp)
  · cases h
theorem Res.newD {H : Hp} {Z : Zn} {A : List Addr} {ks : List Key} {ds : List D} {vs : List V} {Fs : List (List Addr)} {p : Addr} (dm : Dom H Z) (rl : RepL K cm H Z ds vs Fs) (hl : ks.length = vs.length) (nd : Fs.flatten.Nodup) (sub : ∀ a ∈ Fs.flatten, H a = none ∨ a ∈ A) (nf : ∀ a ∈ Fs.flatten, ¬ Z.f a)
    (hp : H p = none) : Res K cm H Z (L2.upd H p (.dK (ks.zip vs))) Z A (.nd (.dct .own ks) ds) (.ref p) (ownA (.dct .own ks) p ++ Fs.flatten) :=
  .newNd dm rl nd sub nf hp ⟨fun _ => upd_same, .inl upd_same, hl, trivial⟩
theorem ok_dictD : OkPr K cm (fun xs H Q => ∃ (a : Addr) (kvs : List (Key × V)), xs = [.ref a] ∧ Rd H a (.dK kvs) ∧ ∀ p, H p = none → Q (.ref p) (L2.upd H p (.dK kvs))) pDictD := fun H Z ds vs Fs d dm rl nd nf h Q q => by
  unfold pDictD at h
  split at h
  · rename_i fl ks es
    cases h
    obtain ⟨v, F, rfl, rfl, a, us, Es, rfl, c, l, rfl⟩ := repL1 rl
    have nd : (ownA (.dct fl ks) a ++ Es.flatten).Nodup := by simpa using nd
    refine ⟨a, _, rfl, c.2.1, fun p hp => q _ _ Z _ (.newD dm l c.2.2.1 (List.nodup_append.mp nd).2.1 (fun x hx => .inr (by simp [hx])) (fun x hx => nf x (by simp [hx])) hp)⟩
  · cases h
theorem pairs_rep {H : Hp} {Z : Zn} : ∀ {es : List D} {us : List V} {Es : List (List Addr)} {ks : List Key} {ds : List D}, RepL K cm H Z es us Es → pairsD es = some (ks, ds) → ∃ (ps : List Addr) (vs : List V) (Fs : List (List Addr)), us = ps.map V.ref ∧ RepL K cm H Z ds vs Fs ∧ ks.length = vs.length ∧
    Paired (fun p kv => SqT K H p [kV kv.1, kv.2]) ps (ks.zip vs) ∧ Fs.flatten.Sublist Es.flatten
  | [], _, _, _, _, h, e => by
    obtain ⟨rfl, rfl⟩ := h
    cases e
    exact ⟨[], [], [], rfl, repL_nil, rfl, .nil, List.Sublist.refl _⟩
  | d :: es, _, _, ks, ds, h, e => by
    obtain ⟨v, us, F, Es, rfl, rfl, h1, h2⟩ := h
    unfold pairsD at e
    split at e
    · rename_i heq; cases heq
    · rename_i k d' es' heq
      cases heq
      cases ek : keyD k with
      | none => rw [ek] at e; cases e
      | some q =>
        rw [ek, Option.bind_some] at e
        cases ep : pairsD es with
        | none => rw [ep] at e; cases e
        | some p =>
          rw [ep] at e
          cases e
          obtain ⟨ps, vs, Fs, rfl, r, l, pr, sb⟩ := pairs_rep h2 ep
          obtain ⟨a, ws, Ws, rfl, c, lw, rfl⟩ := h1
          obtain ⟨x, y, G, M, rfl, rfl, rx, ry⟩ := repL2 lw
          have ex := key_ok rx ek
          subst ex
          refine ⟨a :: ps, y :: vs, M :: Fs, rfl, repL_cons ry r, by simp [l], .cons c pr, ?_⟩
          simp only [List.flatten_cons, List.flatten_nil, List.append_nil, ownA, Kd.isOwn, Kd.fl]
          exact List.Sublist.append ((List.sublist_append_right G M).trans (List.sublist_append_right _ _)) sb
    · cases e
theorem ok_dictP : OkPr K cm (fun xs H Q => ∃ (a : Addr) (ps : List Addr) (kvs : List (Key × V)), xs = [.ref a] ∧ SqL K H a (ps.map V.ref) ∧ Paired (fun p kv => SqT K H p [kV kv.1, kv.2]) ps kvs ∧ ∀ p, H p = none → Q (.ref p) (L2.upd H p (.dK (mergeK [] kvs)))) pDictP := fun H Z ds vs Fs d dm rl nd nf h Q q => by
  unfold pDictP at h
  split at h
  · rename_i fl es
    cases ep : pairsD es with
    | none => rw [ep] at h; cases h
    | some p =>
      obtain ⟨ks, ds⟩ := p
      rw [ep, Option.bind_some] at h
      split at h
      · rename_i hn
        cases h
        obtain ⟨v, F, rfl, rfl, a, us, Es, rfl, c, l, rfl⟩ := repL1 rl
        obtain ⟨ps, vs, Gs, rfl, r, hl, pr, sb⟩ := pairs_rep l ep
        have nd : (ownA (.lst fl) a ++ Es.flatten).Nodup := by simpa using nd
        refine ⟨a, ps, _, rfl, rdL c.2.1, pr, fun p hp => ?_⟩
        rw [mergeK_nil hn hl]
        exact q _ _ Z _ (.newD dm r hl ((List.nodup_append.mp nd).2.1.sublist sb) (fun x hx => .inr (by simp [sb.subset hx])) (fun x hx => nf x (by simp [sb.subset hx])) hp)
      · cases h
  · cases h
end
end OB

namespace OB
open PySem PySem.Spec PyProof.Rows L2
def stepS (σ : List Str) (v : Str) : List Str := if σ.any (· == v) then σ else σ ++ [v]
def metS (val : Nat → Str) (i : Nat) : List Str := ((List.range i).map val).foldl stepS []
theorem metS_succ (val : Nat → Str) (i : Nat) : metS val (i + 1) = stepS (metS val i) (val i) := by
  unfold metS
  rw [List.range_succ, List.map_append, List.foldl_append]
  rfl
theorem metS_le (val : Nat → Str) : ∀ i, (metS val i).length ≤ i
  | 0 => Nat.le_refl _
  | i + 1 => by
    rw [metS_succ]
    unfold stepS
    have ih := metS_le val i
    split
    · omega
    · rw [List.length_append, List.length_singleton]; omega
theorem stepS_any (σ : List Str) (v k : Str) : (stepS σ v).any (· == k) = (σ.any (· == k) || decide (k = v)) := by
  unfold stepS
  by_cases h : σ.any (· == v) = true
  · rw [if_pos h]
    by_cases e : k = v
    · subst e; rw [h]; rfl
    · simp [e]
  · rw [if_neg h, List.any_append]
    by_cases e : k = v
    · subst e; simp
    · have hb : (v == k) = false := by simpa using fun z : v = k => e z.symm
      simp [hb, e]
theorem stepS_len (σ : List Str) (v : Str) : (stepS σ v).length = if σ.any (· == v) then σ.length else σ.length + 1 := by
  unfold stepS
  split <;> simp
section
variable {prog : Program} {w : World} {A : Around} {R : Result → Shared → Prop} {I : Addr} {fp wr : List Addr} {G : Array GenState → Array GenState → Prop} {n : Nat} {P : Nat → Value → Prop} {St : Nat → Shared → Prop}
theorem setUp_str (W : WalksS prog w A.in1 I fp wr G n P St) (S : Addr) (hSf : S ∉ fp) (val : Nat → Str) (hval : ∀ i v, P i v → ∃ t, v = .str (val i) t) (hb : n + 1 < scanBound) :
    ∀ (k i : Nat) (s : Shared), n - i = k → i ≤ n → St i s → s.heap.SetOf (strKind prog w) S (fun q => (metS val i).any (· == q)) (metS val i).length →
      (∀ s', Moved (S :: wr) G s s' → s'.heap.SetOf (strKind prog w) S (fun q => (metS val n).any (· == q)) (metS val n).length → R (.ok (.ret .none)) s') →
      codeAny (model prog w) A (.builtin "set.update.loop" ⟨[.ref S, .ref I], []⟩) R s
  | 0, i, s, hk, hi, hst, hS, hR => by
    have hin : i = n := by omega
    subst hin
    refine codeAny_builtin F.entry_set_update_loop ?_
    rw [Around.under_plainId F.plain_set_update_loop _]
    show wpAny _ A.in1 (pyNext (.ref I) >>= _) _ _ s
    refine wpAny_bind (W.done s _ _ hst fun s' hm => ?_)
    show wpAny _ A.in1 (ret Value.none) _ _ s'
    obtain ⟨o, es, ep, t, ho, rest⟩ := hS
    exact wpAny_pure (hR s' (hm.mono fun b hb => List.mem_cons_of_mem _ hb) ⟨o, es, ep, t, hm.heap S _ (fun h => hSf (W.sub _ h)) ho, rest⟩)
  | k + 1, i, s, hk, hi, hst, hS, hR => by
    have hlt : i < n := by omega
    have hsub : ∀ b ∈ wr, b ∈ S :: wr := fun b hb => List.mem_cons_of_mem _ hb
    refine codeAny_builtin F.entry_set_update_loop ?_
    rw [Around.under_plainId F.plain_set_update_loop _]
    show wpAny _ A.in1 (pyNext (.ref I) >>= _) _ _ s
    refine wpAny_bind (W.item i s _ _ hlt hst fun v s' hP hst' hm => ?_)
    obtain ⟨t, rfl⟩ := hval i v hP
    obtain ⟨o, es, ep, tb, ho, rest⟩ := hS
    have hS' : s'.heap.SetOf (strKind prog w) S (fun q => (metS val i).any (· == q)) (metS val i).length := ⟨o, es, ep, tb, hm.heap S _ (fun h => hSf (W.sub _ h)) ho, rest⟩
    show wpAny _ A.in1 (holding [Value.str (val i) t] (setAdd S (.str (val i) t)) >>= _) _ _ s'
    refine wpAny_bind (wpAny_holding ?_)
    unfold setAdd
    refine wpAny_holding (wpAny_bind ((strKind prog w).pyHash (k := val i) (strKind_is _ _ _ _) ?_))
    have hroom : (metS val i).length + 1 < scanBound := by have := metS_le val i; omega
    refine wpAny_setAddHashed_of (knd := strKind prog w) (s := { s' with toks := s'.toks + 1 }) (strKind_is _ _ _ _) rfl hS' hroom fun h' hsb hS2 => ?_
    have hSi : h'.SetOf (strKind prog w) S (fun q => (metS val (i + 1)).any (· == q)) (metS val (i + 1)).length :=
      PyProof.Rows.SetOf_congr hS2 (fun q => by rw [metS_succ, stepS_any]) (by rw [metS_succ, stepS_len])
    refine wpAny_pure ⟨plainId_quiet F.plain_set_update_loop _, setUp_str W S hSf val hval hb k (i + 1) _ (by omega) hlt (W.frame _ s' _ _ hst' (Nat.le_succ _) fun b hb o e => ?_) hSi fun s'' hm'' hS'' => ?_⟩
    · rw [hsb.2 b (fun h : b = S => hSf (by rw [← h]; exact hb))]; exact e
    · refine hR s'' (Moved.trans W.gtrans ((hm.mono hsub).then_heap (Nat.le_succ _) fun b o hb e => ?_) hm'') hS''
      rw [hsb.2 b (fun h : b = S => hb (by rw [h]; exact List.mem_cons_self))]; exact e
end
section
variable {prog : Program} {w : World} {A : Around} {E : Value → Shared → Prop} {s : Shared}
set_option maxHeartbeats 8000000 in
theorem call_setS {l : Addr} {items : Array Value} {val : Nat → Str} {Q : Value → Shared → Prop} (hh : A.handled = none) (hl : s.heap.IsList l items) (hi : ∀ (i : Nat) (v : Value), items[i]? = some v → ∃ t, v = .str (val i) t) (hb : items.size + 1 < scanBound)
    (h : ∀ (h' : Heap) (tk : Nat), h'.SetOf (strKind prog w) s.heap.objs.size (fun q => (metS val items.size).any (· == q)) (metS val items.size).length →
      (∀ b o, s.heap.get? b = some o → h'.get? b = some o) → Q (.ref s.heap.objs.size) { s with heap := h', toks := tk }) :
    wpAny (model prog w) A (call (.type "set") [.ref l]) Q E s := by
  obtain ⟨c, tl, hmro⟩ := F.called_set.mro
  have hmade := F.called_set.made
  have hsub := F.called_set.sub
  refine wpAny_call (codeAny_of_tree ?_)
  show wpAny _ _ (callAny (.type "set") _) _ _ _
  refine wpAny_pure ⟨Code.quiet_builtin _ (by decide +kernel), codeAny_builtin F.entry_type_call ?_⟩
  rw [Around.under_plain (weight_type_call_type "set" [.ref l] []) rfl]
  have h1 := F.called_set.notType
  have h2 := F.called_set.canCreate
  have hct := F.typeCall_set_1 (.ref l)
  repeat (any_goals (first | assumption | wp_step))
  refine codeAny_mono (code_set_new_1 (.ref l) (E := E) (Q₁ := fun obj s₁ => ∃ led : Bool, obj = .ref s.heap.objs.size ∧ s₁ = { s with heap := s.heap.push { cls := .type "set", dict := none, data := .set #[] 0 (.fresh 0 0 led) } }) fun led => ⟨led, rfl, rfl⟩) fun r s₁ hr => ?_
  match r, hr with
  | .error e, hr => exact hr
  | .ok .next, hr => exact hr.elim
  | .ok .brk, hr => exact hr.elim
  | .ok .cont, hr => exact hr.elim
  | .ok (.ret obj), hr =>
    obtain ⟨led, rfl, rfl⟩ := hr
    have hS : (s.heap.push { cls := .type "set", dict := none, data := .set #[] 0 (.fresh 0 0 led) }).get? s.heap.objs.size = some { cls := .type "set", dict := none, data := .set #[] 0 (.fresh 0 0 led) } := Heap.get?_push_size _ rfl
    have hT : Shared.TypeIs { s with heap := s.heap.push { cls := .type "set", dict := none, data := .set #[] 0 (.fresh 0 0 led) } } (.ref s.heap.objs.size) "set" := ⟨_, hS, rfl⟩
    have hli := F.called_set.init.lookup
    have hbi := F.called_set.init.bind (.ref s.heap.objs.size)
    repeat (any_goals (first | assumption | wp_step))
    refine codeAny_mono (codeAny_call_builtin (R := wants (fun r s₂ => r = .none ∧ ∃ h' tk, s₂ = { s with heap := h', toks := tk } ∧
        h'.SetOf (strKind prog w) s.heap.objs.size (fun q => (metS val items.size).any (· == q)) (metS val items.size).length ∧ (∀ b o, s.heap.get? b = some o → h'.get? b = some o)) E) F.called_set.init.plain F.entry_set_init (check_set_init_1 hT ?_)) fun r₂ s₂ hr₂ => ?_
    · obtain ⟨ol, hol, hcl, nl, hdl⟩ := hl
      obtain ⟨ocls, odict, odata, oslots⟩ := ol
      simp only at hcl hdl
      subst hcl; subst hdl
      have hol' : (s.heap.push { cls := .type "set", dict := none, data := .set #[] 0 (.fresh 0 0 led) }).get? l = some { cls := .type "list", dict := odict, data := .seq items nl, slots := oslots } := Heap.get?_push_of_some _ hol
      have hsls := F.sub_list_set
      have hslf := F.sub_list_frozenset
      have hne : (Value.type "list" == Value.type "dict") = false := by decide
      have hl1 : (s.heap.push { cls := .type "set", dict := none, data := .set #[] 0 (.fresh 0 0 led) }).IsList l items := ⟨_, hol', rfl, nl, rfl⟩
      unfold Builtin.«set.__init__» noKeywords Builtin.Frozenset.updateFrom
      generalize hPI : pyIter = PI
      wp_walk
      subst hPI
      refine wpAny_pyIter_list hl1 (wpAny_bind (wpAny_runValue ?_))
      have hlS : l < s.heap.objs.size := Heap.lt_size hol
      have hh3 : A.in1.in1.in1.handled = none := by simp [hh]
      have hneI : l ≠ (s.heap.push { cls := .type "set", dict := none, data := .set #[] 0 (.fresh 0 0 led) }).objs.size := by
        rw [Heap.size_push]; exact Nat.ne_of_lt (Nat.lt_succ_of_lt hlS)
      have hSf : s.heap.objs.size ∉ [(s.heap.push { cls := .type "set", dict := none, data := .set #[] 0 (.fresh 0 0 led) }).objs.size, l] := by
        rw [Heap.size_push]; simp only [List.mem_cons, List.mem_singleton, List.not_mem_nil, or_false, not_or]
        exact ⟨Nat.ne_of_lt (Nat.lt_succ_self _), Nat.ne_of_gt hlS⟩
      refine setUp_str ((Walks.list hh3 _ l hneI items).toS) s.heap.objs.size hSf val (fun i v hv => hi i v hv) hb (items.size - 0) 0 _ (by omega) (Nat.zero_le _)
        ⟨⟨_, Heap.get?_push_size _ rfl, rfl, rfl⟩, (hl1.push _)⟩ ?hS0 ?hR
      case hS0 =>
        have hget : ((s.heap.push { cls := .type "set", dict := none, data := .set #[] 0 (.fresh 0 0 led) }).push { cls := .type "list_iterator", data := .fields #[.ref l, .int 0 0] }).get? s.heap.objs.size
            = some { cls := .type "set", dict := none, data := .set #[] 0 (.fresh 0 0 led) } := Heap.get?_push_of_some _ hS
        exact PyProof.Rows.SetOf_congr ((PyProof.Rows.setObjOf_fresh (knd := strKind prog w) led).setOf hget (by unfold scanBound; omega)) (fun _ => rfl) rfl
      case hR =>
        intro s' hm hS'
        obtain ⟨h', g', d', tk', os'⟩ := s'
        have eg : g' = s.gens := hm.gens
        have ed : d' = s.drawn := hm.drawn
        have eo : os' = s.os := hm.os
        subst eg; subst ed; subst eo
        show wpAny _ _ _ _ _ _
        refine wpAny_pure ?_
        show wpAny _ _ (ret Value.none) _ _ _
        refine wpAny_pure ⟨rfl, h', tk', rfl, hS', fun b o e => ?_⟩
        have hb : b < s.heap.objs.size := Heap.lt_size e
        have hb2 : b ≠ (s.heap.push { cls := .type "set", dict := none, data := .set #[] 0 (.fresh 0 0 led) }).objs.size := by
          rw [Heap.size_push]; exact Nat.ne_of_lt (Nat.lt_succ_of_lt hb)
        exact hm.heap b o (by simp only [List.mem_cons, List.mem_singleton, List.not_mem_nil, or_false, not_or]; exact ⟨Nat.ne_of_lt hb, hb2⟩) (Heap.get?_push_of_some _ (Heap.get?_push_of_some _ e))
    · match r₂, hr₂ with
      | .error e, hr₂ => exact hr₂
      | .ok .next, hr₂ => exact hr₂.elim
      | .ok .brk, hr₂ => exact hr₂.elim
      | .ok .cont, hr₂ => exact hr₂.elim
      | .ok (.ret r), hr₂ =>
        obtain ⟨rfl, h', tk, rfl, hS', hk'⟩ := hr₂
        repeat (any_goals (first | assumption | wp_step))
        exact h _ _ hS' hk'
end
/-! ### len(set(e)) -/
def rLenSet (K : PySem.W.Frag) : V → Hp → VK → Prop := fun x H Q => ∃ p, ∃ ys : List Str, x = .ref p ∧ SqL K H p (ys.map V.str) ∧ ys.length + 1 < scanBound ∧ Q (.int ((ys.foldl stepS []).length : Nat)) H
theorem strs_at {ys : List Str} {us : List Value} (r : Vals (ys.map V.str) us) : ∀ (i : Nat) (v : Value), us[i]? = some v → ∃ t, v = .str (ys.getD i ⟨#[]⟩) t := by
  induction ys generalizing us with
  | nil => cases r; intro i v h; simp at h
  | cons y ys ih =>
    rw [List.map_cons] at r
    cases r with
    | cons h t =>
      intro i v e
      cases i with
      | zero =>
        simp only [List.getElem?_cons_zero, Option.some.injEq] at e
        subst e
        exact h
      | succ i =>
        simp only [List.getElem?_cons_succ] at e
        exact ih t i v e
theorem metS_all (ys : List Str) : metS (fun i => ys.getD i ⟨#[]⟩) ys.length = ys.foldl stepS [] := by
  unfold metS
  congr 1
  apply List.ext_getElem?
  intro i
  by_cases h : i < ys.length
  · simp [h]
  · simp [Nat.not_lt.mp h]
def pLenSet : List D → Option D
  | [.nd (.lst _) ds] => (strsD ds).bind fun ys => if ys.length + 1 < 4096 then some (.int ((ys.foldl stepS []).length : Nat)) else none
  | _ => none
theorem ok_lenSet {K : PySem.W.Frag} {cm : Cm} : OkPr K cm (r1L (rLenSet K)) pLenSet := fun H Z ds vs Fs d dm rl nd nf h Q q => by
  unfold pLenSet at h
  split at h
  · rename_i fl es
    cases e : strsD es with
    | none => rw [e] at h; cases h
    | some ys =>
      rw [e, Option.bind_some] at h
      split at h
      · rename_i hz
        cases h
        obtain ⟨v, F, rfl, rfl, a, us, Es, rfl, c, l, rfl⟩ := repL1 rl
        have := strsD_eq e
        subst this
        have := repL_strS l
        subst this
        exact ⟨_, rfl, a, ys, rfl, rdL c.2.1, (by unfold scanBound; exact hz), q _ H Z [] (.atom (.refl dm) rep_int)⟩
      · cases h
  · cases h
section
variable {X : Cx} {cm : Cm} {W : WX} {p p2 pos pos2 : Pos} {e : Expr} {f : En → Ot D} {te : TE}
theorem pe_lenSet (hc : X.calm = true) (hg : Gl X "len") (hm : X.mg "len" = none) (hg2 : Gl X "set") (hm2 : X.mg "set" = none) (he : PE X e te)
    (h1 : starEach [.Call (.Name "set" p2) [e] [] pos2] X.env = (false, eval (.Call (.Name "set" p2) [e] [] pos2) X.env) :: starEach [] X.env := by rfl) (h2 : starEach [e] X.env = (false, eval e X.env) :: starEach [] X.env := by rfl) :
    PE X (.Call (.Name "len" p) [.Call (.Name "set" p2) [e] [] pos2] [] pos) (fun σ H Q => te σ H fun x H1 => rLenSet X.K x H1 Q) := by
  refine ⟨fun pins s σ H Q I h => ?_⟩
  refine wpAny_Call_Name_kw (ld_blt I hg hm rfl ?_ (by decide) (by decide))
  refine PyProof.Rows.callWith_builtin1 ?_ h1 rfl
  rw [h1]
  refine Calls.spliced_cons (wpAny_Call_Name_kw (ld_blt I hg2 hm2 rfl ?_ (by decide) (by decide)))
  refine PyProof.Rows.callWith_type1 ?_ h2 rfl
  rw [h2]
  refine Calls.spliced_cons (thn (he.run pins s σ H _ I h) fun u s1 ⟨x, H1, I1, r1, a, ys, ex, hq, hz, q⟩ => Calls.spliced_nil ?_)
  subst ex
  obtain rfl : u = Value.ref a := r1
  obtain ⟨its, rv, pl, hsz⟩ := I1.list hq
  have hlen := rv.length
  have hn : its.length = ys.length := by rw [← hlen, List.length_map]
  refine call_setS (items := its.toArray) (val := fun i => ys.getD i ⟨#[]⟩) (I1.ok.hd hc) pl.isList (fun i v hv => strs_at rv i v (by simpa using hv)) (by simp only [List.size_toArray]; omega) fun h' tk hS hk => ?_
  refine Calls.spliced_nil ?_
  obtain ⟨o, es, ep, t, ho, hex, hd, hel, hmem, hb, hf, hn2⟩ := hS
  have I2 := I1.kept (h' := h') (t' := tk) hk
  have hfit : (es.size : Int) < 2 ^ 63 := by
    have h4 : es.size < scanBound := by omega
    unfold scanBound at h4
    omega
  refine call_len_set (o := o) (s := { s1 with heap := h', toks := tk }) ho hex hd hf hfit ?_
  have ev : ((es.size : Nat) : Int) = (((ys.foldl stepS []).length : Nat) : Int) := by
    rw [hn2, List.size_toArray, hn, metS_all]
  rw [ev]
  exact ⟨.int _, H1, (I2.tok _), ⟨_, rfl⟩, q⟩
theorem s_lenSet (hc : X.calm = true) (hg : Gl X "len") (hm : X.mg "len" = none) (hg2 : Gl X "set") (hm2 : X.mg "set" = none) (he : SE X cm W e f)
    (h1 : starEach [.Call (.Name "set" p2) [e] [] pos2] X.env = (false, eval (.Call (.Name "set" p2) [e] [] pos2) X.env) :: starEach [] X.env := by rfl) (h2 : starEach [e] X.env = (false, eval e X.env) :: starEach [] X.env := by rfl) :
    SE X cm W (.Call (.Name "len" p) [.Call (.Name "set" p2) [e] [] pos2] [] pos) (ePr pLenSet [f]) := PE.imp (pe_lenSet hc hg hm hg2 hm2 he h1 h2) fun σ H Q h => one_of (pr_end ok_lenSet h)
end
end OB

namespace OB
open PySem PySem.Spec PyProof.Rows L2
/-! ### {k: e, ..} -/
def eDisp (ks : List Key) (fs : List (En → Ot D)) : En → Ot D := fun ρ => (eL fs ρ).bind fun ds => if ks.length ≤ 15 ∧ ks.Nodup ∧ ks.length = fs.length then .ok (.nd (.dct .own ks) ds) else .no
def trsD (K : PySem.W.Frag) (cm : Cm) (W : WX) : List Key → List (En → Ot D) → List (TE × TE)
  | k :: ks, f :: fs => (tC (kV k), tP K cm W f) :: trsD K cm W ks fs
  | _, _ => []
theorem pairs_go {K : PySem.W.Frag} {cm : Cm} {W : WX} {σ : L2.St} {ρ : En} {Fs : List (List Addr)} : ∀ {ks : List Key} {fs : List (En → Ot D)} {H : Hp} {Z : Zn} {R : List (V × V) → Hp → Prop}, ks.length = fs.length → OkP K cm H σ ρ Fs Z → eL fs ρ ≠ .no →
    (∀ x, eL fs ρ = .ex x → ∀ cls dd H' Z', Ext H Z H' Z' → XRep K cm H' Z' x cls dd → W cls dd σ H') →
    (∀ ds, eL fs ρ = .ok ds → ∀ vs H' Z' Gs, ResL K cm H Z H' Z' [] ds vs Gs → R ((ks.zip vs).map fun kv => (kV kv.1, kv.2)) H') → tPairs (trsD K cm W ks fs) σ H R
  | [], [], H, Z, R, _, ok, _, _, hk => hk [] rfl [] H Z [] (.nil ok.dom)
  | [], _ :: _, _, _, _, l, _, _, _, _ => by simp at l
  | _ :: _, [], _, _, _, l, _, _, _, _ => by simp at l
  | k :: ks, f :: fs, H, Z, R, l, ok, hn, hx, hk => by
    show tP K cm W f σ H _
    unfold eL at hn hx hk
    refine tP_bind ok (fun e => hn (by rw [e]; rfl)) (fun d e v H1 Z1 F r => ?_) (fun x e cls dd H' Z' ex xr => hx x (by rw [e]; rfl) cls dd H' Z' ex xr)
    rw [e] at hn hx hk
    simp only [Ot.bind_ok] at hn hx hk
    refine pairs_go (by simpa using l) (ok.ext r.ext) (fun q => hn (by rw [q]; rfl)) (fun x q cls dd H' Z' ex xr => hx x (by rw [q]; rfl) cls dd H' Z' (r.ext.trans ex) xr) fun ds q vs H' Z' Gs rs => ?_
    exact hk (d :: ds) (by rw [q]; rfl) (v :: vs) H' Z' (F :: Gs) (.cons r rs)
theorem disp_end {K : PySem.W.Frag} {cm : Cm} {W : WX} {ks : List Key} {fs : List (En → Ot D)} {σ : L2.St} {H : Hp} {Q : VK} (q0 : tP K cm W (eDisp ks fs) σ H Q) : ks.length = fs.length → tDisp (trsD K cm W ks fs) σ H Q := by
  intro hl p hp
  obtain ⟨Z, ρ, Fs, ok, q0⟩ := q0
  unfold eDisp at q0
  have g0 : Grow H (L2.upd H p (.dK [])) := .new hp
  have ex0 : Ext H Z (L2.upd H p (.dK [])) Z := .grow ok.dom g0
  refine pairs_go hl (ok.ext ex0) (fun e => by rw [e] at q0; exact q0) (fun x e cls dd H' Z' ex xr => by rw [e] at q0; exact q0 cls dd H' Z' (ex0.trans ex) xr) fun ds e vs H' Z' Gs r => ?_
  rw [e, Ot.bind_ok] at q0
  split at q0
  rotate_left
  · exact q0.elim
  rename_i hc
  obtain ⟨h15, hnd, _⟩ := hc
  have hlv : ks.length = vs.length := by rw [r.rep.len.1, eL_len e]; exact hl
  have e2 : H' p = some (.dK []) := r.ext.gr _ _ upd_same
  refine ⟨e2, ks.zip vs, rfl, by rw [List.length_zip]; omega, ?_⟩
  rw [mergeK_nil hnd hlv]
  have mu : Mut (H' p) := by rw [e2]; trivial
  have nf : ¬ Z'.f p := fun h => (r.ext.fn p h).elim (fun q => ok.dom.f p q hp) fun q => by rw [upd_same] at q; cases q
  have nb : ¬ Z'.b p := fun h => by rw [r.ext.b] at h; exact ok.dom.b p h hp
  have nt : ¬ Z'.t p := fun h => by rw [r.ext.t] at h; exact ok.dom.t p h hp
  have nG : p ∉ Gs.flatten := fun h => by have := r.new p h; rw [upd_same] at this; cases this
  have back : ∀ a, (L2.upd H p (.dK [])) a = none → H a = none := fun a h => g0.back h
  have eo : ownA (.dct .own ks) p = [p] := by simp [ownA, Kd.isOwn, Kd.fl]
  refine q0 (.ref p) _ Z' (ownA (.dct .own ks) p ++ Gs.flatten) ⟨⟨fun a o h => ?_, r.ext.f, fun a h => (r.ext.fn a h).imp id (back a), fun a h => ?_, r.ext.b, r.ext.t⟩, ⟨p, vs, Gs, rfl, ⟨fun _ => upd_same, .inl upd_same, hlv, trivial⟩, r.rep.upd mu nG nf nb nt, rfl⟩, ?_, fun a h => ?_, fun a h => ?_⟩
  · have ne : a ≠ p := fun q => by subst q; rw [hp] at h; cases h
    rw [upd_ne ne]
    exact r.ext.gr a o (g0 a o h)
  · have ne : a ≠ p := fun q => by subst q; exact nf h
    rw [upd_ne ne]
    exact r.ext.fd a h
  · rw [eo]
    exact List.nodup_append.mpr ⟨by simp, r.nd, fun a ha b hb e => by
      have : a = p := by simpa using ha
      subst this; subst e
      exact nG hb⟩
  · rw [eo] at h
    rcases List.mem_append.mp h with h | h
    · have : a = p := by simpa using h
      subst this
      exact .inl hp
    · exact .inl (back a (r.new a h))
  · rw [eo] at h
    rcases List.mem_append.mp h with h | h
    · have : a = p := by simpa using h
      subst this
      exact nf
    · exact r.nf a h
section
variable {X : Cx} {cm : Cm} {W : WX} {pos : Pos} {keys : List (Option Expr)} {values : List Expr} {ks : List Key} {fs : List (En → Ot D)}
theorem pps_ok (hk : ks = []) (hf : fs = []) : PPs X pos [] [] (trsD X.K cm W ks fs) := by subst hk; subst hf; exact pps_nil
theorem pps_str {s : Str} {j : Nat} {p : Pos} {e : Expr} {f : En → Ot D} (he : SE X cm W e f) (hr : PPs X pos keys values (trsD X.K cm W ks fs)) : PPs X pos (some (.Constant (.str s) j p) :: keys) (e :: values) (trsD X.K cm W (.inr s :: ks) (f :: fs)) := pps_cons pe_str he hr
theorem pps_int {i : Int} {j : Nat} {p : Pos} {e : Expr} {f : En → Ot D} (he : SE X cm W e f) (hr : PPs X pos keys values (trsD X.K cm W ks fs)) : PPs X pos (some (.Constant (.int i) j p) :: keys) (e :: values) (trsD X.K cm W (.inl i :: ks) (f :: fs)) := pps_cons pe_int he hr
theorem s_disp (h : PPs X pos keys values (trsD X.K cm W ks fs)) (hl2 : ks.length = fs.length) (hall : keys.all (·.isSome) = true) (hl : keys.length = values.length) (h0 : keys ≠ []) (h15 : keys.length ≤ 15) : SE X cm W (.Dict keys values pos) (eDisp ks fs) :=
  PE.imp (pe_disp h hall hl h0 h15) fun σ H Q q => disp_end q hl2
end

/-! ### a place is frozen -/
def fzP (i : Nat) (π : Pi') (ρ : En) : En := match subD ρ i π with
  | some (d, js, d0) => ρ.set i (some (putP d js (toFrz d0)))
  | none => ρ
def sFzP (i : Nat) (π : Pi') (g : Mst) : Mst := fun ρ => g (fzP i π ρ)
theorem Ok.fzP {K : PySem.W.Frag} {cm : Cm} {H : Hp} {σ : L2.St} {ρ : En} {Fs : List (List Addr)} {Z : Zn} {P : List Nat} (ok : Ok K cm H σ ρ Fs Z) (i : Nat) (π : Pi') : ∃ Fs' Z', Ok K cm H σ (fzP i π ρ) Fs' Z' ∧ SStep P σ H Z Fs σ H Z' Fs' := by
  unfold OB.fzP
  split
  · rename_i d js d0 hp
    obtain ⟨h1, h2, h3⟩ := subD_eq hp
    obtain ⟨v, F, e1, e2, r⟩ := ok.rep.get i d h1
    obtain ⟨v0, F0, A, B, fo⟩ := r.foc h3
    have eF := fo.eF
    have hF : ∀ a ∈ F, a ∈ Fs.flatten := fun a h => flat_mem e2 h
    have hF0 : ∀ a ∈ F0, a ∈ Fs.flatten := fun a h => hF a (by rw [eF]; simp [h])
    have ndF := ok.nd.sublist (flatten_get e2)
    rw [eF] at ndF
    have n1 := List.nodup_append.mp ndF
    have n2 := List.nodup_append.mp n1.1
    let Z' : Zn := ⟨fun a => Z.f a ∨ a ∈ F0, Z.b, fun _ => False⟩
    have mv : CellMove K cm H H Z Z' id (fun a => ¬ a ∈ F0) := fun a k vs c _ => by
      have := cell_grow (K := K) (cm := cm) (Grow.refl H) (Z' := Z') (fun _ h => .inl h) (fun _ h => h) (fun a h => (ok.t a h).elim) a k vs c (fun _ => trivial)
      exact this
    have rz : Rep K cm H Z' (toFrz d0) v0 [] := Rep.give (g := Fl.toFrz) (O := fun a => a ∈ F0) (cell_flag (fun a ha f ef _ => by subst ef; exact .inr ha) (fun a f hf hz => by cases f with
              | own => exact absurd rfl hf
              | frz => exact .inl hz
              | bor => exact hz
              | tmp => exact (ok.t a hz).elim) (fun f e => by cases f <;> first | rfl | cases e)) (fun f e => by cases f <;> cases e) d0 fo.rep fun a h => h
    have rr := fo.put (fun a => a ∈ F0) H Z' (toFrz d0) [] (fun x hx q => n2.2.2 x hx x q rfl) (fun x hx q => n1.2.2 x (List.mem_append_right _ q) x hx rfl) mv rz
    obtain ⟨nd2, sub2⟩ := setsF_ok2 (cs := [⟨i, A, F0, B, [], .non⟩]) (F := F0) (X := []) ok.nd (by simp) (fun c hc => by
      have : c = ⟨i, A, F0, B, [], .non⟩ := by simpa using hc
      subst this
      exact e2.trans (by rw [eF])) (by simp) (by simpa using n2.2.1) (fun x hx => .inl (by simpa using hx))
    have nd2 : ((Fs.set i (A ++ [] ++ B)).flatten ++ F0).Nodup := nd2
    have sub : ∀ x ∈ (Fs.set i (A ++ [] ++ B)).flatten, x ∈ Fs.flatten := fun x hx => (sub2 x hx).elim id fun q => nomatch q
    refine ⟨Fs.set i (A ++ [] ++ B), Z', ⟨⟨by simpa using ok.rep.lσ, by simpa using ok.rep.lF, fun j dj q => ?_⟩, ⟨fun a h => h.elim (ok.dom.f a) fun h => mut_ne (ok.mu a (hF0 a h)), ok.dom.b, fun _ h => h.elim⟩, fun a h => ok.mu a (sub a h), (List.nodup_append.mp nd2).1, fun a h => ⟨fun z => z.elim (ok.nz a (sub a h)).1 fun z => (List.nodup_append.mp nd2).2.2 a h a z rfl, (ok.nz a (sub a h)).2⟩, fun _ h => h⟩,
      ⟨.refl, fun a h => .inl (sub a h), fun a h => .inl h, fun a h => h.elim .inl fun h => .inr (.inl (hF0 a h)), rfl, fun _ _ => rfl⟩⟩
    by_cases hj : i = j
    · subst hj
      rw [List.getElem?_set] at q
      split at q
      · split at q
        · cases q
          exact ⟨v, _, e1, by rw [List.getElem?_set_self (List.getElem?_eq_some_iff.mp e2).1], rr⟩
        · cases q
      · rename_i n; exact absurd rfl n
    · rw [List.getElem?_set_ne hj] at q
      obtain ⟨v2, F2, a, b, c⟩ := ok.rep.get j dj q
      exact ⟨v2, F2, a, by rw [List.getElem?_set_ne hj]; exact b, c.grow (.refl _) (fun _ h => .inl h) (fun _ h => h) fun a h => (ok.t a h).elim⟩
  · exact ⟨Fs, Z, ok, .refl⟩
theorem ss_fzP {X : Cx} {cm : Cm} {W : WX} {P : List Nat} {st : Stmt} {g : Mst} (i : Nat) (π : Pi') (h : SS X cm W P st g) : SS X cm W P st (sFzP i π g) := PS.imp h fun D0 σ H q => by
  obtain ⟨Z, ρ, Fs, ok, q⟩ := q
  obtain ⟨Fs', Z', ok', s⟩ := ok.fzP (P := P) i π
  exact ⟨Z', _, Fs', ok', q.step s⟩
end OB

namespace OB
open PySem PySem.Spec PyProof.Rows L2
def pList3 : List D → Option D
  | [.nd (.dct f ks) es] => pListD [.nd (.dct f ks) es]
  | ds => pList ds
theorem OkPr.alt {K : PySem.W.Frag} {cm : Cm} {r r' : List V → Hp → VK → Prop} {p p' q : List D → Option D} (h : OkPr K cm r p) (h' : OkPr K cm r' p') (hq : ∀ ds, q ds = p ds ∨ q ds = p' ds) : OkPr K cm (fun vs H Q => r vs H Q ∨ r' vs H Q) q := fun H Z ds vs Fs d dm rl nd nf e Q k => by
  rcases hq ds with z | z
  · exact .inl (h H Z ds vs Fs d dm rl nd nf (z.symm.trans e) Q k)
  · exact .inr (h' H Z ds vs Fs d dm rl nd nf (z.symm.trans e) Q k)
theorem pList3_alt (ds : List D) : pList3 ds = pListD ds ∨ pList3 ds = pList ds := by
  unfold pList3
  split
  · exact .inl rfl
  · exact .inr rfl
/-! ### facts -/
def insB (c : Str) (K : PySem.W.Frag) : Bool := decide (PySem.W.findIn K (.ref (He.ga K c)) "__class__" = some (some (.builtin "object.__class__"))) && (decide (PySem.W.specialIn K (.builtin "object.__class__") "__get__" = some (some (.builtin "getset_descriptor.__get__"))) &&
  (decide (PySem.W.takesIn K (.builtin "object.__class__") = some true) && decide (PySem.W.mroIn K (He.ga K c) (.type "object") = some true)))
theorem insB_ok {c : Str} {K : PySem.W.Frag} (h : insB c K = true) (cl : Cls K (He.ga K c)) : InsK K (He.ga K c) := by
  unfold insB at h
  rw [Bool.and_eq_true, Bool.and_eq_true, Bool.and_eq_true] at h
  exact ⟨cl, of_decide_eq_true h.1, of_decide_eq_true h.2.1, of_decide_eq_true h.2.2.1, of_decide_eq_true h.2.2.2⟩
def kitB (t : String) (c : Str) (b : Bool) (K : PySem.W.Frag) : Bool := decide (PySem.W.kitOne K (.type t) (.ref (He.ga K c)) = some b)
def kitC (d c : Str) (b : Bool) (K : PySem.W.Frag) : Bool := decide (PySem.W.kitOne K (.ref (He.ga K d)) (.ref (He.ga K c)) = some b)
def obsY (n : Nat) (xs : List (PySem.W.Frag → Bool)) (fa : List He.Fa) (fn : List He.DefD) (g : Addr → Option Obj) : He.AlD :=
  ((obsZ n fa fn g).1 && xs.all (fun x => x (frZ g (He5.asA g n))), (obsZ n fa fn g).2)
structure SaysY (xs : List (PySem.W.Frag → Bool)) (fa : List He.Fa) (fn : List He.DefD) (K : PySem.W.Frag) : Prop where
  z : SaysZ fa fn K
  x : xs.all (fun x => x K) = true
theorem SaysY.at_ {xs : List (PySem.W.Frag → Bool)} {fa : List He.Fa} {fn : List He.DefD} {K : PySem.W.Frag} (c : SaysY xs fa fn K) (i : Nat) {f : PySem.W.Frag → Bool} (h : xs[i]? = some f := by rfl) : f K = true := List.all_eq_true.mp c.x f (List.mem_of_getElem? h)
def hookY (n : Nat) (xs : List (PySem.W.Frag → Bool)) (fa : List He.Fa) (fn : List He.DefD) : PySem.W.Hook where
  α := He.AlD
  obs := fun s => obsY n xs fa fn s.heap.get?
  val := fun _ => He.valD fn
  says := fun _ h => ∃ K : PySem.W.Frag, K.In h ∧ SaysY xs fa fn K
  of := fun _ s e => by
    have e : obsY n xs fa fn s.heap.get? = He.valD fn := e
    unfold obsY obsZ at e
    obtain ⟨e1, e2⟩ := Prod.ext_iff.mp e
    have e1 : (((He.obsD fa fn (frZ s.heap.get? (He5.asA s.heap.get? n))).1 && He.eqO (PySem.W.nsIn (frZ s.heap.get? (He5.asA s.heap.get? n)) cStatics "sys.int_max_str_digits") (some none)) && xs.all (fun x => x (frZ s.heap.get? (He5.asA s.heap.get? n)))) = true := e1
    rw [Bool.and_eq_true, Bool.and_eq_true] at e1
    exact ⟨_, fun a o h => (frZ_at h).1, ⟨Prod.ext e1.1.1 e2, He.eqO_ok e1.1.2, fun a o h => (frZ_at h).2⟩, e1.2⟩
  keeps := fun _ _ _ ⟨K, hK, c⟩ k => ⟨K, PySem.W.Frag.In.keeps hK k, c⟩
theorem obsY_eq {n : Nat} {xs : List (PySem.W.Frag → Bool)} {fa : List He.Fa} {fn : List He.DefD} {g : Addr → Option Obj} {s : Shared} (h : ∀ a, g a = s.heap.get? a) : obsY n xs fa fn g = (hookY n xs fa fn).obs s := by
  have e : g = s.heap.get? := funext h
  rw [e]; rfl
/-- the one class -/
def obC (c : Str) : Str → Option Bool := fun d => if d = c then some true else none
theorem obC_ok {K : PySem.W.Frag} {cm : Cm} {c : Str} (h : InsK K (cm c)) : ∀ d b, obC c d = some b → PySem.W.kitOne K (.ref (cm d)) (.ref (cm c)) = some b ∧ InsK K (cm d) := fun d b e => by
  unfold obC at e
  split at e
  · rename_i q
    subst q
    cases e
    exact ⟨by unfold PySem.W.kitOne; simp, h⟩
  · cases e
/-! ### isinstance(x, C), C a class of the text -/
section
variable {X : Cx} {cm : Cm} {W : WX} {a : Expr} {f : En → Ot D} {pos p pc : Pos} {c : Str}
theorem s_isiC {nb : String → Option Bool} {ob : Str → Option Bool} (hn : ∀ n b, nb n = some b → PySem.W.kitOne X.K (.type n) (.ref (cm c)) = some b) (ho : ∀ d b, ob d = some b → PySem.W.kitOne X.K (.ref (cm d)) (.ref (cm c)) = some b ∧ InsK X.K (cm d))
    (hg : Gl X "isinstance") (hm : X.mg "isinstance" = none) (hgc : Gl X c) (hmc : X.mg c = some (.ref (cm c))) (ha : SE X cm W a f) (hd : (c == ("__debug__" : Str)) = false := by decide)
    (he : starEach [a, .Name c pc] X.env = (false, eval a X.env) :: starEach [.Name c pc] X.env := by rfl) (he2 : starEach [.Name c pc] X.env = (false, eval (.Name c pc) X.env) :: starEach [] X.env := by rfl) (hpl : (backTo pos (starEach [.Name c pc] X.env)).any (·.1) = false := by rfl) :
    SE X cm W (.Call (.Name "isinstance" p) [a, .Name c pc] [] pos) (eIsi nb ob f) :=
  s_isi hn ho (.own (cm c)) hg hm (by decide +kernel) ha (pe_glob hgc hmc rfl hd) he he2 hpl
end
section
variable {X : Cx} {cm : Cm} {W : WX} {e : Expr} {es : List Expr} {aks : List AK} {i : Nat} {π : Pi'} {f : En → Ot D}
theorem as_pl (h : SP2 X cm W e i π) (hs : PA X es (tAs X.K cm W aks)) (hst : starEach (e :: es) X.env = (false, eval e X.env) :: starEach es X.env := by rfl) : PA X (e :: es) (tAs X.K cm W (.pl i π :: aks)) := as_cons (a := .pl i π) h hs hst
theorem as_hd (h : SE X cm W e f) (hs : PA X es (tAs X.K cm W aks)) (hst : starEach (e :: es) X.env = (false, eval e X.env) :: starEach es X.env := by rfl) : PA X (e :: es) (tAs X.K cm W (.hd f :: aks)) := as_cons (a := .hd f) h hs hst
theorem as_nt (h : SE X cm W e f) (hs : PA X es (tAs X.K cm W aks)) (hst : starEach (e :: es) X.env = (false, eval e X.env) :: starEach es X.env := by rfl) : PA X (e :: es) (tAs X.K cm W (.nt f :: aks)) := as_cons (a := .nt f) h hs hst
end
end OB

namespace OB
open PySem PySem.Spec PyProof.Rows L2
section
variable {f g : En → Ot D} {fs : List (En → Ot D)} {ρ ρ0 : En} {x y : Xf} {t u : Xt} {p : List D → Option D} {a b : Mst} {c n : Str} {dd : List D} {m : List D → Ot D} {mm : MM} {aks : List AK} {i : Nat} {π : Pi'}
@[simp] theorem sExpr_eq : sExpr f ρ = match f ρ with
  | .no => none
  | .ok _ => some (.nx, ρ)
  | .ex x => some (.ex x, ρ) := by unfold sExpr sOn; cases f ρ <;> rfl
@[simp] theorem eMeth_eq : eMeth c n m dd f fs ρ = (f ρ).bind fun x => if objHas c n x then (eL fs ρ).bind fun ds => back (m ((x :: ds).map toArg ++ dd)) else .no := rfl
@[simp] theorem eMake_eq : eMake c mm dd fs ρ = (eL fs ρ).bind fun ds => mkBack (mm (.nd (.obj .own c []) [] :: (ds.map toArg ++ dd))) := rfl
@[simp] theorem eDisp_eq {ks : List Key} : eDisp ks fs ρ = (eL fs ρ).bind fun ds => if ks.length ≤ 15 ∧ ks.Nodup ∧ ks.length = fs.length then .ok (.nd (.dct .own ks) ds) else .no := rfl
@[simp] theorem xOn_eq {k : D → Mst} : xOn x k ρ = match x ρ with
  | none => none
  | some (.no, _) => none
  | some (.ok d, ρ1) => k d ρ1
  | some (.ex x, ρ1) => some (.ex x, ρ1) := rfl
@[simp] theorem xP_eq : xP f ρ = match f ρ with
  | .no => none
  | .ok d => if noT d then some (.ok d, ρ) else none
  | .ex x => some (.ex x, ρ) := rfl
@[simp] theorem xPT_eq {t : En → Ot Bool} : xPT t ρ = match t ρ with
  | .no => none
  | .ok b => some (.ok b, ρ)
  | .ex x => some (.ex x, ρ) := rfl
@[simp] theorem xTr_eq : xTr x ρ = xBind (x ρ) fun d ρ1 => match d with
  | .bl b => some (.ok b, ρ1)
  | _ => none := rfl
@[simp] theorem xNotT_eq : xNotT t ρ = xBind (t ρ) fun b ρ1 => some (.ok (!b), ρ1) := rfl
@[simp] theorem xAndT_eq : xAndT t u ρ = xBind (t ρ) fun b ρ1 => if b then u ρ1 else some (.ok false, ρ1) := rfl
@[simp] theorem xOrT_eq : xOrT t u ρ = xBind (t ρ) fun b ρ1 => if b then some (.ok true, ρ1) else u ρ1 := rfl
@[simp] theorem xAnd_eq : xAnd x y ρ = xBind (x ρ) fun d ρ1 => match d with
  | .bl b => if b then y ρ1 else some (.ok (.bl false), ρ1)
  | _ => none := rfl
@[simp] theorem xOr_eq : xOr x y ρ = xBind (x ρ) fun d ρ1 => match d with
  | .bl b => if b then some (.ok (.bl true), ρ1) else y ρ1
  | _ => none := rfl
@[simp] theorem xNot_eq : xNot x ρ = xBind (x ρ) fun d ρ1 => match d with
  | .bl b => some (.ok (.bl (!b)), ρ1)
  | _ => none := rfl
@[simp] theorem xL_eq : xL p x g ρ = xBind (x ρ) fun d ρ1 => match g ρ1 with
  | .no => none
  | .ex x => some (.ex x, ρ1)
  | .ok e => match p [d, e] with
    | some z => if isAt z then some (.ok z, ρ1) else none
    | none => none := rfl
@[simp] theorem sIfX_eq : sIfX t a b ρ = match t ρ with
  | none => none
  | some (.no, _) => none
  | some (.ok k, ρ1) => if k then a ρ1 else b ρ1
  | some (.ex x, ρ1) => some (.ex x, ρ1) := rfl
@[simp] theorem isAt_non : isAt .non = true := rfl
@[simp] theorem isAt_bl {b : Bool} : isAt (.bl b) = true := rfl
@[simp] theorem isAt_int {b : Int} : isAt (.int b) = true := rfl
@[simp] theorem isAt_str {b : Str} : isAt (.str b) = true := rfl
/-! ### calls -/
@[simp] theorem xCall_eq : xCall mm aks dd ρ = match evA (plS aks) ρ aks with
  | .no => none
  | .ex x => some (.ex x, ρ)
  | .ok ds => xEnd mm aks dd ρ ds := rfl
@[simp] theorem xMeth_eq : xMeth c n mm aks dd ρ = if recvOk c n ρ aks then xCall mm aks dd ρ else none := rfl
@[simp] theorem xEnd_eq {ds : List D} : xEnd mm aks dd ρ ds = match mm (ds ++ dd) with
  | none => none
  | some (r, es) => if okBack r && es.all noB && decide ((plS aks).Nodup) then (putAll ρ aks es ρ).map fun ρ' => (r, ρ') else none := rfl
@[simp] theorem recvOk_eq : recvOk c n ρ (.pl i π :: aks) = match subD ρ i π with
  | some (_, _, d) => objHas c n d
  | none => false := by
  show (match subD ρ i π with
    | some (_, _, .nd (.obj _ c' fs) _) => decide (c' = c) && !fs.contains n
    | _ => false) = _
  cases subD ρ i π with
  | none => rfl
  | some q =>
    obtain ⟨d, js, d0⟩ := q
    cases d0 with
    | nd k ds => cases k <;> rfl
    | _ => rfl
@[simp] theorem plS_nil : plS [] = [] := rfl
@[simp] theorem plS_pl : plS (.pl i π :: aks) = i :: plS aks := rfl
@[simp] theorem plS_hd : plS (.hd f :: aks) = plS aks := rfl
@[simp] theorem plS_nt : plS (.nt f :: aks) = plS aks := rfl
@[simp] theorem evA_nil {h : List Nat} : evA h ρ [] = .ok [] := rfl
@[simp] theorem evA_pl {h : List Nat} : evA h ρ (.pl i π :: aks) = match subD ρ i π with
    | some (_, _, d0) => if noB d0 then (evA h ρ aks).bind fun ds => .ok (d0 :: ds) else .no
    | none => .no := rfl
@[simp] theorem evA_hd {h : List Nat} : evA h ρ (.hd f :: aks) = (f (wipeE ρ h)).bind fun d => (evA h ρ aks).bind fun ds => .ok (toArg d :: ds) := rfl
@[simp] theorem evA_nt {h : List Nat} : evA h ρ (.nt f :: aks) = (f ρ).bind fun d => if noT d then (evA h ρ aks).bind fun ds => .ok (toArg d :: ds) else .no := rfl
@[simp] theorem putAll_nil : putAll ρ0 [] [] ρ = some ρ := rfl
@[simp] theorem putAll_pl {e : D} {es : List D} : putAll ρ0 (.pl i π :: aks) (e :: es) ρ = match subD ρ0 i π with
    | some (d, js, _) => putAll ρ0 aks es (ρ.set i (some (putP d js e)))
    | none => none := rfl
@[simp] theorem putAll_hd {es : List D} : putAll ρ0 (.hd f :: aks) es ρ = putAll ρ0 aks es ρ := by cases es <;> rfl
@[simp] theorem putAll_nt {es : List D} : putAll ρ0 (.nt f :: aks) es ρ = putAll ρ0 aks es ρ := by cases es <;> rfl
@[simp] theorem okBack_ok {d : D} : okBack (.ok d) = noB d := rfl
@[simp] theorem okBack_ex {z : XD} : okBack (.ex z) = true := rfl
@[simp] theorem mkBack_ok {d : D} : mkBack (some (.ok .non, [d])) = if noB d then .ok d else .no := rfl
@[simp] theorem wipeE_nil : wipeE ρ [] = ρ := rfl
@[simp] theorem wipeE_cons {v : Nat} {vs : List Nat} : wipeE ρ (v :: vs) = (wipeE ρ vs).set v none := rfl
/-! ### places -/
@[simp] theorem pHere_eq : pHere ρ = some [] := rfl
@[simp] theorem subD_row : subD ρ i π = match ρ[i]? with
  | some (some d) => (π ρ).bind fun js => (getP d js).map fun d0 => (d, js, d0)
  | _ => none := rfl
@[simp] theorem πIx_eq : πIx i π f ρ = match ρ[i]? with
  | some (some d) => (π ρ).bind fun js => (getP d js).bind fun d0 => match f ρ with
    | .ok key => (stepP d0 key).map fun j => js ++ [j]
    | _ => none
  | _ => none := rfl
@[simp] theorem πFld_eq {cs : List Str} : πFld i π cs n ρ = match ρ[i]? with
  | some (some d) => (π ρ).bind fun js => (getP d js).bind fun d0 => (fldP cs d0 n).map fun j => js ++ [j]
  | _ => none := rfl
@[simp] theorem getP_nil {d : D} : getP d [] = some d := by cases d <;> rfl
@[simp] theorem putP_nil {d e : D} : putP d [] e = e := by cases d <;> rfl
@[simp] theorem sPut2_eq : sPut2 i π f g ρ = match subD ρ i π with
  | some (d, js, .nd k es) => if k.isOwn then sOnL (eL [f, g]) (fun ds ρ => match ds with
    | [x, y] => if noT x && isAt y then (match putD2 k es y x with
      | some (k', es') => some (.nx, ρ.set i (some (putP d js (.nd k' es'))))
      | none => none) else none
    | _ => none) ρ else none
  | _ => none := rfl
@[simp] theorem sOnL_eq {h : En → Ot (List D)} {k : List D → Mst} : sOnL h k ρ = match h ρ with
  | .no => none
  | .ok ds => k ds ρ
  | .ex x => some (.ex x, ρ) := rfl
@[simp] theorem xBm_eq {op : List D → List D → Option (D × List D)} {h : En → Ot (List D)} : xBm i π op h ρ = match subD ρ i π with
  | some (d, js, .nd (.lst .own) es) => (match h ρ with
    | .no => none
    | .ex x => some (.ex x, ρ)
    | .ok ds => if ds.all noT then (match op es ds with
      | some (dv, es') => some (.ok dv, ρ.set i (some (putP d js (.nd (.lst .own) es'))))
      | none => none) else none)
  | _ => none := rfl
@[simp] theorem oApp_eq {es : List D} {d : D} (h : es.length < 16777216) : oApp es [d] = some (.non, es ++ [d]) := if_pos h
@[simp] theorem sFldS_eq {cs : List Str} : sFldS i π cs n f ρ = match f ρ with
  | .no => none
  | .ok d => fldK i π cs n d ρ
  | .ex x => some (.ex x, ρ) := by unfold sFldS sOn; cases f ρ <;> rfl
@[simp] theorem fldK_eq {cs : List Str} {z : D} : fldK i π cs n z ρ = match subD ρ i π with
  | some (d, js, .nd (.obj .own c fs) es) => if noT z && decide (c ∈ cs) && decide (fs.length < 1000) then some (.nx, ρ.set i (some (putP d js (.nd (.obj .own c (putFD fs es n z).1) (putFD fs es n z).2)))) else none
  | _ => none := rfl
@[simp] theorem bodyMM_eq {k : Nat} {mt : List Nat} {ds : List D} : bodyMM k mt a ds = match a (initE k ds) with
  | some (.nx, ρ) => (grab mt ρ).map fun es => (.ok .non, es)
  | some (.ret d, ρ) => (grab mt ρ).map fun es => (.ok d, es)
  | some (.ex x, ρ) => (grab mt ρ).map fun es => (.ex x, es)
  | _ => none := rfl
@[simp] theorem grab_nil : grab [] ρ = some [] := rfl
@[simp] theorem grab_cons {is : List Nat} : grab (i :: is) ρ = match ρ[i]? with
  | some (some d) => (grab is ρ).map (d :: ·)
  | _ => none := rfl
@[simp] theorem sFz_eq : sFz i a ρ = a (fzE i ρ) := rfl
@[simp] theorem fzE_eq : fzE i ρ = match ρ[i]? with
  | some (some d) => ρ.set i (some (toFrz d))
  | _ => ρ := rfl
@[simp] theorem sFzP_eq : sFzP i π a ρ = a (fzP i π ρ) := rfl
@[simp] theorem fzP_eq : fzP i π ρ = match subD ρ i π with
  | some (d, js, d0) => ρ.set i (some (putP d js (toFrz d0)))
  | none => ρ := rfl
end
end OB

namespace OB
open PySem PySem.Spec PyProof.Rows L2
abbrev P0 : Program := PySem.Challenge.pw_larderwise_k03_goods_by_deeds
def top (i : Nat) : Stmt := PySem.Challenge.pw_larderwise_k03_goods_by_deeds.main.body.getD i (.Pass ⟨0, 0, 0, 0⟩)
def clsB : Stmt → List Stmt
  | .ClassDef (body := b) .. => b
  | _ => []
noncomputable section
def g__law_draw : Mst :=
  (sSeq ((sSet 3 ((ePr pAdd [(ePr pMul [(ePr pMul [(ePr pAdd [eVar 1, eC (.int 3)]), (ePr pAdd [eVar 1, eC (.int 3)])]), eC (.int 40692)]), (ePr pMul [(ePr pMul [(ePr pAdd [eVar 2, eC (.int 7)]), (ePr pAdd [eVar 2, eC (.int 7)])]), eC (.int 69621)])]))))
  ((sRet ((ePr pDiv [(ePr pMod [(ePr pMul [(ePr pMod [(ePr pAdd [(ePr pMul [(ePr pMod [eVar 0, eC (.int 2147483629)]), eC (.int 48271)]), eVar 3]), eC (.int 2147483647)]), eC (.int 16807)]), eC (.int 2147483629)]), eC (.int 3)])))))
def m__law_draw : List D → Ot D := bodyM 4 g__law_draw
def ce__law_pool_1 : En → Ot D :=
  (ePr pIx [eVar 2, (ePr pMod [(ePr pAdd [(ePr pDiv [eVar 3, eC (.int 7)]), (ePr pMul [(ePr pAdd [eC (.int 3), (ePr pMod [eVar 3, eC (.int 5)])]), eVar 8])]), eC (.int 26)])])
def cp__law_pool_1 : En → Ot D :=
  eComp (itR1 [eC (.int 11)]) (tgName 8) cYes (ce__law_pool_1) [8]
def ce__law_pool_2 : En → Ot D :=
  (ePr pIx [eVar 2, (ePr pMod [(ePr pAdd [(ePr pDiv [eVar 3, eC (.int 2000)]), (ePr pMul [eC (.int 5), eVar 8])]), eC (.int 26)])])
def cp__law_pool_2 : En → Ot D :=
  eComp (itR1 [eVar 1]) (tgName 8) cYes (ce__law_pool_2) [8]
def ce__law_pool_3 : En → Ot D :=
  (ePr pAdd [eVar 9, (eSl pSl (eVar 4) (oNone) ((oSome ((ePr pMod [(ePr pAdd [(ePr pMul [eC (.int 3), eVar 8]), (ePr pDiv [eVar 3, eC (.int 200)])]), eC (.int 9)])))))])
def cp__law_pool_3 : En → Ot D :=
  eComp (itEnum [eVar 5]) (tgTup [(tgName 8), (tgName 9)]) cYes (ce__law_pool_3) [8, 9]
def ce__law_pool_4 : En → Ot D :=
  (ePr pAdd [(ePr pAdd [(eSl pSl (eVar 4) (oNone) ((oSome (eVar 6)))), eVar 9]), (eSl pSl (eVar 4) ((oSome (eVar 6))) ((oSome ((ePr pMod [eVar 3, eC (.int 8)])))))])
def cp__law_pool_4 : En → Ot D :=
  eComp (itV (eVar 5)) (tgName 9) cYes (ce__law_pool_4) [9]
def ce__law_pool_5 : En → Ot D :=
  (eSl pSl (eVar 4) (oNone) ((oSome ((ePr pAdd [eVar 8, eC (.int 1)])))))
def cp__law_pool_5 : En → Ot D :=
  eComp (itR1 [eC (.int 11)]) (tgName 8) cYes (ce__law_pool_5) [8]
def cc__law_pool_1 : En → Ot Bool :=
  (eT (ePr pNotIn [eVar 10, (eSl pSl (eVar 7) (oNone) ((oSome (eVar 8))))]))
def cp__law_pool_6 : En → Ot D :=
  eComp (itEnum [eVar 7]) (tgTup [(tgName 8), (tgName 10)]) cc__law_pool_1 (eVar 10) [8, 10]
def st__law_pool_1 : Mst :=
  (sSet 3 ((eCall m__law_draw [] [eVar 0, eC (.int 70), eC (.int 1)])))
def st__law_pool_2 : Mst :=
  (sIf ((eT (ePr pEq [(ePr pMod [(ePr pDiv [eVar 3, eC (.int 9)]), eC (.int 3)]), eC (.int 1)])))
  ((sRet (cp__law_pool_3)))
  (sNil))
def st__law_pool_3 : Mst :=
  (sSet 6 ((ePr pMod [(ePr pDiv [eVar 3, eC (.int 200)]), (ePr pAdd [(ePr pMod [eVar 3, eC (.int 8)]), eC (.int 1)])])))
def st__law_pool_4 : Mst :=
  (sIf ((eT (ePr pEq [(ePr pMod [(ePr pDiv [eVar 3, eC (.int 9)]), eC (.int 3)]), eC (.int 2)])))
  ((sSet 7 ((ePr pAdd [cp__law_pool_5, eVar 7]))))
  (sNil))
def st__law_pool_5 : Mst :=
  (sRetF ((eSl pSl (cp__law_pool_6) (oNone) ((oSome (eVar 1))))))
def g__law_pool : Mst :=
  (sSeq ((sSet 2 (eC (.str "abcdefghijklmnopqrstuvwxyz"))))
  ((sSeq (st__law_pool_1)
  ((sSeq ((sSet 4 ((eM "str" pJoin (eC (.str "")) [cp__law_pool_1]))))
  ((sSeq ((sSet 5 (cp__law_pool_2)))
  ((sSeq (st__law_pool_2)
  ((sSeq (st__law_pool_3)
  ((sSeq ((sSet 7 (cp__law_pool_4)))
  ((sSeq (st__law_pool_4)
  (st__law_pool_5))))))))))))))))
def m__law_pool : List D → Ot D := bodyM 11 g__law_pool
def g_Goods___init__ : Mst :=
  (sSeq ((sFldS 0 pHere ["Goods"] "crowd" ((ePr pLst []))))
  ((sSeq ((sFldS 0 pHere ["Goods"] "signs" (eC (.nd (.dct .own []) []))))
  ((sFldS 0 pHere ["Goods"] "sizes" (eC (.nd (.dct .own []) [])))))))
def m_Goods___init__ : MM := bodyMM 1 [0] g_Goods___init__
def ce__law_kept_1 : En → Ot D :=
  (ePr pTup [eVar 3, (ePr pList3 [(ePr pIx [(ePr pIx [eVar 0, eC (.str "sizes")]), eVar 3])])])
def cp__law_kept_1 : En → Ot D :=
  eComp (itV ((ePr pIx [eVar 0, eC (.str "order")]))) (tgName 3) cYes (ce__law_kept_1) [3]
def ce__law_kept_2 : En → Ot D :=
  (ePr pTup [eVar 3, (ePr pList3 [(ePr pIx [(ePr pIx [eVar 0, eC (.str "marks")]), eVar 3])])])
def cp__law_kept_2 : En → Ot D :=
  eComp (itV ((ePr pIx [eVar 0, eC (.str "order")]))) (tgName 3) cYes (ce__law_kept_2) [3]
def g__law_kept : Mst :=
  (sSeq ((sSet 1 ((ePr pDictP [cp__law_kept_1]))))
  ((sSeq ((sSet 2 ((ePr pDictP [cp__law_kept_2]))))
  ((sRetF ((eDisp [.inr "order", .inr "marks", .inr "sizes"] [(ePr pList3 [(ePr pIx [eVar 0, eC (.str "order")])]), eVar 2, eVar 1])))))))
def m__law_kept : List D → Ot D := bodyM 4 g__law_kept
def ce_are_signs_1 : En → Ot D :=
  (ePr pIn [eVar 2, eVar 1])
def cp_are_signs_1 : En → Ot D :=
  eComp (itV (eVar 0)) (tgName 2) cYes (ce_are_signs_1) [2]
def g_are_signs : Mst :=
  (sRet ((ePr pAll [cp_are_signs_1])))
def m_are_signs : List D → Ot D := bodyM 3 g_are_signs
def g_is_name : Mst :=
  (sRet ((eAnd ((eIsi (nbTy "str") (fun _ => none) (eVar 0))) ((eAnd ((eChain pLe pLe (eC (.int 1)) ((ePr pLen [eVar 0])) (eC (.int 12)))) ((eCall m_are_signs [] [eVar 0, eC (.str "abcdefghijklmnopqrstuvwxyz")])))))))
def m_is_name : List D → Ot D := bodyM 1 g_is_name
def ce_need_names_1 : En → Ot D :=
  (eCall m_is_name [] [eVar 1])
def cp_need_names_1 : En → Ot D :=
  eComp (itV (eVar 0)) (tgName 1) cYes (ce_need_names_1) [1]
def g_need_names : Mst :=
  (sSeq ((sIf ((bOr ((bNot ((eT ((eIsi (nbTy "list") (fun _ => none) (eVar 0))))))) ((bNot ((eT ((ePr pAll [cp_need_names_1]))))))))
  ((fun _ => none))
  (sNil)))
  ((sSeq ((sIf ((eT (ePr pLt [(ePr pLenSet [eVar 0]), (ePr pLen [eVar 0])])))
  ((fun _ => none))
  (sNil)))
  ((sIf ((eT (ePr pGt [(ePr pLen [eVar 0]), eC (.int 6)])))
  ((fun _ => none))
  (sNil))))))
def m_need_names : List D → Ot D := bodyM 2 g_need_names
def st_Goods_put_good_1 : Mst :=
  (sIf ((bNot ((eT ((eCall m_is_name [] [eVar 1]))))))
  ((fun _ => none))
  (sNil))
def st_Goods_put_good_2 : Mst :=
  (sIf ((eT (ePr pIn [eVar 1, (ePr (pFld ["Goods"] "signs") [eVar 0])])))
  ((fun _ => none))
  (sNil))
def st_Goods_put_good_3 : Mst :=
  (sIf ((eT (ePr pEq [(ePr pLen [(ePr (pFld ["Goods"] "crowd") [eVar 0])]), eC (.int 10)])))
  ((fun _ => none))
  (sNil))
def st_Goods_put_good_4 : Mst :=
  (sSet 3 ((eIf ((eT (ePr pIs [eVar 2, eC .non]))) ((ePr pLst [])) (eVar 2))))
def st_Goods_put_good_5 : Mst :=
  (xOn (xBm 0 (πFld 0 pHere ["Goods"] "crowd") oApp (eL [eVar 1])) (fun _ ρ => some (.nx, ρ)))
def st_Goods_put_good_6 : Mst :=
  (sPut2 0 (πFld 0 pHere ["Goods"] "signs") ((ePr pList3 [eVar 3])) (eVar 1))
def st_Goods_put_good_7 : Mst :=
  (sPut2 0 (πFld 0 pHere ["Goods"] "sizes") (eC (.nd (.dct .own []) [])) (eVar 1))
def g_Goods_put_good : Mst :=
  (sSeq (st_Goods_put_good_1)
  ((sSeq (st_Goods_put_good_2)
  ((sSeq (st_Goods_put_good_3)
  ((sSeq (st_Goods_put_good_4)
  ((sSeq ((sExpr ((eCall m_need_names [] [eVar 3]))))
  ((sSeq (st_Goods_put_good_5)
  ((sSeq (st_Goods_put_good_6)
  (st_Goods_put_good_7))))))))))))))
def m_Goods_put_good : MM := bodyMM 4 [0] g_Goods_put_good
def lb_Goods_copied_1 : Mst :=
  (sSeq ((xOn (xMeth "Goods" "put_good" m_Goods_put_good [.pl 1 pHere, .hd (eVar 2), .hd ((ePr pIx [(ePr (pFld ["Goods"] "signs") [eVar 0]), eVar 2]))] []) (fun _ ρ => some (.nx, ρ))))
  ((sPut2 1 (πFld 1 pHere ["Goods"] "sizes") ((ePr pDictD [(ePr pIx [(ePr (pFld ["Goods"] "sizes") [eVar 0]), eVar 2])])) (eVar 2))))
def lp_Goods_copied_1 : Mst :=
  (sFor (itV ((ePr (pFld ["Goods"] "crowd") [eVar 0]))) (tgName 2)
  (lb_Goods_copied_1))
def g_Goods_copied : Mst :=
  (sSeq ((sSet 1 ((eMake "Goods" m_Goods___init__ [] []))))
  ((sSeq (lp_Goods_copied_1)
  ((sRetV 1)))))
def m_Goods_copied : List D → Ot D := bodyM 3 g_Goods_copied
def cc__law_put_1 : En → Ot Bool :=
  (eT (ePr pNotIn [eVar 7, (ePr pIx [eVar 1, eC (.str "order")])]))
def cp__law_put_1 : En → Ot D :=
  eComp (itV (eVar 2)) (tgName 7) cc__law_put_1 (eVar 7) [7]
def ce__law_put_1 : En → Ot D :=
  (ePr pIx [eVar 2, (ePr pMod [(ePr pAdd [(ePr pDiv [eVar 6, eC (.int 16)]), (ePr pMul [eC (.int 3), eVar 10])]), (ePr pLen [eVar 2])])])
def cp__law_put_2 : En → Ot D :=
  eComp (itR1 [(ePr pMod [(ePr pDiv [eVar 6, eC (.int 300)]), eC (.int 7)])]) (tgName 10) cYes (ce__law_put_1) [10]
def cc__law_put_2 : En → Ot Bool :=
  (eT (ePr pNotIn [eVar 11, (eSl pSl (eVar 8) (oNone) ((oSome (eVar 10))))]))
def cp__law_put_3 : En → Ot D :=
  eComp (itEnum [eVar 8]) (tgTup [(tgName 10), (tgName 11)]) cc__law_put_2 (eVar 11) [10, 11]
def st__law_put_1 : Mst :=
  (sSet 6 ((eCall m__law_draw [] [eVar 3, eVar 4, eC (.int 1)])))
def st__law_put_2 : Mst :=
  (sSet 7 ((ePr pIx [eVar 5, (ePr pMod [eVar 6, (ePr pLen [eVar 5])])])))
def st__law_put_3 : Mst :=
  (xOn (xBm 1 (πIx 1 pHere (eC (.str "order"))) oApp (eL [eVar 7])) (fun _ ρ => some (.nx, ρ)))
def st__law_put_4 : Mst :=
  (sPut2 1 (πIx 1 pHere (eC (.str "marks"))) ((ePr pList3 [eVar 8])) (eVar 7))
def st__law_put_5 : Mst :=
  (sPut2 1 (πIx 1 pHere (eC (.str "sizes"))) ((ePr pLst [])) (eVar 7))
def st__law_put_6 : Mst :=
  (sIf ((bAnd ((eT (ePr pEq [eVar 8, (ePr pLst [])]))) ((eT (ePr pEq [(ePr pMod [eVar 6, eC (.int 2)]), eC (.int 1)])))))
  ((xOn (xL pIs (xMeth "Goods" "put_good" m_Goods_put_good [.pl 0 pHere, .hd (eVar 7)] [.non]) (eC .non)) (fun d ρ => some (.ret d, ρ))))
  (sNil))
def st__law_put_7 : Mst :=
  (sIfX (xOrT (xTr (xL pIsN (xMeth "Goods" "put_good" m_Goods_put_good [.pl 0 pHere, .hd (eVar 7), .hd (eVar 9)] []) (eC .non))) (xPT ((eT (ePr pNe [eVar 9, eVar 8])))))
  ((sRet (eC (.bl false))))
  (sNil))
def g__law_put : Mst :=
  (sSeq ((sSet 5 (cp__law_put_1)))
  ((sSeq (st__law_put_1)
  ((sSeq (st__law_put_2)
  ((sSeq ((sSet 8 (cp__law_put_2)))
  ((sSeq ((sSet 8 (cp__law_put_3)))
  ((sSeq (st__law_put_3)
  ((sSeq (st__law_put_4)
  ((sSeq (st__law_put_5)
  ((sSeq (st__law_put_6)
  ((sSeq ((sSet 9 ((ePr pList3 [eVar 8]))))
  ((sSeq (st__law_put_7)
  ((sSeq ((sMut 9 pHere mApp (eL [eC (.str "more")])))
  ((sRet (eC (.bl true)))))))))))))))))))))))))))
def m__law_put : MM := bodyMM 12 [0, 1] g__law_put
def lt__law_lowest_1 : En → Ot Bool :=
  (eT (ePr pGt [eVar 4, eC (.int 0)]))
def lb__law_lowest_1 : Mst :=
  (sPar [3, 4] [eVar 4, (ePr pMod [eVar 3, eVar 4])])
def lp__law_lowest_1 : Mst :=
  (sWhile (lt__law_lowest_1)
  (lb__law_lowest_1))
def g__law_lowest : Mst :=
  (sSeq ((sPar [3, 4] [(ePr pAbs [eVar 0]), (ePr pAbs [eVar 1])]))
  ((sSeq (lp__law_lowest_1)
  ((sSeq ((sSet 2 ((eIf ((eT (ePr pGt [eVar 1, eC (.int 0)]))) (eC (.int 1)) ((ePr pNeg [eC (.int 1)]))))))
  ((sRet ((ePr pTup [(ePr pDiv [(ePr pMul [eVar 2, eVar 0]), eVar 3]), (ePr pDiv [(ePr pMul [eVar 2, eVar 1]), eVar 3])])))))))))
def m__law_lowest : List D → Ot D := bodyM 5 g__law_lowest
def g__law_amount : Mst :=
  (sSeq ((sSet 3 ((eCall m__law_draw [] [eVar 0, eVar 1, eVar 2]))))
  ((sSeq ((sSet 4 ((ePr pLst [(ePr pAdd [eC (.int 1), (ePr pMod [(ePr pDiv [eVar 3, eC (.int 4)]), eC (.int 9)])]), (ePr pAdd [eC (.int 1), (ePr pMod [(ePr pAdd [eVar 0, eVar 3]), (ePr pPow [eC (.int 10), eC (.int 12)])])]), (ePr pSub [(ePr pPow [eC (.int 10), eC (.int 12)]), (ePr pMod [(ePr pDiv [eVar 3, eC (.int 4)]), eC (.int 3)])]), (ePr pAdd [eC (.int 1), (ePr pMod [(ePr pDiv [eVar 3, eC (.int 4)]), eC (.int 1000)])])]))))
  ((sSeq ((sSet 5 ((ePr pLst [eC (.int 1), (ePr pAdd [eC (.int 1), (ePr pMod [(ePr pDiv [eVar 3, eC (.int 64)]), eC (.int 12)])]), (ePr pAdd [eC (.int 1), (ePr pMod [(ePr pDiv [eVar 3, eC (.int 64)]), (ePr pPow [eC (.int 10), eC (.int 6)])])]), (ePr pSub [(ePr pPow [eC (.int 10), eC (.int 6)]), (ePr pMod [(ePr pDiv [eVar 3, eC (.int 64)]), eC (.int 2)])]), eC (.int 1)]))))
  ((sRet ((eCall m__law_lowest [] [(ePr pIx [eVar 4, (ePr pMod [eVar 3, eC (.int 4)])]), (ePr pIx [eVar 5, (ePr pMod [(ePr pDiv [eVar 3, eC (.int 16)]), eC (.int 5)])])])))))))))
def m__law_amount : List D → Ot D := bodyM 6 g__law_amount
def g_Goods_need_good : Mst :=
  (sIf ((bOr ((bNot ((eT ((eIsi (nbTy "str") (fun _ => none) (eVar 1))))))) ((eT (ePr pNotIn [eVar 1, (ePr (pFld ["Goods"] "signs") [eVar 0])])))))
  ((fun _ => none))
  (sNil))
def m_Goods_need_good : List D → Ot D := bodyM 2 g_Goods_need_good
def g_is_whole : Mst :=
  (sRet ((eAnd ((eIsi (nbTy "int") (fun _ => none) (eVar 0))) ((eNot ((eIsi (nbTy "bool") (fun _ => none) (eVar 0))))))))
def m_is_whole : List D → Ot D := bodyM 1 g_is_whole
def lt_common_1 : En → Ot Bool :=
  (eT (ePr pGt [eVar 1, eC (.int 0)]))
def lb_common_1 : Mst :=
  (sPar [0, 1] [eVar 1, (ePr pMod [eVar 0, eVar 1])])
def lp_common_1 : Mst :=
  (sWhile (lt_common_1)
  (lb_common_1))
def g_common : Mst :=
  (sSeq (lp_common_1)
  ((sRetV 0)))
def m_common : List D → Ot D := bodyM 2 g_common
def g_is_ratio : Mst :=
  (sSeq ((sIf ((bOr ((bNot ((eT ((eIsi (nbTy "tuple") (fun _ => none) (eVar 0))))))) ((bOr ((eT (ePr pNe [(ePr pLen [eVar 0]), eC (.int 2)]))) ((bOr ((bNot ((eT ((eCall m_is_whole [] [(ePr pIx [eVar 0, eC (.int 0)])])))))) ((bNot ((eT ((eCall m_is_whole [] [(ePr pIx [eVar 0, eC (.int 1)])]))))))))))))
  ((sRet (eC (.bl false))))
  (sNil)))
  ((sRet ((eAnd ((ePr pGt [(ePr pIx [eVar 0, eC (.int 1)]), eC (.int 0)])) ((ePr pEq [(eCall m_common [] [(ePr pAbs [(ePr pIx [eVar 0, eC (.int 0)])]), (ePr pIx [eVar 0, eC (.int 1)])]), eC (.int 1)])))))))
def m_is_ratio : List D → Ot D := bodyM 1 g_is_ratio
def g_is_amount : Mst :=
  (sRet ((eAnd ((eCall m_is_ratio [] [eVar 0])) ((eAnd ((eChain pLe pLe (eVar 1) ((ePr pIx [eVar 0, eC (.int 0)])) (eC (.int 1000000000000)))) ((ePr pLe [(ePr pIx [eVar 0, eC (.int 1)]), eC (.int 1000000)])))))))
def m_is_amount : List D → Ot D := bodyM 2 g_is_amount
def st_Goods_put_measure_1 : Mst :=
  (sExpr ((eMeth "Goods" "need_good" m_Goods_need_good [] (eVar 0) [eVar 1])))
def st_Goods_put_measure_2 : Mst :=
  (sIf ((bNot ((eT ((eCall m_is_name [] [eVar 2]))))))
  ((fun _ => none))
  (sNil))
def st_Goods_put_measure_3 : Mst :=
  (sIf ((eT (ePr pIn [eVar 2, (ePr pIx [(ePr (pFld ["Goods"] "sizes") [eVar 0]), eVar 1])])))
  ((fun _ => none))
  (sNil))
def st_Goods_put_measure_4 : Mst :=
  (sIf ((bNot ((eT ((eCall m_is_amount [] [eVar 3, eC (.int 1)]))))))
  ((fun _ => none))
  (sNil))
def st_Goods_put_measure_5 : Mst :=
  (sIf ((eT (ePr pEq [(ePr pLen [(ePr pIx [(ePr (pFld ["Goods"] "sizes") [eVar 0]), eVar 1])]), eC (.int 6)])))
  ((fun _ => none))
  (sNil))
def st_Goods_put_measure_6 : Mst :=
  (sPut2 0 (πIx 0 (πFld 0 pHere ["Goods"] "sizes") (eVar 1)) (eVar 3) (eVar 2))
def g_Goods_put_measure : Mst :=
  (sSeq (st_Goods_put_measure_1)
  ((sSeq (st_Goods_put_measure_2)
  ((sSeq (st_Goods_put_measure_3)
  ((sSeq (st_Goods_put_measure_4)
  ((sSeq (st_Goods_put_measure_5)
  (st_Goods_put_measure_6))))))))))
def m_Goods_put_measure : MM := bodyMM 4 [0] g_Goods_put_measure
def ce__law_deed_1 : En → Ot D :=
  (ePr pIx [eVar 9, eC (.int 0)])
def cp__law_deed_1 : En → Ot D :=
  eComp (itV ((ePr pIx [(ePr pIx [eVar 1, eC (.str "sizes")]), eVar 6]))) (tgName 9) cYes (ce__law_deed_1) [9]
def cc__law_deed_1 : En → Ot Bool :=
  (eT (ePr pNotIn [eVar 10, eVar 7]))
def cp__law_deed_2 : En → Ot D :=
  eComp (itV (eVar 2)) (tgName 10) cc__law_deed_1 (eVar 10) [10]
def st__law_deed_1 : Mst :=
  (sSet 5 ((eCall m__law_draw [] [eVar 3, eVar 4, eC (.int 0)])))
def st__law_deed_2 : Mst :=
  (sIf ((bOr ((eT (ePr pEq [(ePr pIx [eVar 1, eC (.str "order")]), (ePr pLst [])]))) ((bAnd ((eT (ePr pEq [(ePr pMod [eVar 5, eC (.int 3)]), eC (.int 0)]))) ((eT (ePr pLt [(ePr pLen [(ePr pIx [eVar 1, eC (.str "order")])]), eC (.int 10)])))))))
  ((xOn (xCall m__law_put [.pl 0 pHere, .pl 1 pHere, .hd (eVar 2), .hd (eVar 3), .hd (eVar 4)] []) (fun d ρ => some (.ret d, ρ))))
  (sNil))
def st__law_deed_3 : Mst :=
  (sSet 6 ((ePr pIx [(ePr pIx [eVar 1, eC (.str "order")]), (ePr pMod [(ePr pDiv [eVar 5, eC (.int 3)]), (ePr pLen [(ePr pIx [eVar 1, eC (.str "order")])])])])))
def st__law_deed_4 : Mst :=
  (sIf ((eT (ePr pEq [(ePr pLen [eVar 7]), eC (.int 6)])))
  ((sRet (eC (.bl true))))
  (sNil))
def st__law_deed_5 : Mst :=
  (sSet 9 ((ePr pTup [(ePr pIx [eVar 8, (ePr pMod [(ePr pDiv [eVar 5, eC (.int 60)]), (ePr pLen [eVar 8])])]), (eCall m__law_amount [] [eVar 3, eVar 4, eC (.int 2)])])))
def st__law_deed_6 : Mst :=
  (xOn (xBm 1 (πIx 1 (πIx 1 pHere (eC (.str "sizes"))) (eVar 6)) oApp (eL [eVar 9])) (fun _ ρ => some (.nx, ρ)))
def st__law_deed_7 : Mst :=
  (xOn (xL pIs (xMeth "Goods" "put_measure" m_Goods_put_measure [.pl 0 pHere, .hd (eVar 6), .hd ((ePr pIx [eVar 9, eC (.int 0)])), .hd ((ePr pIx [eVar 9, eC (.int 1)]))] []) (eC .non)) (fun d ρ => some (.ret d, ρ)))
def g__law_deed : Mst :=
  (sSeq (st__law_deed_1)
  ((sSeq (st__law_deed_2)
  ((sSeq (st__law_deed_3)
  ((sSeq ((sSet 7 (cp__law_deed_1)))
  ((sSeq ((sSet 8 (cp__law_deed_2)))
  ((sSeq (st__law_deed_4)
  ((sSeq (st__law_deed_5)
  ((sSeq (st__law_deed_6)
  (st__law_deed_7))))))))))))))))
def m__law_deed : MM := bodyMM 11 [0, 1] g__law_deed
def g_Goods_called_goods : Mst :=
  (sRet ((ePr pList3 [(ePr (pFld ["Goods"] "crowd") [eVar 0])])))
def m_Goods_called_goods : List D → Ot D := bodyM 1 g_Goods_called_goods
def g_Goods_marks_of : Mst :=
  (sSeq ((sExpr ((eMeth "Goods" "need_good" m_Goods_need_good [] (eVar 0) [eVar 1]))))
  ((sRet ((ePr pList3 [(ePr pIx [(ePr (pFld ["Goods"] "signs") [eVar 0]), eVar 1])])))))
def m_Goods_marks_of : List D → Ot D := bodyM 2 g_Goods_marks_of
def ce_Goods_measures_of_1 : En → Ot D :=
  (ePr pTup [eVar 2, (ePr pIx [(ePr pIx [(ePr (pFld ["Goods"] "sizes") [eVar 0]), eVar 1]), eVar 2])])
def cp_Goods_measures_of_1 : En → Ot D :=
  eCompK 0 (πIx 0 (πFld 0 pHere ["Goods"] "sizes") (eVar 1)) (tgName 2) cYes (ce_Goods_measures_of_1) [2]
def g_Goods_measures_of : Mst :=
  (sSeq ((sExpr ((eMeth "Goods" "need_good" m_Goods_need_good [] (eVar 0) [eVar 1]))))
  ((sRet (cp_Goods_measures_of_1))))
def m_Goods_measures_of : List D → Ot D := bodyM 3 g_Goods_measures_of
def cc__law_is_ratio_1 : En → Ot Bool :=
  (bOr ((eT ((eIsi (nbTy "bool") (fun _ => none) (eVar 2))))) ((bNot ((eT ((eIsi (nbTy "int") (fun _ => none) (eVar 2))))))))
def cp__law_is_ratio_1 : En → Ot D :=
  eComp (itV (eVar 0)) (tgName 2) cc__law_is_ratio_1 (eVar 2) [2]
def g__law_is_ratio : Mst :=
  (sSeq ((sIf ((bOr ((bNot ((eT ((eIsi (nbTy "tuple") (fun _ => none) (eVar 0))))))) ((eT (ePr pNe [eVar 0, eVar 1])))))
  ((sRet (eC (.bl false))))
  (sNil)))
  ((sRet ((ePr pEq [cp__law_is_ratio_1, (ePr pLst [])])))))
def m__law_is_ratio : List D → Ot D := bodyM 3 g__law_is_ratio
def g_ratio : Mst :=
  (sSeq ((sIf ((eT (ePr pLt [eVar 1, eC (.int 0)])))
  ((sPar [0, 1] [(ePr pSub [eC (.int 0), eVar 0]), (ePr pSub [eC (.int 0), eVar 1])]))
  (sNil)))
  ((sSeq ((sSet 2 ((eCall m_common [] [(ePr pAbs [eVar 0]), eVar 1]))))
  ((sRet ((ePr pTup [(ePr pDiv [eVar 0, eVar 2]), (ePr pDiv [eVar 1, eVar 2])])))))))
def m_ratio : List D → Ot D := bodyM 3 g_ratio
def g_times : Mst :=
  (sRet ((eCall m_ratio [] [(ePr pMul [(ePr pIx [eVar 0, eC (.int 0)]), (ePr pIx [eVar 1, eC (.int 0)])]), (ePr pMul [(ePr pIx [eVar 0, eC (.int 1)]), (ePr pIx [eVar 1, eC (.int 1)])])])))
def m_times : List D → Ot D := bodyM 2 g_times
def g_Goods_own_amount : Mst :=
  (sSeq ((sExpr ((eMeth "Goods" "need_good" m_Goods_need_good [] (eVar 0) [eVar 1]))))
  ((sSeq ((sIf ((bOr ((bNot ((eT ((eIsi (nbTy "str") (fun _ => none) (eVar 2))))))) ((eT (ePr pNotIn [eVar 2, (ePr pIx [(ePr (pFld ["Goods"] "sizes") [eVar 0]), eVar 1])])))))
  ((fun _ => none))
  (sNil)))
  ((sSeq ((sIf ((bOr ((bNot ((eT ((eCall m_is_ratio [] [eVar 3])))))) ((eT (ePr pLt [(ePr pIx [eVar 3, eC (.int 0)]), eC (.int 0)])))))
  ((fun _ => none))
  (sNil)))
  ((sRet ((eCall m_times [] [eVar 3, (ePr pIx [(ePr pIx [(ePr (pFld ["Goods"] "sizes") [eVar 0]), eVar 1]), eVar 2])])))))))))
def m_Goods_own_amount : List D → Ot D := bodyM 4 g_Goods_own_amount
def ce__law_named_right_1 : En → Ot D :=
  (eIsi (nbTy "tuple") (fun _ => none) (eVar 10))
def cp__law_named_right_1 : En → Ot D :=
  eComp (itV (eVar 5)) (tgName 10) cYes (ce__law_named_right_1) [10]
def ce__law_named_right_2 : En → Ot D :=
  (eCall m__law_is_ratio [] [(ePr pIx [eVar 10, eC (.int 1)]), (ePr pIx [eVar 10, eC (.int 1)])])
def cp__law_named_right_2 : En → Ot D :=
  eComp (itV (eVar 5)) (tgName 10) cYes (ce__law_named_right_2) [10]
def lb__law_named_right_1 : Mst :=
  (sSeq ((sSet 8 ((ePr pIx [(ePr pLst [(ePr pTup [eC (.int 0), eC (.int 1)]), (eCall m__law_amount [] [eVar 3, eC (.int 3), eC (.int 8)]), (eCall m__law_lowest [] [(ePr pAdd [eC (.int 1), (ePr pMod [eVar 3, (ePr pPow [eC (.int 10), eC (.int 9)])])]), (ePr pAdd [(ePr pPow [eC (.int 10), eC (.int 9)]), eC (.int 7)])])]), (ePr pMod [eVar 3, eC (.int 3)])]))))
  ((sSeq ((sSet 9 ((eCall m__law_lowest [] [(ePr pMul [(ePr pIx [eVar 8, eC (.int 0)]), (ePr pIx [eVar 7, eC (.int 0)])]), (ePr pMul [(ePr pIx [eVar 8, eC (.int 1)]), (ePr pIx [eVar 7, eC (.int 1)])])]))))
  ((sIf ((bNot ((eT ((eCall m__law_is_ratio [] [(eMeth "Goods" "own_amount" m_Goods_own_amount [] (eVar 0) [eVar 2, eVar 6, eVar 8]), eVar 9]))))))
  ((sRet (eC (.bl false))))
  (sNil))))))
def lp__law_named_right_1 : Mst :=
  (sFor (itV ((ePr pIx [(ePr pIx [eVar 1, eC (.str "sizes")]), eVar 2]))) (tgTup [(tgName 6), (tgName 7)])
  (lb__law_named_right_1))
def st__law_named_right_1 : Mst :=
  (sPar [4, 5] [(eMeth "Goods" "marks_of" m_Goods_marks_of [] (eVar 0) [eVar 2]), (eMeth "Goods" "measures_of" m_Goods_measures_of [] (eVar 0) [eVar 2])])
def st__law_named_right_2 : Mst :=
  (sIf ((bOr ((bNot ((eT ((eIsi (nbTy "list") (fun _ => none) (eVar 4))))))) ((bOr ((eT (ePr pNe [eVar 4, (ePr pIx [(ePr pIx [eVar 1, eC (.str "marks")]), eVar 2])]))) ((bNot ((eT ((eIsi (nbTy "list") (fun _ => none) (eVar 5)))))))))))
  ((sRet (eC (.bl false))))
  (sNil))
def st__law_named_right_3 : Mst :=
  (sIf ((bOr ((eT (ePr pNe [eVar 5, (ePr pIx [(ePr pIx [eVar 1, eC (.str "sizes")]), eVar 2])]))) ((bNot ((eT ((ePr pAll [cp__law_named_right_1]))))))))
  ((sRet (eC (.bl false))))
  (sNil))
def st__law_named_right_4 : Mst :=
  (sIf ((bOr ((bNot ((eT ((ePr pAll [cp__law_named_right_2])))))) ((eT (ePr pIsN [(eMeth "Goods" "need_good" m_Goods_need_good [] (eVar 0) [eVar 2]), eC .non])))))
  ((sRet (eC (.bl false))))
  (sNil))
def g__law_named_right : Mst :=
  (sSeq (st__law_named_right_1)
  ((sSeq (st__law_named_right_2)
  ((sSeq (st__law_named_right_3)
  ((sSeq (st__law_named_right_4)
  ((sSeq ((sMut 4 pHere mApp (eL [eC (.str "more")])))
  ((sSeq ((sMut 5 pHere mApp (eL [eC (.str "more")])))
  ((sSeq (lp__law_named_right_1)
  ((sRet (eC (.bl true)))))))))))))))))
def m__law_named_right : List D → Ot D := bodyM 11 g__law_named_right
def lb__law_right_1 : Mst :=
  (sIf ((bNot ((eT ((eCall m__law_named_right [] [eVar 0, eVar 1, eVar 5, (ePr pDiv [eVar 2, eC (.int 2)])]))))))
  ((sRet (eC (.bl false))))
  (sNil))
def lp__law_right_1 : Mst :=
  (sFor (itV ((ePr pIx [eVar 1, eC (.str "order")]))) (tgName 5)
  (lb__law_right_1))
def lb__law_right_2 : Mst :=
  (sIf ((eT (ePr pEq [(ePr pMod [(ePr pAdd [eVar 2, eVar 3]), eC (.int 2)]), eC (.int 0)])))
  ((sSeq ((sSet 4 ((eMeth "Goods" "called_goods" m_Goods_called_goods [] (eVar 0) []))))
  ((sSeq ((sIf ((bOr ((bNot ((eT ((eIsi (nbTy "list") (fun _ => none) (eVar 4))))))) ((eT (ePr pNe [eVar 4, (ePr pIx [eVar 1, eC (.str "order")])])))))
  ((sRet (eC (.bl false))))
  (sNil)))
  ((sMut 4 pHere mApp (eL [eC (.str "more")])))))))
  (lp__law_right_1))
def lp__law_right_2 : Mst :=
  (sFor (itR1 [eC (.int 2)]) (tgName 3)
  (lb__law_right_2))
def g__law_right : Mst :=
  (sSeq (lp__law_right_2)
  ((sRet (eC (.bl true)))))
def m__law_right : List D → Ot D := bodyM 6 g__law_right
def lb_law_1 : Mst :=
  (sIf ((bNot ((eT ((eCall m__law_right [] [(ePr pIx [eVar 3, eVar 10]), (ePr pIx [eVar 4, eVar 10]), (ePr pDiv [eVar 8, eC (.int 35)])]))))))
  ((sRet (eC (.bl false))))
  (sNil))
def lp_law_1 : Mst :=
  (sFor (itV ((ePr pTup [eVar 9, (ePr pSub [eC (.int 1), eVar 9])]))) (tgName 10)
  (lb_law_1))
def st_law_1 : Mst :=
  (sSet 8 ((eCall m__law_draw [] [eVar 7, eVar 6, eC (.int 20)])))
def st_law_2 : Mst :=
  (sSet 9 ((ePr pInt4 [(ePr pEq [(ePr pMod [eVar 8, eC (.int 5)]), eC (.int 1)])])))
def st_law_3 : Mst :=
  (sIf ((eT (ePr pEq [(ePr pMod [(ePr pDiv [eVar 8, eC (.int 5)]), eC (.int 7)]), eC (.int 1)])))
  ((sSeq ((sFzP 3 (πIx 3 pHere (eVar 9)) (sMut 5 pHere mApp (eL [(ePr pTup [(ePr pIx [eVar 3, eVar 9]), (eCall m__law_kept [] [(ePr pIx [eVar 4, eVar 9])])])]))))
  ((sPut2 3 pHere ((eMeth "Goods" "copied" m_Goods_copied [] ((ePr pIx [eVar 3, eVar 9])) [])) (eVar 9)))))
  (sNil))
def st_law_4 : Mst :=
  (sIf ((bNot ((eT ((eIsi (fun _ => none) (obC "Goods") ((ePr pIx [eVar 3, eVar 9]))))))))
  ((sRet (eC (.bl false))))
  (sNil))
def st_law_5 : Mst :=
  (sIfX (xNotT (xTr (xCall m__law_deed [.pl 3 (πIx 3 pHere (eVar 9)), .pl 4 (πIx 4 pHere (eVar 9)), .hd (eVar 2), .hd (eVar 7), .hd (eVar 6)] [])))
  ((sRet (eC (.bl false))))
  (sNil))
def lb_law_2 : Mst :=
  (sSeq (st_law_1)
  ((sSeq (st_law_2)
  ((sSeq (st_law_3)
  ((sSeq (st_law_4)
  ((sSeq (st_law_5)
  (lp_law_1))))))))))
def lp_law_2 : Mst :=
  (sFz 1 (sFor (itEnum [eVar 1]) (tgTup [(tgName 6), (tgName 7)])
  (lb_law_2)))
def cc_law_1 : En → Ot Bool :=
  (bNot ((eT ((eCall m__law_right [] [(ePr pIx [eVar 11, eC (.int 0)]), (ePr pIx [eVar 11, eC (.int 1)]), eC (.int 4)])))))
def cp_law_1 : En → Ot D :=
  eComp (itV (eVar 5)) (tgName 11) cc_law_1 (eVar 11) [11]
def st_law_6 : Mst :=
  (sSet 1 ((eSl pSl (eVar 0) (oNone) ((oSome (eC (.int 63)))))))
def st_law_7 : Mst :=
  (sSet 2 ((eCall m__law_pool [] [(ePr pSum [(eSl pSl (eVar 1) (oNone) ((oSome (eC (.int 3)))))]), eC (.int 16)])))
def st_law_8 : Mst :=
  (sSet 3 ((ePr pLst [(eMake "Goods" m_Goods___init__ [] []), (eMake "Goods" m_Goods___init__ [] [])])))
def st_law_9 : Mst :=
  (sSet 4 ((ePr pLst [(eDisp [.inr "order", .inr "marks", .inr "sizes"] [(ePr pLst []), eC (.nd (.dct .own []) []), eC (.nd (.dct .own []) [])]), (eDisp [.inr "order", .inr "marks", .inr "sizes"] [(ePr pLst []), eC (.nd (.dct .own []) []), eC (.nd (.dct .own []) [])])])))
def g_law : Mst :=
  (sSeq (st_law_6)
  ((sSeq (st_law_7)
  ((sSeq (st_law_8)
  ((sSeq (st_law_9)
  ((sSeq ((sSet 5 ((ePr pLst []))))
  ((sSeq (lp_law_2)
  ((sRet ((ePr pEq [cp_law_1, (ePr pLst [])])))))))))))))))
def m_law : List D → Ot D := bodyM 12 g_law
end
structure Txt (K : PySem.W.Frag) (mg : Str → Option Value) (cm : Cm) : Prop where
  c_MOST_LETTERS : ∃ t, mg "MOST_LETTERS" = some (.int 12 t)
  c_LETTERS : ∃ t, mg "LETTERS" = some (.str "abcdefghijklmnopqrstuvwxyz" t)
  c_MOST_MARKS : ∃ t, mg "MOST_MARKS" = some (.int 6 t)
  c_MOST_GOODS : ∃ t, mg "MOST_GOODS" = some (.int 10 t)
  c_MOST_TOP : ∃ t, mg "MOST_TOP" = some (.int 1000000000000 t)
  c_MOST_BOTTOM : ∃ t, mg "MOST_BOTTOM" = some (.int 1000000 t)
  c_MOST_MEASURES : ∃ t, mg "MOST_MEASURES" = some (.int 6 t)
  n_range : mg "range" = none
  n_enumerate : mg "enumerate" = none
  n_dict : mg "dict" = none
  n_list : mg "list" = none
  n_all : mg "all" = none
  n_isinstance : mg "isinstance" = none
  n_str : mg "str" = none
  n_len : mg "len" = none
  n_set : mg "set" = none
  n_abs : mg "abs" = none
  n_int : mg "int" = none
  n_bool : mg "bool" = none
  n_tuple : mg "tuple" = none
  n_sum : mg "sum" = none
  f_crowd : ∀ c ∈ (["Goods"] : List Str), Cls K (cm c) ∧ NoAttr K (cm c) "crowd"
  f_signs : ∀ c ∈ (["Goods"] : List Str), Cls K (cm c) ∧ NoAttr K (cm c) "signs"
  f_sizes : ∀ c ∈ (["Goods"] : List Str), Cls K (cm c) ∧ NoAttr K (cm c) "sizes"
  g_Goods : mg "Goods" = some (.ref (cm "Goods"))
  i_Goods : InsK K (cm "Goods")
  dig : PySem.W.nsIn K cStatics "sys.int_max_str_digits" = some none
section
variable {w : World} {K : PySem.W.Frag} {mg : Str → Option Value} {base : Heap} {cm : Cm} {f : Addr} {fd : FuncData} {dvs : List V} {kws : List (Str × V)}
abbrev s__law_draw : Stmt := top 29
abbrev N__law_draw : List Str := ["_law_cell", "_law_k", "_law_j", "_law_more"]
theorem sc__law_draw : FnScope N__law_draw ["_law_cell", "_law_k", "_law_j"] (defScope s__law_draw) := ⟨rfl, rfl, rfl, by decide +kernel, rfl, by decide +kernel, by decide +kernel⟩
theorem ok__law_draw (T : Txt K mg cm) (F : Fun K "_law_draw" "_law_draw" s__law_draw f fd) : FnOk P0 w K mg base (L2.CX P0 w) 1 f fd ["_law_cell", "_law_k", "_law_j"] (spP K cm 3 m__law_draw) := by
  refine fn_pure F sc__law_draw (by decide) fun cdv A outer s H E hr => ?_
  exact (sb_cons (ss_set (by rfl) (ps_set (i := 3) sc__law_draw.nd rfl (by first | exact Or.inl rfl | exact Or.inr rfl) (s_op op_add4 ok_add (s_op op_mul3 ok_mul (s_op op_mul3 ok_mul (s_op op_add4 ok_add (s_var (pv 1)) s_int) (s_op op_add4 ok_add (s_var (pv 1)) s_int)) s_int) (s_op op_mul3 ok_mul (s_op op_mul3 ok_mul (s_op op_add4 ok_add (s_var (pv 2)) s_int) (s_op op_add4 ok_add (s_var (pv 2)) s_int)) s_int))))
    (sb_one (ss_ret (s_op op_divD ok_div (s_op op_modD ok_mod (s_op op_mul3 ok_mul (s_op op_modD ok_mod (s_op op_add4 ok_add (s_op op_mul3 ok_mul (s_op op_modD ok_mod (s_var (pv 0)) s_int) s_int) (s_var (pv 3))) s_int) s_int) s_int) s_int))))
abbrev s__law_pool : Stmt := top 30
abbrev N__law_pool : List Str := ["_law_cell", "_law_many", "_law_letters", "_law_n", "_law_base", "_law_signs", "_law_at", "_law_found", "_law_j", "_law_sign", "_law_name"]
theorem sc__law_pool : FnScope N__law_pool ["_law_cell", "_law_many"] (defScope s__law_pool) := ⟨rfl, rfl, rfl, by decide +kernel, rfl, by decide +kernel, by decide +kernel⟩
theorem ok__law_pool (T : Txt K mg cm) (F : Fun K "_law_pool" "_law_pool" s__law_pool f fd) (G__law_draw : Good P0 w K mg base cm "_law_draw" 3 1 m__law_draw) : FnOk P0 w K mg base (L2.CX P0 w) 2 f fd ["_law_cell", "_law_many"] (spP K cm 2 m__law_pool) := by
  refine fn_pure F sc__law_pool (by decide) fun cdv A outer s H E hr => ?_
  exact (sb_cons (ss_set (by rfl) (ps_set (i := 2) sc__law_pool.nd rfl (by first | exact Or.inl rfl | exact Or.inr rfl) s_str))
    (sb_cons (ss_set (by rfl) (ps_set (i := 3) sc__law_pool.nd rfl (by first | exact Or.inl rfl | exact Or.inr rfl) (s_callG (takes_of rfl rfl rfl rfl) G__law_draw hr (by decide) (by rfl) (by rfl) (sa_cons (s_var (pv 0)) (sa_cons s_int (sa_cons s_int sa_nil))))))
    (sb_cons (ss_set (by rfl) (ps_set (i := 4) sc__law_pool.nd rfl (by first | exact Or.inl rfl | exact Or.inr rfl) (s_bm PySem.F.plainAttrs_str PySem.F.slot_str_join PySem.F.type_str_join mt_join ok_join s_str (sa_cons (s_comp (own := [("_law_j", 8)]) (by rfl) sc__law_pool.nd (si_r1 (by rfl) T.n_range (sa_cons s_int sa_nil)) (blkOk_by (N := N__law_pool) (sc := defScope s__law_pool) (own := [("_law_j", 8)]) (by decide +kernel)) (by rfl) okTg_name (fun _ _ _ _ _ => (pg_name (i := 8) sc__law_pool.nd rfl (by first | exact Or.inl rfl | exact Or.inr rfl))) (fun _ _ _ _ _ => pts_nil) yes_T (fun _ _ _ _ _ => (s_ix (ix_4 (hu_of hr)) ok_ix (s_var (pv 2)) (s_op op_modD ok_mod (s_op op_add4 ok_add (s_op op_divD ok_div (s_var (pv 3)) s_int) (s_op op_mul3 ok_mul (s_op op_add4 ok_add s_int (s_op op_modD ok_mod (s_var (pv 3)) s_int)) (s_var (pv 8)))) s_int)))) sa_nil))))
    (sb_cons (ss_setC (i := 5) (by rfl) rfl rfl (sw_true rfl rfl rfl (by decide +kernel)) (own := [("_law_j", 8)]) (by rfl) sc__law_pool.nd (si_r1 (by rfl) T.n_range (sa_cons (s_var (pv 1)) sa_nil)) (blkOk_by (N := N__law_pool) (sc := defScope s__law_pool) (own := [("_law_j", 8)]) (by decide +kernel)) (by rfl) okTg_name (fun _ _ _ _ _ => (pg_name (i := 8) sc__law_pool.nd rfl (by first | exact Or.inl rfl | exact Or.inr rfl))) (fun _ _ _ _ _ => pts_nil) yes_T (fun _ _ _ _ _ => (s_ix (ix_4 (hu_of hr)) ok_ix (s_var (pv 2)) (s_op op_modD ok_mod (s_op op_add4 ok_add (s_op op_divD ok_div (s_var (pv 3)) s_int) (s_op op_mul3 ok_mul s_int (s_var (pv 8)))) s_int))))
    (sb_cons (ss_if (st_cmp (op_eqQ hr.units) ok_eq (s_op op_modD ok_mod (s_op op_divD ok_div (s_var (pv 3)) s_int) s_int) s_int (nomark _))
    (sb_one (ss_ret (s_comp (own := [("_law_j", 8), ("_law_sign", 9)]) (by rfl) sc__law_pool.nd (si_enum (by rfl) T.n_enumerate (sa_cons (s_var (pv 5)) sa_nil)) (blkOk_by (N := N__law_pool) (sc := defScope s__law_pool) (own := [("_law_j", 8), ("_law_sign", 9)]) (by decide +kernel)) (by rfl) (okTg_tup (n := 2) rfl (okTgs_cons okTg_name (okTgs_cons okTg_name okTgs_nil))) (fun _ _ _ _ _ => (pg_tup (by rfl) (pgs_cons (pg_name (i := 8) sc__law_pool.nd rfl (by first | exact Or.inl rfl | exact Or.inr rfl)) (pgs_cons (pg_name (i := 9) sc__law_pool.nd rfl (by first | exact Or.inl rfl | exact Or.inr rfl)) pgs_nil)))) (fun _ _ _ _ _ => pts_nil) yes_T (fun _ _ _ _ _ => (s_op op_add4 ok_add (s_var (pv 9)) (s_slice sl_3 ok_sl (s_var (pv 4)) so_none (so_some (s_op op_modD ok_mod (s_op op_add4 ok_add (s_op op_mul3 ok_mul s_int (s_var (pv 8))) (s_op op_divD ok_div (s_var (pv 3)) s_int)) s_int))))))))
    sb_nil)
    (sb_cons (ss_set (by rfl) (ps_set (i := 6) sc__law_pool.nd rfl (by first | exact Or.inl rfl | exact Or.inr rfl) (s_op op_modD ok_mod (s_op op_divD ok_div (s_var (pv 3)) s_int) (s_op op_add4 ok_add (s_op op_modD ok_mod (s_var (pv 3)) s_int) s_int))))
    (sb_cons (ss_set (by rfl) (ps_set (i := 7) sc__law_pool.nd rfl (by first | exact Or.inl rfl | exact Or.inr rfl) (s_comp (own := [("_law_sign", 9)]) (by rfl) sc__law_pool.nd (si_val (s_var (pv 5))) (blkOk_by (N := N__law_pool) (sc := defScope s__law_pool) (own := [("_law_sign", 9)]) (by decide +kernel)) (by rfl) okTg_name (fun _ _ _ _ _ => (pg_name (i := 9) sc__law_pool.nd rfl (by first | exact Or.inl rfl | exact Or.inr rfl))) (fun _ _ _ _ _ => pts_nil) yes_T (fun _ _ _ _ _ => (s_op op_add4 ok_add (s_op op_add4 ok_add (s_slice sl_3 ok_sl (s_var (pv 4)) so_none (so_some (s_var (pv 6)))) (s_var (pv 9))) (s_slice sl_3 ok_sl (s_var (pv 4)) (so_some (s_var (pv 6))) (so_some (s_op op_modD ok_mod (s_var (pv 3)) s_int))))))))
    (sb_cons (ss_if (st_cmp (op_eqQ hr.units) ok_eq (s_op op_modD ok_mod (s_op op_divD ok_div (s_var (pv 3)) s_int) s_int) s_int (nomark _))
    (sb_one (ss_set (by rfl) (ps_set (i := 7) sc__law_pool.nd rfl (by first | exact Or.inl rfl | exact Or.inr rfl) (s_op op_add4 ok_add (s_comp (own := [("_law_j", 8)]) (by rfl) sc__law_pool.nd (si_r1 (by rfl) T.n_range (sa_cons s_int sa_nil)) (blkOk_by (N := N__law_pool) (sc := defScope s__law_pool) (own := [("_law_j", 8)]) (by decide +kernel)) (by rfl) okTg_name (fun _ _ _ _ _ => (pg_name (i := 8) sc__law_pool.nd rfl (by first | exact Or.inl rfl | exact Or.inr rfl))) (fun _ _ _ _ _ => pts_nil) yes_T (fun _ _ _ _ _ => (s_slice sl_3 ok_sl (s_var (pv 4)) so_none (so_some (s_op op_add4 ok_add (s_var (pv 8)) s_int))))) (s_var (pv 7))))))
    sb_nil)
    (sb_one (ss_retF (s_slice sl_3 ok_sl (s_comp (own := [("_law_j", 8), ("_law_name", 10)]) (by rfl) sc__law_pool.nd (si_enum (by rfl) T.n_enumerate (sa_cons (s_var (pv 7)) sa_nil)) (blkOk_by (N := N__law_pool) (sc := defScope s__law_pool) (own := [("_law_j", 8), ("_law_name", 10)]) (by decide +kernel)) (by rfl) (okTg_tup (n := 2) rfl (okTgs_cons okTg_name (okTgs_cons okTg_name okTgs_nil))) (fun _ _ _ _ _ => (pg_tup (by rfl) (pgs_cons (pg_name (i := 8) sc__law_pool.nd rfl (by first | exact Or.inl rfl | exact Or.inr rfl)) (pgs_cons (pg_name (i := 10) sc__law_pool.nd rfl (by first | exact Or.inl rfl | exact Or.inr rfl)) pgs_nil)))) (fun _ _ _ _ _ => (pts_one (st_cmp (op_notIn3 (hu_of hr)) ok_notIn (s_var (pv 10)) (s_slice sl_3 ok_sl (s_var (pv 7)) so_none (so_some (s_var (pv 8)))) rfl))) (fun _ _ _ h => h) (fun _ _ _ _ _ => (s_var (pv 10)))) so_none (so_some (s_var (pv 1))))))))))))))
abbrev s_Goods___init__ : Stmt := (clsB (top 27)).getD 0 (.Pass ⟨0, 0, 0, 0⟩)
abbrev N_Goods___init__ : List Str := ["self"]
theorem sc_Goods___init__ : FnScope N_Goods___init__ ["self"] (defScope s_Goods___init__) := ⟨rfl, rfl, rfl, by decide +kernel, rfl, by decide +kernel, by decide +kernel⟩
theorem ok_Goods___init__ (T : Txt K mg cm) (F : FunD K "__init__" "Goods.__init__" (defArgs s_Goods___init__) (defBody s_Goods___init__) (defScope s_Goods___init__) dvs kws f fd) : FnOk P0 w K mg base (L2.CX P0 w) 1 f fd ["self"] (spM K cm 1 [0] m_Goods___init__) := by
  refine fn_mut F sc_Goods___init__ (by decide) (by decide) fun cdv A outer s H E hr => ?_
  exact (sb_cons (ss_fld T.f_crowd (sp2_name (pv 0)) (s_lst sa_nil))
    (sb_cons (ss_fld T.f_signs (sp2_name (pv 0)) s_dict0)
    (sb_one (ss_fld T.f_sizes (sp2_name (pv 0)) s_dict0))))
abbrev s__law_kept : Stmt := top 38
abbrev N__law_kept : List Str := ["_law_own", "_law_sizes", "_law_marks", "_law_name"]
theorem sc__law_kept : FnScope N__law_kept ["_law_own"] (defScope s__law_kept) := ⟨rfl, rfl, rfl, by decide +kernel, rfl, by decide +kernel, by decide +kernel⟩
theorem ok__law_kept (T : Txt K mg cm) (F : Fun K "_law_kept" "_law_kept" s__law_kept f fd) : FnOk P0 w K mg base (L2.CX P0 w) 1 f fd ["_law_own"] (spP K cm 1 m__law_kept) := by
  refine fn_pure F sc__law_kept (by decide) fun cdv A outer s H E hr => ?_
  exact (sb_cons (ss_set (by rfl) (ps_set (i := 1) sc__law_kept.nd rfl (by first | exact Or.inl rfl | exact Or.inr rfl) (s_callTy (call_dictP (by rfl)) ok_dictP (by rfl) T.n_dict (by decide +kernel) (sa_cons (s_comp (own := [("_law_name", 3)]) (by rfl) sc__law_kept.nd (si_val (s_ix (ix_4 (hu_of hr)) ok_ix (s_var (pv 0)) s_str)) (blkOk_by (N := N__law_kept) (sc := defScope s__law_kept) (own := [("_law_name", 3)]) (by decide +kernel)) (by rfl) okTg_name (fun _ _ _ _ _ => (pg_name (i := 3) sc__law_kept.nd rfl (by first | exact Or.inl rfl | exact Or.inr rfl))) (fun _ _ _ _ _ => pts_nil) yes_T (fun _ _ _ _ _ => (s_tup (sa_cons (s_var (pv 3)) (sa_cons (s_callTy (CallR.or2 (call_listD (by rfl)) call_list_of) (OkPr.alt ok_listD ok_list pList3_alt) (by rfl) T.n_list (by decide +kernel) (sa_cons (s_ix (ix_4 (hu_of hr)) ok_ix (s_ix (ix_4 (hu_of hr)) ok_ix (s_var (pv 0)) s_str) (s_var (pv 3))) sa_nil)) sa_nil))))) sa_nil))))
    (sb_cons (ss_set (by rfl) (ps_set (i := 2) sc__law_kept.nd rfl (by first | exact Or.inl rfl | exact Or.inr rfl) (s_callTy (call_dictP (by rfl)) ok_dictP (by rfl) T.n_dict (by decide +kernel) (sa_cons (s_comp (own := [("_law_name", 3)]) (by rfl) sc__law_kept.nd (si_val (s_ix (ix_4 (hu_of hr)) ok_ix (s_var (pv 0)) s_str)) (blkOk_by (N := N__law_kept) (sc := defScope s__law_kept) (own := [("_law_name", 3)]) (by decide +kernel)) (by rfl) okTg_name (fun _ _ _ _ _ => (pg_name (i := 3) sc__law_kept.nd rfl (by first | exact Or.inl rfl | exact Or.inr rfl))) (fun _ _ _ _ _ => pts_nil) yes_T (fun _ _ _ _ _ => (s_tup (sa_cons (s_var (pv 3)) (sa_cons (s_callTy (CallR.or2 (call_listD (by rfl)) call_list_of) (OkPr.alt ok_listD ok_list pList3_alt) (by rfl) T.n_list (by decide +kernel) (sa_cons (s_ix (ix_4 (hu_of hr)) ok_ix (s_ix (ix_4 (hu_of hr)) ok_ix (s_var (pv 0)) s_str) (s_var (pv 3))) sa_nil)) sa_nil))))) sa_nil))))
    (sb_one (ss_retF (s_disp (pps_str (s_callTy (CallR.or2 (call_listD (by rfl)) call_list_of) (OkPr.alt ok_listD ok_list pList3_alt) (by rfl) T.n_list (by decide +kernel) (sa_cons (s_ix (ix_4 (hu_of hr)) ok_ix (s_var (pv 0)) s_str) sa_nil)) (pps_str (s_var (pv 2)) (pps_str (s_var (pv 1)) (pps_ok rfl rfl)))) rfl rfl rfl (by simp) (by decide))))))
abbrev s_are_signs : Stmt := top 12
abbrev N_are_signs : List Str := ["text", "signs", "sign"]
theorem sc_are_signs : FnScope N_are_signs ["text", "signs"] (defScope s_are_signs) := ⟨rfl, rfl, rfl, by decide +kernel, rfl, by decide +kernel, by decide +kernel⟩
theorem ok_are_signs (T : Txt K mg cm) (F : Fun K "are_signs" "are_signs" s_are_signs f fd) : FnOk P0 w K mg base (L2.CX P0 w) 1 f fd ["text", "signs"] (spP K cm 2 m_are_signs) := by
  refine fn_pure F sc_are_signs (by decide) fun cdv A outer s H E hr => ?_
  exact (sb_one (ss_ret (s_callB (cr_all (by rfl)) ok_all (by rfl) T.n_all (by decide +kernel) (sa_cons (s_comp (own := [("sign", 2)]) (by rfl) sc_are_signs.nd (si_val (s_var (pv 0))) (blkOk_by (N := N_are_signs) (sc := defScope s_are_signs) (own := [("sign", 2)]) (by decide +kernel)) (by rfl) okTg_name (fun _ _ _ _ _ => (pg_name (i := 2) sc_are_signs.nd rfl (by first | exact Or.inl rfl | exact Or.inr rfl))) (fun _ _ _ _ _ => pts_nil) yes_T (fun _ _ _ _ _ => (s_cmp (op_in3 (hu_of hr)) ok_in (s_var (pv 2)) (s_var (pv 1)) rfl))) sa_nil))))
abbrev s_is_name : Stmt := top 13
abbrev N_is_name : List Str := ["thing"]
theorem sc_is_name : FnScope N_is_name ["thing"] (defScope s_is_name) := ⟨rfl, rfl, rfl, by decide +kernel, rfl, by decide +kernel, by decide +kernel⟩
theorem ok_is_name (T : Txt K mg cm) (F : Fun K "is_name" "is_name" s_is_name f fd) (G_are_signs : Good P0 w K mg base cm "are_signs" 2 1 m_are_signs) : FnOk P0 w K mg base (L2.CX P0 w) 2 f fd ["thing"] (spP K cm 1 m_is_name) := by
  obtain ⟨_, h_MOST_LETTERS⟩ := T.c_MOST_LETTERS
  obtain ⟨_, h_LETTERS⟩ := T.c_LETTERS
  refine fn_pure F sc_is_name (by decide) fun cdv A outer s H E hr => ?_
  exact (sb_one (ss_ret (s_and (s_isiT (by rfl) T.n_isinstance (by decide +kernel) (s_var (pv 0)) (pe_bltn (v := .ty "str") (by rfl) T.n_str (by decide +kernel) rfl)) (s_and (s_chain op_le op_le ok_le ok_le s_int (s_callB call_len2 ok_len (by rfl) T.n_len (by decide +kernel) (sa_cons (s_var (pv 0)) sa_nil)) (s_globI (by rfl) h_MOST_LETTERS) (fun _ _ _ h => mid_le h)) (s_one (s_callG (takes_of rfl rfl rfl rfl) G_are_signs hr (by decide) (by rfl) (by rfl) (sa_cons (s_var (pv 0)) (sa_cons (s_globS (by rfl) h_LETTERS) sa_nil))))))))
abbrev s_need_names : Stmt := top 26
abbrev N_need_names : List Str := ["things", "thing"]
theorem sc_need_names : FnScope N_need_names ["things"] (defScope s_need_names) := ⟨rfl, rfl, rfl, by decide +kernel, rfl, by decide +kernel, by decide +kernel⟩
theorem ok_need_names (T : Txt K mg cm) (F : Fun K "need_names" "need_names" s_need_names f fd) (G_is_name : Good P0 w K mg base cm "is_name" 1 2 m_is_name) : FnOk P0 w K mg base (L2.CX P0 w) 3 f fd ["things"] (spP K cm 1 m_need_names) := by
  obtain ⟨_, h_MOST_MARKS⟩ := T.c_MOST_MARKS
  refine fn_pure F sc_need_names (by decide) fun cdv A outer s H E hr => ?_
  exact (sb_cons (ss_if (st_w (sw_or (st_not (st_val (s_isiT (by rfl) T.n_isinstance (by decide +kernel) (s_var (pv 0)) (pe_bltn (v := .ty "list") (by rfl) T.n_list (by decide +kernel) rfl)))) (sw_or1 (st_not (st_val (s_callB (cr_all (by rfl)) ok_all (by rfl) T.n_all (by decide +kernel) (sa_cons (s_comp (own := [("thing", 1)]) (by rfl) sc_need_names.nd (si_val (s_var (pv 0))) (blkOk_by (N := N_need_names) (sc := defScope s_need_names) (own := [("thing", 1)]) (by decide +kernel)) (by rfl) okTg_name (fun _ _ _ _ _ => (pg_name (i := 1) sc_need_names.nd rfl (by first | exact Or.inl rfl | exact Or.inr rfl))) (fun _ _ _ _ _ => pts_nil) yes_T (fun _ _ _ _ _ => (s_callG takes0 G_is_name hr (by decide) (by rfl) (by rfl) (sa_cons (s_var (pv 1)) sa_nil)))) sa_nil)))))))
    (sb_one ss_never)
    sb_nil)
    (sb_cons (ss_if (st_cmp op_lt ok_lt (s_lenSet (by rfl) (by rfl) T.n_len (by rfl) T.n_set (s_var (pv 0))) (s_callB call_len2 ok_len (by rfl) T.n_len (by decide +kernel) (sa_cons (s_var (pv 0)) sa_nil)) (nomark _))
    (sb_one ss_never)
    sb_nil)
    (sb_one (ss_if (st_cmp op_gt ok_gt (s_callB call_len2 ok_len (by rfl) T.n_len (by decide +kernel) (sa_cons (s_var (pv 0)) sa_nil)) (s_globI (by rfl) h_MOST_MARKS) (nomark _))
    (sb_one ss_never)
    sb_nil))))
abbrev s_Goods_put_good : Stmt := (clsB (top 27)).getD 5 (.Pass ⟨0, 0, 0, 0⟩)
abbrev N_Goods_put_good : List Str := ["self", "name", "marks", "some"]
theorem sc_Goods_put_good : FnScope N_Goods_put_good ["self", "name", "marks"] (defScope s_Goods_put_good) := ⟨rfl, rfl, rfl, by decide +kernel, rfl, by decide +kernel, by decide +kernel⟩
theorem ok_Goods_put_good (T : Txt K mg cm) (F : FunD K "put_good" "Goods.put_good" (defArgs s_Goods_put_good) (defBody s_Goods_put_good) (defScope s_Goods_put_good) dvs kws f fd) (G_is_name : Good P0 w K mg base cm "is_name" 1 2 m_is_name) (G_need_names : Good P0 w K mg base cm "need_names" 1 3 m_need_names) : FnOk P0 w K mg base (L2.CX P0 w) 4 f fd ["self", "name", "marks"] (spM K cm 3 [0] m_Goods_put_good) := by
  obtain ⟨_, h_MOST_GOODS⟩ := T.c_MOST_GOODS
  refine fn_mut F sc_Goods_put_good (by decide) (by decide) fun cdv A outer s H E hr => ?_
  exact (sb_cons (ss_if (st_not (st_val (s_callG (takes_of rfl rfl rfl rfl) G_is_name hr (by decide) (by rfl) (by rfl) (sa_cons (s_var (pv 1)) sa_nil))))
    (sb_one ss_never)
    sb_nil)
    (sb_cons (ss_if (st_cmp (op_in3 (hu_of hr)) ok_in (s_var (pv 1)) (s_fld T.f_signs (s_var (pv 0))) rfl)
    (sb_one ss_never)
    sb_nil)
    (sb_cons (ss_if (st_cmp (op_eqQ hr.units) ok_eq (s_callB call_len2 ok_len (by rfl) T.n_len (by decide +kernel) (sa_cons (s_fld T.f_crowd (s_var (pv 0))) sa_nil)) (s_globI (by rfl) h_MOST_GOODS) (nomark _))
    (sb_one ss_never)
    sb_nil)
    (sb_cons (ss_set (by rfl) (ps_set (i := 3) sc_Goods_put_good.nd rfl (by first | exact Or.inl rfl | exact Or.inr rfl) (s_ifExp (st_cmp op_isQ ok_is (s_var (pv 2)) s_non (nomark _)) (s_lst sa_nil) (s_var (pv 2)))))
    (sb_cons (ss_expr (s_callG (takes_of rfl rfl rfl rfl) G_need_names hr (by decide) (by rfl) (by rfl) (sa_cons (s_var (pv 3)) sa_nil)))
    (sb_cons (ss_exprX (x_bm PySem.F.slot_list_append PySem.F.type_list_append mt_append mx_append (sp2_fld (sp2_name (pv 0)) T.f_crowd) (sa_cons (s_var (pv 1)) sa_nil)))
    (sb_cons (ss_put2 (hu_of hr) (sp2_fld (sp2_name (pv 0)) T.f_signs) (s_callTy (CallR.or2 (call_listD (by rfl)) call_list_of) (OkPr.alt ok_listD ok_list pList3_alt) (by rfl) T.n_list (by decide +kernel) (sa_cons (s_var (pv 3)) sa_nil)) (s_var (pv 1)))
    (sb_one (ss_put2 (hu_of hr) (sp2_fld (sp2_name (pv 0)) T.f_sizes) s_dict0 (s_var (pv 1)))))))))))
abbrev s_Goods_copied : Stmt := (clsB (top 27)).getD 8 (.Pass ⟨0, 0, 0, 0⟩)
abbrev N_Goods_copied : List Str := ["self", "other", "name"]
theorem sc_Goods_copied : FnScope N_Goods_copied ["self"] (defScope s_Goods_copied) := ⟨rfl, rfl, rfl, by decide +kernel, rfl, by decide +kernel, by decide +kernel⟩
theorem ok_Goods_copied (T : Txt K mg cm) (F : FunD K "copied" "Goods.copied" (defArgs s_Goods_copied) (defBody s_Goods_copied) (defScope s_Goods_copied) dvs kws f fd) (Mt_Goods_put_good_0 : GoodMt P0 w K mg base cm "Goods" "put_good" 4 (spM K cm 3 [0] m_Goods_put_good) []) (Mk_Goods : GoodMk P0 w K mg base cm "Goods" 1 (spM K cm 1 [0] m_Goods___init__) []) : FnOk P0 w K mg base (L2.CX P0 w) 5 f fd ["self"] (spP K cm 1 m_Goods_copied) := by
  refine fn_pureD F sc_Goods_copied (by decide) fun cdv A outer s H E hr => ?_
  exact (sb_cons (ss_set (by rfl) (ps_set (i := 1) sc_Goods_copied.nd rfl (by first | exact Or.inl rfl | exact Or.inr rfl) (s_make0 (takes_of rfl rfl rfl rfl) Mk_Goods hr (by decide) (by rfl) (by rfl) (by rfl))))
    (sb_cons (ss_for (S := [2]) (passes_of rfl) rfl (si_val (s_fld T.f_crowd (s_var (pv 0)))) (pg_name (i := 2) sc_Goods_copied.nd rfl (by first | exact Or.inl rfl | exact Or.inr rfl)) okTg_name (by rfl)
    (sb_cons (ss_exprX (x_meth (takes_of rfl rfl rfl rfl) Mt_Goods_put_good_0 hr (by decide) (by rfl) (by rfl) (by rfl) (sp2_name (pv 1)) (as_hd (s_var (pv 2)) (as_hd (s_ix (ix_4 (hu_of hr)) ok_ix (s_fld T.f_signs (s_var (pv 0))) (s_var (pv 2))) as_nil))))
    (sb_one (ss_put2 (hu_of hr) (sp2_fld (sp2_name (pv 1)) T.f_sizes) (s_callTy call_dictD ok_dictD (by rfl) T.n_dict (by decide +kernel) (sa_cons (s_ix (ix_4 (hu_of hr)) ok_ix (s_fld T.f_sizes (s_var (pv 0))) (s_var (pv 2))) sa_nil)) (s_var (pv 2))))))
    (sb_one (ss_retV (by rfl) (pv 1)))))
abbrev s__law_put : Stmt := top 34
abbrev N__law_put : List Str := ["_law_goods", "_law_own", "_law_pool_here", "_law_cell", "_law_k", "_law_free", "_law_n", "_law_name", "_law_marks", "_law_handed", "_law_j", "_law_mark"]
theorem sc__law_put : FnScope N__law_put ["_law_goods", "_law_own", "_law_pool_here", "_law_cell", "_law_k"] (defScope s__law_put) := ⟨rfl, rfl, rfl, by decide +kernel, rfl, by decide +kernel, by decide +kernel⟩
theorem ok__law_put (T : Txt K mg cm) (F : FunD K "_law_put" "_law_put" (defArgs s__law_put) (defBody s__law_put) (defScope s__law_put) dvs kws f fd) (G__law_draw : Good P0 w K mg base cm "_law_draw" 3 1 m__law_draw) (Mt_Goods_put_good_1 : GoodMt P0 w K mg base cm "Goods" "put_good" 4 (spM K cm 3 [0] m_Goods_put_good) [.non]) (Mt_Goods_put_good_0 : GoodMt P0 w K mg base cm "Goods" "put_good" 4 (spM K cm 3 [0] m_Goods_put_good) []) : FnOk P0 w K mg base (L2.CX P0 w) 5 f fd ["_law_goods", "_law_own", "_law_pool_here", "_law_cell", "_law_k"] (spM K cm 5 [0, 1] m__law_put) := by
  refine fn_mut F sc__law_put (by decide) (by decide) fun cdv A outer s H E hr => ?_
  exact (sb_cons (ss_setC (i := 5) (by rfl) rfl rfl (sw_true rfl rfl rfl (by decide +kernel)) (own := [("_law_name", 7)]) (by rfl) sc__law_put.nd (si_val (s_var (pv 2))) (blkOk_by (N := N__law_put) (sc := defScope s__law_put) (own := [("_law_name", 7)]) (by decide +kernel)) (by rfl) okTg_name (fun _ _ _ _ _ => (pg_name (i := 7) sc__law_put.nd rfl (by first | exact Or.inl rfl | exact Or.inr rfl))) (fun _ _ _ _ _ => (pts_one (st_cmp (op_notIn3 (hu_of hr)) ok_notIn (s_var (pv 7)) (s_ix (ix_4 (hu_of hr)) ok_ix (s_var (pv 1)) s_str) rfl))) (fun _ _ _ h => h) (fun _ _ _ _ _ => (s_var (pv 7))))
    (sb_cons (ss_set (by rfl) (ps_set (i := 6) sc__law_put.nd rfl (by first | exact Or.inl rfl | exact Or.inr rfl) (s_callG (takes_of rfl rfl rfl rfl) G__law_draw hr (by decide) (by rfl) (by rfl) (sa_cons (s_var (pv 3)) (sa_cons (s_var (pv 4)) (sa_cons s_int sa_nil))))))
    (sb_cons (ss_set (by rfl) (ps_set (i := 7) sc__law_put.nd rfl (by first | exact Or.inl rfl | exact Or.inr rfl) (s_ix (ix_4 (hu_of hr)) ok_ix (s_var (pv 5)) (s_op op_modD ok_mod (s_var (pv 6)) (s_callB call_len2 ok_len (by rfl) T.n_len (by decide +kernel) (sa_cons (s_var (pv 5)) sa_nil))))))
    (sb_cons (ss_set (by rfl) (ps_set (i := 8) sc__law_put.nd rfl (by first | exact Or.inl rfl | exact Or.inr rfl) (s_comp (own := [("_law_j", 10)]) (by rfl) sc__law_put.nd (si_r1 (by rfl) T.n_range (sa_cons (s_op op_modD ok_mod (s_op op_divD ok_div (s_var (pv 6)) s_int) s_int) sa_nil)) (blkOk_by (N := N__law_put) (sc := defScope s__law_put) (own := [("_law_j", 10)]) (by decide +kernel)) (by rfl) okTg_name (fun _ _ _ _ _ => (pg_name (i := 10) sc__law_put.nd rfl (by first | exact Or.inl rfl | exact Or.inr rfl))) (fun _ _ _ _ _ => pts_nil) yes_T (fun _ _ _ _ _ => (s_ix (ix_4 (hu_of hr)) ok_ix (s_var (pv 2)) (s_op op_modD ok_mod (s_op op_add4 ok_add (s_op op_divD ok_div (s_var (pv 6)) s_int) (s_op op_mul3 ok_mul s_int (s_var (pv 10)))) (s_callB call_len2 ok_len (by rfl) T.n_len (by decide +kernel) (sa_cons (s_var (pv 2)) sa_nil))))))))
    (sb_cons (ss_set (by rfl) (ps_set (i := 8) sc__law_put.nd rfl (by first | exact Or.inl rfl | exact Or.inr rfl) (s_comp (own := [("_law_j", 10), ("_law_mark", 11)]) (by rfl) sc__law_put.nd (si_enum (by rfl) T.n_enumerate (sa_cons (s_var (pv 8)) sa_nil)) (blkOk_by (N := N__law_put) (sc := defScope s__law_put) (own := [("_law_j", 10), ("_law_mark", 11)]) (by decide +kernel)) (by rfl) (okTg_tup (n := 2) rfl (okTgs_cons okTg_name (okTgs_cons okTg_name okTgs_nil))) (fun _ _ _ _ _ => (pg_tup (by rfl) (pgs_cons (pg_name (i := 10) sc__law_put.nd rfl (by first | exact Or.inl rfl | exact Or.inr rfl)) (pgs_cons (pg_name (i := 11) sc__law_put.nd rfl (by first | exact Or.inl rfl | exact Or.inr rfl)) pgs_nil)))) (fun _ _ _ _ _ => (pts_one (st_cmp (op_notIn3 (hu_of hr)) ok_notIn (s_var (pv 11)) (s_slice sl_3 ok_sl (s_var (pv 8)) so_none (so_some (s_var (pv 10)))) rfl))) (fun _ _ _ h => h) (fun _ _ _ _ _ => (s_var (pv 11))))))
    (sb_cons (ss_exprX (x_bm PySem.F.slot_list_append PySem.F.type_list_append mt_append mx_append (sp2_ix (hu_of hr) (sp2_name (pv 1)) s_str) (sa_cons (s_var (pv 7)) sa_nil)))
    (sb_cons (ss_put2 (hu_of hr) (sp2_ix (hu_of hr) (sp2_name (pv 1)) s_str) (s_callTy (CallR.or2 (call_listD (by rfl)) call_list_of) (OkPr.alt ok_listD ok_list pList3_alt) (by rfl) T.n_list (by decide +kernel) (sa_cons (s_var (pv 8)) sa_nil)) (s_var (pv 7)))
    (sb_cons (ss_put2 (hu_of hr) (sp2_ix (hu_of hr) (sp2_name (pv 1)) s_str) (s_lst sa_nil) (s_var (pv 7)))
    (sb_cons (ss_if (st_w (sw_and (st_cmp (op_eqQ hr.units) ok_eq (s_var (pv 8)) (s_lst sa_nil) (nomark _)) (sw_and1 (st_cmp (op_eqQ hr.units) ok_eq (s_op op_modD ok_mod (s_var (pv 6)) s_int) s_int (nomark _)))))
    (sb_one (ss_retX (x_cmp op_isQ ok_is (x_meth (takes_of rfl rfl rfl rfl) Mt_Goods_put_good_1 hr (by decide) (by rfl) (by rfl) (by rfl) (sp2_name (pv 0)) (as_hd (s_var (pv 7)) as_nil)) s_non (nomark _))))
    sb_nil)
    (sb_cons (ss_set (by rfl) (ps_set (i := 9) sc__law_put.nd rfl (by first | exact Or.inl rfl | exact Or.inr rfl) (s_callTy (CallR.or2 (call_listD (by rfl)) call_list_of) (OkPr.alt ok_listD ok_list pList3_alt) (by rfl) T.n_list (by decide +kernel) (sa_cons (s_var (pv 8)) sa_nil))))
    (sb_cons (ss_ifX (xt_w (xw_or (xt_cmp op_isNQ ok_isN (x_meth (takes_of rfl rfl rfl rfl) Mt_Goods_put_good_0 hr (by decide) (by rfl) (by rfl) (by rfl) (sp2_name (pv 0)) (as_hd (s_var (pv 7)) (as_hd (s_var (pv 9)) as_nil))) s_non (nomark _)) (xw_or1 (xt_st (st_cmp (op_neQ hr.units) ok_ne (s_var (pv 9)) (s_var (pv 8)) (nomark _))))))
    (sb_one (ss_ret s_bl))
    sb_nil)
    (sb_cons (ss_mut PySem.F.slot_list_append PySem.F.type_list_append mt_append mut_append (sp_name (pv 9)) (sa_cons s_str sa_nil))
    (sb_one (ss_ret s_bl))))))))))))))
abbrev s__law_lowest : Stmt := top 31
abbrev N__law_lowest : List Str := ["_law_top", "_law_bottom", "_law_sign", "_law_one", "_law_other"]
theorem sc__law_lowest : FnScope N__law_lowest ["_law_top", "_law_bottom"] (defScope s__law_lowest) := ⟨rfl, rfl, rfl, by decide +kernel, rfl, by decide +kernel, by decide +kernel⟩
theorem ok__law_lowest (T : Txt K mg cm) (F : Fun K "_law_lowest" "_law_lowest" s__law_lowest f fd) : FnOk P0 w K mg base (L2.CX P0 w) 1 f fd ["_law_top", "_law_bottom"] (spP K cm 2 m__law_lowest) := by
  refine fn_pure F sc__law_lowest (by decide) fun cdv A outer s H E hr => ?_
  exact (sb_cons (ss_par (i := 3) (j := 4) (by rfl) rfl sc__law_lowest.nd rfl rfl (by decide) rfl rfl (sa_cons (s_callB call_abs ok_abs (by rfl) T.n_abs (by decide +kernel) (sa_cons (s_var (pv 0)) sa_nil)) (sa_cons (s_callB call_abs ok_abs (by rfl) T.n_abs (by decide +kernel) (sa_cons (s_var (pv 1)) sa_nil)) sa_nil)))
    (sb_cons (ss_while (passes_of rfl) (st_cmp op_gt ok_gt (s_var (pv 4)) s_int (nomark _))
    (sb_one (ss_par (i := 3) (j := 4) (by rfl) rfl sc__law_lowest.nd rfl rfl (by decide) rfl rfl (sa_cons (s_var (pv 4)) (sa_cons (s_op op_modD ok_mod (s_var (pv 3)) (s_var (pv 4))) sa_nil)))))
    (sb_cons (ss_set (by rfl) (ps_set (i := 2) sc__law_lowest.nd rfl (by first | exact Or.inl rfl | exact Or.inr rfl) (s_ifExp (st_cmp op_gt ok_gt (s_var (pv 1)) s_int (nomark _)) s_int (s_un un_neg ok_neg s_int))))
    (sb_one (ss_ret (s_tup (sa_cons (s_op op_divD ok_div (s_op op_mul3 ok_mul (s_var (pv 2)) (s_var (pv 0))) (s_var (pv 3))) (sa_cons (s_op op_divD ok_div (s_op op_mul3 ok_mul (s_var (pv 2)) (s_var (pv 1))) (s_var (pv 3))) sa_nil))))))))
abbrev s__law_amount : Stmt := top 32
abbrev N__law_amount : List Str := ["_law_cell", "_law_k", "_law_j", "_law_n", "_law_tops", "_law_bottoms"]
theorem sc__law_amount : FnScope N__law_amount ["_law_cell", "_law_k", "_law_j"] (defScope s__law_amount) := ⟨rfl, rfl, rfl, by decide +kernel, rfl, by decide +kernel, by decide +kernel⟩
theorem ok__law_amount (T : Txt K mg cm) (F : Fun K "_law_amount" "_law_amount" s__law_amount f fd) (G__law_draw : Good P0 w K mg base cm "_law_draw" 3 1 m__law_draw) (G__law_lowest : Good P0 w K mg base cm "_law_lowest" 2 1 m__law_lowest) : FnOk P0 w K mg base (L2.CX P0 w) 2 f fd ["_law_cell", "_law_k", "_law_j"] (spP K cm 3 m__law_amount) := by
  refine fn_pure F sc__law_amount (by decide) fun cdv A outer s H E hr => ?_
  exact (sb_cons (ss_set (by rfl) (ps_set (i := 3) sc__law_amount.nd rfl (by first | exact Or.inl rfl | exact Or.inr rfl) (s_callG (takes_of rfl rfl rfl rfl) G__law_draw hr (by decide) (by rfl) (by rfl) (sa_cons (s_var (pv 0)) (sa_cons (s_var (pv 1)) (sa_cons (s_var (pv 2)) sa_nil))))))
    (sb_cons (ss_set (by rfl) (ps_set (i := 4) sc__law_amount.nd rfl (by first | exact Or.inl rfl | exact Or.inr rfl) (s_lst (sa_cons (s_op op_add4 ok_add s_int (s_op op_modD ok_mod (s_op op_divD ok_div (s_var (pv 3)) s_int) s_int)) (sa_cons (s_op op_add4 ok_add s_int (s_op op_modD ok_mod (s_op op_add4 ok_add (s_var (pv 0)) (s_var (pv 3))) (s_op op_powD ok_pow s_int s_int))) (sa_cons (s_op op_sub ok_sub (s_op op_powD ok_pow s_int s_int) (s_op op_modD ok_mod (s_op op_divD ok_div (s_var (pv 3)) s_int) s_int)) (sa_cons (s_op op_add4 ok_add s_int (s_op op_modD ok_mod (s_op op_divD ok_div (s_var (pv 3)) s_int) s_int)) sa_nil)))))))
    (sb_cons (ss_set (by rfl) (ps_set (i := 5) sc__law_amount.nd rfl (by first | exact Or.inl rfl | exact Or.inr rfl) (s_lst (sa_cons s_int (sa_cons (s_op op_add4 ok_add s_int (s_op op_modD ok_mod (s_op op_divD ok_div (s_var (pv 3)) s_int) s_int)) (sa_cons (s_op op_add4 ok_add s_int (s_op op_modD ok_mod (s_op op_divD ok_div (s_var (pv 3)) s_int) (s_op op_powD ok_pow s_int s_int))) (sa_cons (s_op op_sub ok_sub (s_op op_powD ok_pow s_int s_int) (s_op op_modD ok_mod (s_op op_divD ok_div (s_var (pv 3)) s_int) s_int)) (sa_cons s_int sa_nil))))))))
    (sb_one (ss_ret (s_callG (takes_of rfl rfl rfl rfl) G__law_lowest hr (by decide) (by rfl) (by rfl) (sa_cons (s_ix (ix_4 (hu_of hr)) ok_ix (s_var (pv 4)) (s_op op_modD ok_mod (s_var (pv 3)) s_int)) (sa_cons (s_ix (ix_4 (hu_of hr)) ok_ix (s_var (pv 5)) (s_op op_modD ok_mod (s_op op_divD ok_div (s_var (pv 3)) s_int) s_int)) sa_nil))))))))
abbrev s_Goods_need_good : Stmt := (clsB (top 27)).getD 2 (.Pass ⟨0, 0, 0, 0⟩)
abbrev N_Goods_need_good : List Str := ["self", "name"]
theorem sc_Goods_need_good : FnScope N_Goods_need_good ["self", "name"] (defScope s_Goods_need_good) := ⟨rfl, rfl, rfl, by decide +kernel, rfl, by decide +kernel, by decide +kernel⟩
theorem ok_Goods_need_good (T : Txt K mg cm) (F : FunD K "need_good" "Goods.need_good" (defArgs s_Goods_need_good) (defBody s_Goods_need_good) (defScope s_Goods_need_good) dvs kws f fd) : FnOk P0 w K mg base (L2.CX P0 w) 1 f fd ["self", "name"] (spP K cm 2 m_Goods_need_good) := by
  refine fn_pureD F sc_Goods_need_good (by decide) fun cdv A outer s H E hr => ?_
  exact (sb_one (ss_if (st_w (sw_or (st_not (st_val (s_isiT (by rfl) T.n_isinstance (by decide +kernel) (s_var (pv 1)) (pe_bltn (v := .ty "str") (by rfl) T.n_str (by decide +kernel) rfl)))) (sw_or1 (st_cmp (op_notIn3 (hu_of hr)) ok_notIn (s_var (pv 1)) (s_fld T.f_signs (s_var (pv 0))) rfl))))
    (sb_one ss_never)
    sb_nil))
abbrev s_is_whole : Stmt := top 11
abbrev N_is_whole : List Str := ["thing"]
theorem sc_is_whole : FnScope N_is_whole ["thing"] (defScope s_is_whole) := ⟨rfl, rfl, rfl, by decide +kernel, rfl, by decide +kernel, by decide +kernel⟩
theorem ok_is_whole (T : Txt K mg cm) (F : Fun K "is_whole" "is_whole" s_is_whole f fd) : FnOk P0 w K mg base (L2.CX P0 w) 1 f fd ["thing"] (spP K cm 1 m_is_whole) := by
  refine fn_pure F sc_is_whole (by decide) fun cdv A outer s H E hr => ?_
  exact (sb_one (ss_ret (s_and (s_isiT (by rfl) T.n_isinstance (by decide +kernel) (s_var (pv 0)) (pe_bltn (v := .ty "int") (by rfl) T.n_int (by decide +kernel) rfl)) (s_one (s_not (s_isiT (by rfl) T.n_isinstance (by decide +kernel) (s_var (pv 0)) (pe_bltn (v := .ty "bool") (by rfl) T.n_bool (by decide +kernel) rfl)))))))
abbrev s_common : Stmt := top 17
abbrev N_common : List Str := ["one", "other"]
theorem sc_common : FnScope N_common ["one", "other"] (defScope s_common) := ⟨rfl, rfl, rfl, by decide +kernel, rfl, by decide +kernel, by decide +kernel⟩
theorem ok_common (T : Txt K mg cm) (F : Fun K "common" "common" s_common f fd) : FnOk P0 w K mg base (L2.CX P0 w) 1 f fd ["one", "other"] (spP K cm 2 m_common) := by
  refine fn_pure F sc_common (by decide) fun cdv A outer s H E hr => ?_
  exact (sb_cons (ss_while (passes_of rfl) (st_cmp op_gt ok_gt (s_var (pv 1)) s_int (nomark _))
    (sb_one (ss_par (i := 0) (j := 1) (by rfl) rfl sc_common.nd rfl rfl (by decide) rfl rfl (sa_cons (s_var (pv 1)) (sa_cons (s_op op_modD ok_mod (s_var (pv 0)) (s_var (pv 1))) sa_nil)))))
    (sb_one (ss_retV (by rfl) (pv 0))))
abbrev s_is_ratio : Stmt := top 20
abbrev N_is_ratio : List Str := ["thing"]
theorem sc_is_ratio : FnScope N_is_ratio ["thing"] (defScope s_is_ratio) := ⟨rfl, rfl, rfl, by decide +kernel, rfl, by decide +kernel, by decide +kernel⟩
theorem ok_is_ratio (T : Txt K mg cm) (F : Fun K "is_ratio" "is_ratio" s_is_ratio f fd) (G_is_whole : Good P0 w K mg base cm "is_whole" 1 1 m_is_whole) (G_common : Good P0 w K mg base cm "common" 2 1 m_common) : FnOk P0 w K mg base (L2.CX P0 w) 2 f fd ["thing"] (spP K cm 1 m_is_ratio) := by
  refine fn_pure F sc_is_ratio (by decide) fun cdv A outer s H E hr => ?_
  exact (sb_cons (ss_if (st_w (sw_or (st_not (st_val (s_isiT (by rfl) T.n_isinstance (by decide +kernel) (s_var (pv 0)) (pe_bltn (v := .ty "tuple") (by rfl) T.n_tuple (by decide +kernel) rfl)))) (sw_or (st_cmp (op_neQ hr.units) ok_ne (s_callB call_len2 ok_len (by rfl) T.n_len (by decide +kernel) (sa_cons (s_var (pv 0)) sa_nil)) s_int (nomark _)) (sw_or (st_not (st_val (s_callG (takes_of rfl rfl rfl rfl) G_is_whole hr (by decide) (by rfl) (by rfl) (sa_cons (s_ix (ix_4 (hu_of hr)) ok_ix (s_var (pv 0)) s_int) sa_nil)))) (sw_or1 (st_not (st_val (s_callG (takes_of rfl rfl rfl rfl) G_is_whole hr (by decide) (by rfl) (by rfl) (sa_cons (s_ix (ix_4 (hu_of hr)) ok_ix (s_var (pv 0)) s_int) sa_nil)))))))))
    (sb_one (ss_ret s_bl))
    sb_nil)
    (sb_one (ss_ret (s_and (s_cmp op_gt ok_gt (s_ix (ix_4 (hu_of hr)) ok_ix (s_var (pv 0)) s_int) s_int (nomark _)) (s_one (s_cmp (op_eqQ hr.units) ok_eq (s_callG (takes_of rfl rfl rfl rfl) G_common hr (by decide) (by rfl) (by rfl) (sa_cons (s_callB call_abs ok_abs (by rfl) T.n_abs (by decide +kernel) (sa_cons (s_ix (ix_4 (hu_of hr)) ok_ix (s_var (pv 0)) s_int) sa_nil)) (sa_cons (s_ix (ix_4 (hu_of hr)) ok_ix (s_var (pv 0)) s_int) sa_nil))) s_int (nomark _)))))))
abbrev s_is_amount : Stmt := top 21
abbrev N_is_amount : List Str := ["thing", "least"]
theorem sc_is_amount : FnScope N_is_amount ["thing", "least"] (defScope s_is_amount) := ⟨rfl, rfl, rfl, by decide +kernel, rfl, by decide +kernel, by decide +kernel⟩
theorem ok_is_amount (T : Txt K mg cm) (F : Fun K "is_amount" "is_amount" s_is_amount f fd) (G_is_ratio : Good P0 w K mg base cm "is_ratio" 1 2 m_is_ratio) : FnOk P0 w K mg base (L2.CX P0 w) 3 f fd ["thing", "least"] (spP K cm 2 m_is_amount) := by
  obtain ⟨_, h_MOST_TOP⟩ := T.c_MOST_TOP
  obtain ⟨_, h_MOST_BOTTOM⟩ := T.c_MOST_BOTTOM
  refine fn_pure F sc_is_amount (by decide) fun cdv A outer s H E hr => ?_
  exact (sb_one (ss_ret (s_and (s_callG (takes_of rfl rfl rfl rfl) G_is_ratio hr (by decide) (by rfl) (by rfl) (sa_cons (s_var (pv 0)) sa_nil)) (s_and (s_chain op_le op_le ok_le ok_le (s_var (pv 1)) (s_ix (ix_4 (hu_of hr)) ok_ix (s_var (pv 0)) s_int) (s_globI (by rfl) h_MOST_TOP) (fun _ _ _ h => mid_le h)) (s_one (s_cmp op_le ok_le (s_ix (ix_4 (hu_of hr)) ok_ix (s_var (pv 0)) s_int) (s_globI (by rfl) h_MOST_BOTTOM) (nomark _)))))))
abbrev s_Goods_put_measure : Stmt := (clsB (top 27)).getD 6 (.Pass ⟨0, 0, 0, 0⟩)
abbrev N_Goods_put_measure : List Str := ["self", "good", "measure", "amount"]
theorem sc_Goods_put_measure : FnScope N_Goods_put_measure ["self", "good", "measure", "amount"] (defScope s_Goods_put_measure) := ⟨rfl, rfl, rfl, by decide +kernel, rfl, by decide +kernel, by decide +kernel⟩
theorem ok_Goods_put_measure (T : Txt K mg cm) (F : FunD K "put_measure" "Goods.put_measure" (defArgs s_Goods_put_measure) (defBody s_Goods_put_measure) (defScope s_Goods_put_measure) dvs kws f fd) (G_is_name : Good P0 w K mg base cm "is_name" 1 2 m_is_name) (G_is_amount : Good P0 w K mg base cm "is_amount" 2 3 m_is_amount) (Mt_Goods_need_good_0 : GoodMt P0 w K mg base cm "Goods" "need_good" 1 (spP K cm 2 m_Goods_need_good) []) : FnOk P0 w K mg base (L2.CX P0 w) 4 f fd ["self", "good", "measure", "amount"] (spM K cm 4 [0] m_Goods_put_measure) := by
  obtain ⟨_, h_MOST_MEASURES⟩ := T.c_MOST_MEASURES
  refine fn_mut F sc_Goods_put_measure (by decide) (by decide) fun cdv A outer s H E hr => ?_
  exact (sb_cons (ss_expr (s_meth (takes_of rfl rfl rfl rfl) Mt_Goods_need_good_0 hr (by decide) (by rfl) (by rfl) (s_var (pv 0)) (sa_cons (s_var (pv 1)) sa_nil)))
    (sb_cons (ss_if (st_not (st_val (s_callG (takes_of rfl rfl rfl rfl) G_is_name hr (by decide) (by rfl) (by rfl) (sa_cons (s_var (pv 2)) sa_nil))))
    (sb_one ss_never)
    sb_nil)
    (sb_cons (ss_if (st_cmp (op_in3 (hu_of hr)) ok_in (s_var (pv 2)) (s_ix (ix_4 (hu_of hr)) ok_ix (s_fld T.f_sizes (s_var (pv 0))) (s_var (pv 1))) rfl)
    (sb_one ss_never)
    sb_nil)
    (sb_cons (ss_if (st_not (st_val (s_callG (takes_of rfl rfl rfl rfl) G_is_amount hr (by decide) (by rfl) (by rfl) (sa_cons (s_var (pv 3)) (sa_cons s_int sa_nil)))))
    (sb_one ss_never)
    sb_nil)
    (sb_cons (ss_if (st_cmp (op_eqQ hr.units) ok_eq (s_callB call_len2 ok_len (by rfl) T.n_len (by decide +kernel) (sa_cons (s_ix (ix_4 (hu_of hr)) ok_ix (s_fld T.f_sizes (s_var (pv 0))) (s_var (pv 1))) sa_nil)) (s_globI (by rfl) h_MOST_MEASURES) (nomark _))
    (sb_one ss_never)
    sb_nil)
    (sb_one (ss_put2 (hu_of hr) (sp2_ix (hu_of hr) (sp2_fld (sp2_name (pv 0)) T.f_sizes) (s_var (pv 1))) (s_var (pv 3)) (s_var (pv 2)))))))))
abbrev s__law_deed : Stmt := top 35
abbrev N__law_deed : List Str := ["_law_goods", "_law_own", "_law_pool_here", "_law_cell", "_law_k", "_law_n", "_law_name", "_law_known", "_law_free", "_law_pair", "_law_measure"]
theorem sc__law_deed : FnScope N__law_deed ["_law_goods", "_law_own", "_law_pool_here", "_law_cell", "_law_k"] (defScope s__law_deed) := ⟨rfl, rfl, rfl, by decide +kernel, rfl, by decide +kernel, by decide +kernel⟩
theorem ok__law_deed (T : Txt K mg cm) (F : FunD K "_law_deed" "_law_deed" (defArgs s__law_deed) (defBody s__law_deed) (defScope s__law_deed) dvs kws f fd) (G__law_draw : Good P0 w K mg base cm "_law_draw" 3 1 m__law_draw) (G__law_amount : Good P0 w K mg base cm "_law_amount" 3 2 m__law_amount) (Gf__law_put_0 : GoodF P0 w K mg base "_law_put" 5 (spM K cm 5 [0, 1] m__law_put) []) (Mt_Goods_put_measure_0 : GoodMt P0 w K mg base cm "Goods" "put_measure" 4 (spM K cm 4 [0] m_Goods_put_measure) []) : FnOk P0 w K mg base (L2.CX P0 w) 6 f fd ["_law_goods", "_law_own", "_law_pool_here", "_law_cell", "_law_k"] (spM K cm 5 [0, 1] m__law_deed) := by
  refine fn_mut F sc__law_deed (by decide) (by decide) fun cdv A outer s H E hr => ?_
  exact (sb_cons (ss_set (by rfl) (ps_set (i := 5) sc__law_deed.nd rfl (by first | exact Or.inl rfl | exact Or.inr rfl) (s_callG (takes_of rfl rfl rfl rfl) G__law_draw hr (by decide) (by rfl) (by rfl) (sa_cons (s_var (pv 3)) (sa_cons (s_var (pv 4)) (sa_cons s_int sa_nil))))))
    (sb_cons (ss_if (st_w (sw_or (st_cmp (op_eqQ hr.units) ok_eq (s_ix (ix_4 (hu_of hr)) ok_ix (s_var (pv 1)) s_str) (s_lst sa_nil) (nomark _)) (sw_or1 (st_w (sw_and (st_cmp (op_eqQ hr.units) ok_eq (s_op op_modD ok_mod (s_var (pv 5)) s_int) s_int (nomark _)) (sw_and1 (st_cmp op_lt ok_lt (s_callB call_len2 ok_len (by rfl) T.n_len (by decide +kernel) (sa_cons (s_ix (ix_4 (hu_of hr)) ok_ix (s_var (pv 1)) s_str) sa_nil)) s_int (nomark _))))))))
    (sb_one (ss_retX (x_call (takes_of rfl rfl rfl rfl) Gf__law_put_0 hr (by decide) (by rfl) (by rfl) (by rfl) (by rfl) (as_pl (sp2_name (pv 0)) (as_pl (sp2_name (pv 1)) (as_hd (s_var (pv 2)) (as_hd (s_var (pv 3)) (as_hd (s_var (pv 4)) as_nil))))))))
    sb_nil)
    (sb_cons (ss_set (by rfl) (ps_set (i := 6) sc__law_deed.nd rfl (by first | exact Or.inl rfl | exact Or.inr rfl) (s_ix (ix_4 (hu_of hr)) ok_ix (s_ix (ix_4 (hu_of hr)) ok_ix (s_var (pv 1)) s_str) (s_op op_modD ok_mod (s_op op_divD ok_div (s_var (pv 5)) s_int) (s_callB call_len2 ok_len (by rfl) T.n_len (by decide +kernel) (sa_cons (s_ix (ix_4 (hu_of hr)) ok_ix (s_var (pv 1)) s_str) sa_nil))))))
    (sb_cons (ss_set (by rfl) (ps_set (i := 7) sc__law_deed.nd rfl (by first | exact Or.inl rfl | exact Or.inr rfl) (s_comp (own := [("_law_pair", 9)]) (by rfl) sc__law_deed.nd (si_val (s_ix (ix_4 (hu_of hr)) ok_ix (s_ix (ix_4 (hu_of hr)) ok_ix (s_var (pv 1)) s_str) (s_var (pv 6)))) (blkOk_by (N := N__law_deed) (sc := defScope s__law_deed) (own := [("_law_pair", 9)]) (by decide +kernel)) (by rfl) okTg_name (fun _ _ _ _ _ => (pg_name (i := 9) sc__law_deed.nd rfl (by first | exact Or.inl rfl | exact Or.inr rfl))) (fun _ _ _ _ _ => pts_nil) yes_T (fun _ _ _ _ _ => (s_ix (ix_4 (hu_of hr)) ok_ix (s_var (pv 9)) s_int)))))
    (sb_cons (ss_setC (i := 8) (by rfl) rfl rfl (sw_true rfl rfl rfl (by decide +kernel)) (own := [("_law_measure", 10)]) (by rfl) sc__law_deed.nd (si_val (s_var (pv 2))) (blkOk_by (N := N__law_deed) (sc := defScope s__law_deed) (own := [("_law_measure", 10)]) (by decide +kernel)) (by rfl) okTg_name (fun _ _ _ _ _ => (pg_name (i := 10) sc__law_deed.nd rfl (by first | exact Or.inl rfl | exact Or.inr rfl))) (fun _ _ _ _ _ => (pts_one (st_cmp (op_notIn3 (hu_of hr)) ok_notIn (s_var (pv 10)) (s_var (pv 7)) rfl))) (fun _ _ _ h => h) (fun _ _ _ _ _ => (s_var (pv 10))))
    (sb_cons (ss_if (st_cmp (op_eqQ hr.units) ok_eq (s_callB call_len2 ok_len (by rfl) T.n_len (by decide +kernel) (sa_cons (s_var (pv 7)) sa_nil)) s_int (nomark _))
    (sb_one (ss_ret s_bl))
    sb_nil)
    (sb_cons (ss_set (by rfl) (ps_set (i := 9) sc__law_deed.nd rfl (by first | exact Or.inl rfl | exact Or.inr rfl) (s_tup (sa_cons (s_ix (ix_4 (hu_of hr)) ok_ix (s_var (pv 8)) (s_op op_modD ok_mod (s_op op_divD ok_div (s_var (pv 5)) s_int) (s_callB call_len2 ok_len (by rfl) T.n_len (by decide +kernel) (sa_cons (s_var (pv 8)) sa_nil)))) (sa_cons (s_callG (takes_of rfl rfl rfl rfl) G__law_amount hr (by decide) (by rfl) (by rfl) (sa_cons (s_var (pv 3)) (sa_cons (s_var (pv 4)) (sa_cons s_int sa_nil)))) sa_nil)))))
    (sb_cons (ss_exprX (x_bm PySem.F.slot_list_append PySem.F.type_list_append mt_append mx_append (sp2_ix (hu_of hr) (sp2_ix (hu_of hr) (sp2_name (pv 1)) s_str) (s_var (pv 6))) (sa_cons (s_var (pv 9)) sa_nil)))
    (sb_one (ss_retX (x_cmp op_isQ ok_is (x_meth (takes_of rfl rfl rfl rfl) Mt_Goods_put_measure_0 hr (by decide) (by rfl) (by rfl) (by rfl) (sp2_name (pv 0)) (as_hd (s_var (pv 6)) (as_hd (s_ix (ix_4 (hu_of hr)) ok_ix (s_var (pv 9)) s_int) (as_hd (s_ix (ix_4 (hu_of hr)) ok_ix (s_var (pv 9)) s_int) as_nil)))) s_non (nomark _))))))))))))
abbrev s_Goods_called_goods : Stmt := (clsB (top 27)).getD 1 (.Pass ⟨0, 0, 0, 0⟩)
abbrev N_Goods_called_goods : List Str := ["self"]
theorem sc_Goods_called_goods : FnScope N_Goods_called_goods ["self"] (defScope s_Goods_called_goods) := ⟨rfl, rfl, rfl, by decide +kernel, rfl, by decide +kernel, by decide +kernel⟩
theorem ok_Goods_called_goods (T : Txt K mg cm) (F : FunD K "called_goods" "Goods.called_goods" (defArgs s_Goods_called_goods) (defBody s_Goods_called_goods) (defScope s_Goods_called_goods) dvs kws f fd) : FnOk P0 w K mg base (L2.CX P0 w) 1 f fd ["self"] (spP K cm 1 m_Goods_called_goods) := by
  refine fn_pureD F sc_Goods_called_goods (by decide) fun cdv A outer s H E hr => ?_
  exact (sb_one (ss_ret (s_callTy (CallR.or2 (call_listD (by rfl)) call_list_of) (OkPr.alt ok_listD ok_list pList3_alt) (by rfl) T.n_list (by decide +kernel) (sa_cons (s_fld T.f_crowd (s_var (pv 0))) sa_nil))))
abbrev s_Goods_marks_of : Stmt := (clsB (top 27)).getD 3 (.Pass ⟨0, 0, 0, 0⟩)
abbrev N_Goods_marks_of : List Str := ["self", "name"]
theorem sc_Goods_marks_of : FnScope N_Goods_marks_of ["self", "name"] (defScope s_Goods_marks_of) := ⟨rfl, rfl, rfl, by decide +kernel, rfl, by decide +kernel, by decide +kernel⟩
theorem ok_Goods_marks_of (T : Txt K mg cm) (F : FunD K "marks_of" "Goods.marks_of" (defArgs s_Goods_marks_of) (defBody s_Goods_marks_of) (defScope s_Goods_marks_of) dvs kws f fd) (Mt_Goods_need_good_0 : GoodMt P0 w K mg base cm "Goods" "need_good" 1 (spP K cm 2 m_Goods_need_good) []) : FnOk P0 w K mg base (L2.CX P0 w) 2 f fd ["self", "name"] (spP K cm 2 m_Goods_marks_of) := by
  refine fn_pureD F sc_Goods_marks_of (by decide) fun cdv A outer s H E hr => ?_
  exact (sb_cons (ss_expr (s_meth (takes_of rfl rfl rfl rfl) Mt_Goods_need_good_0 hr (by decide) (by rfl) (by rfl) (s_var (pv 0)) (sa_cons (s_var (pv 1)) sa_nil)))
    (sb_one (ss_ret (s_callTy (CallR.or2 (call_listD (by rfl)) call_list_of) (OkPr.alt ok_listD ok_list pList3_alt) (by rfl) T.n_list (by decide +kernel) (sa_cons (s_ix (ix_4 (hu_of hr)) ok_ix (s_fld T.f_signs (s_var (pv 0))) (s_var (pv 1))) sa_nil)))))
abbrev s_Goods_measures_of : Stmt := (clsB (top 27)).getD 4 (.Pass ⟨0, 0, 0, 0⟩)
abbrev N_Goods_measures_of : List Str := ["self", "name", "measure"]
theorem sc_Goods_measures_of : FnScope N_Goods_measures_of ["self", "name"] (defScope s_Goods_measures_of) := ⟨rfl, rfl, rfl, by decide +kernel, rfl, by decide +kernel, by decide +kernel⟩
theorem ok_Goods_measures_of (T : Txt K mg cm) (F : FunD K "measures_of" "Goods.measures_of" (defArgs s_Goods_measures_of) (defBody s_Goods_measures_of) (defScope s_Goods_measures_of) dvs kws f fd) (Mt_Goods_need_good_0 : GoodMt P0 w K mg base cm "Goods" "need_good" 1 (spP K cm 2 m_Goods_need_good) []) : FnOk P0 w K mg base (L2.CX P0 w) 2 f fd ["self", "name"] (spP K cm 2 m_Goods_measures_of) := by
  refine fn_pureD F sc_Goods_measures_of (by decide) fun cdv A outer s H E hr => ?_
  exact (sb_cons (ss_expr (s_meth (takes_of rfl rfl rfl rfl) Mt_Goods_need_good_0 hr (by decide) (by rfl) (by rfl) (s_var (pv 0)) (sa_cons (s_var (pv 1)) sa_nil)))
    (sb_one (ss_ret (s_compK (own := [("measure", 2)]) (by rfl) sc_Goods_measures_of.nd (spp_ix (W := W0) (hu_of hr) (spp_fld (spp_name (pv 0)) T.f_sizes) (s_var (pv 1))) (blkOk_by (N := N_Goods_measures_of) (sc := defScope s_Goods_measures_of) (own := [("measure", 2)]) (by decide +kernel)) (by rfl) okTg_name (fun _ _ _ _ _ => (pg_name (i := 2) sc_Goods_measures_of.nd rfl (by first | exact Or.inl rfl | exact Or.inr rfl))) (fun _ _ _ _ _ => pts_nil) yes_T (fun _ _ _ _ _ => (s_tup (sa_cons (s_var (pv 2)) (sa_cons (s_ix (ix_4 (hu_of hr)) ok_ix (s_ix (ix_4 (hu_of hr)) ok_ix (s_fld T.f_sizes (s_var (pv 0))) (s_var (pv 1))) (s_var (pv 2))) sa_nil))))))))
abbrev s__law_is_ratio : Stmt := top 33
abbrev N__law_is_ratio : List Str := ["_law_found", "_law_due", "_law_one"]
theorem sc__law_is_ratio : FnScope N__law_is_ratio ["_law_found", "_law_due"] (defScope s__law_is_ratio) := ⟨rfl, rfl, rfl, by decide +kernel, rfl, by decide +kernel, by decide +kernel⟩
theorem ok__law_is_ratio (T : Txt K mg cm) (F : Fun K "_law_is_ratio" "_law_is_ratio" s__law_is_ratio f fd) : FnOk P0 w K mg base (L2.CX P0 w) 1 f fd ["_law_found", "_law_due"] (spP K cm 2 m__law_is_ratio) := by
  refine fn_pure F sc__law_is_ratio (by decide) fun cdv A outer s H E hr => ?_
  exact (sb_cons (ss_if (st_w (sw_or (st_not (st_val (s_isiT (by rfl) T.n_isinstance (by decide +kernel) (s_var (pv 0)) (pe_bltn (v := .ty "tuple") (by rfl) T.n_tuple (by decide +kernel) rfl)))) (sw_or1 (st_cmp (op_neQ hr.units) ok_ne (s_var (pv 0)) (s_var (pv 1)) (nomark _)))))
    (sb_one (ss_ret s_bl))
    sb_nil)
    (sb_one (ss_ret (s_cmp (op_eqQ hr.units) ok_eq (s_comp (own := [("_law_one", 2)]) (by rfl) sc__law_is_ratio.nd (si_val (s_var (pv 0))) (blkOk_by (N := N__law_is_ratio) (sc := defScope s__law_is_ratio) (own := [("_law_one", 2)]) (by decide +kernel)) (by rfl) okTg_name (fun _ _ _ _ _ => (pg_name (i := 2) sc__law_is_ratio.nd rfl (by first | exact Or.inl rfl | exact Or.inr rfl))) (fun _ _ _ _ _ => (pts_one (st_w (sw_or (st_val (s_isiT (by rfl) T.n_isinstance (by decide +kernel) (s_var (pv 2)) (pe_bltn (v := .ty "bool") (by rfl) T.n_bool (by decide +kernel) rfl))) (sw_or1 (st_not (st_val (s_isiT (by rfl) T.n_isinstance (by decide +kernel) (s_var (pv 2)) (pe_bltn (v := .ty "int") (by rfl) T.n_int (by decide +kernel) rfl))))))))) (fun _ _ _ h => h) (fun _ _ _ _ _ => (s_var (pv 2)))) (s_lst sa_nil) (nomark _)))))
abbrev s_ratio : Stmt := top 18
abbrev N_ratio : List Str := ["n", "d", "part"]
theorem sc_ratio : FnScope N_ratio ["n", "d"] (defScope s_ratio) := ⟨rfl, rfl, rfl, by decide +kernel, rfl, by decide +kernel, by decide +kernel⟩
theorem ok_ratio (T : Txt K mg cm) (F : FunD K "ratio" "ratio" (defArgs s_ratio) (defBody s_ratio) (defScope s_ratio) dvs kws f fd) (G_common : Good P0 w K mg base cm "common" 2 1 m_common) : FnOk P0 w K mg base (L2.CX P0 w) 2 f fd ["n", "d"] (spP K cm 2 m_ratio) := by
  refine fn_pureD F sc_ratio (by decide) fun cdv A outer s H E hr => ?_
  exact (sb_cons (ss_if (st_cmp op_lt ok_lt (s_var (pv 1)) s_int (nomark _))
    (sb_one (ss_par (i := 0) (j := 1) (by rfl) rfl sc_ratio.nd rfl rfl (by decide) rfl rfl (sa_cons (s_op op_sub ok_sub s_int (s_var (pv 0))) (sa_cons (s_op op_sub ok_sub s_int (s_var (pv 1))) sa_nil))))
    sb_nil)
    (sb_cons (ss_set (by rfl) (ps_set (i := 2) sc_ratio.nd rfl (by first | exact Or.inl rfl | exact Or.inr rfl) (s_callG (takes_of rfl rfl rfl rfl) G_common hr (by decide) (by rfl) (by rfl) (sa_cons (s_callB call_abs ok_abs (by rfl) T.n_abs (by decide +kernel) (sa_cons (s_var (pv 0)) sa_nil)) (sa_cons (s_var (pv 1)) sa_nil)))))
    (sb_one (ss_ret (s_tup (sa_cons (s_op op_divD ok_div (s_var (pv 0)) (s_var (pv 2))) (sa_cons (s_op op_divD ok_div (s_var (pv 1)) (s_var (pv 2))) sa_nil)))))))
abbrev s_times : Stmt := top 19
abbrev N_times : List Str := ["one", "other"]
theorem sc_times : FnScope N_times ["one", "other"] (defScope s_times) := ⟨rfl, rfl, rfl, by decide +kernel, rfl, by decide +kernel, by decide +kernel⟩
theorem ok_times (T : Txt K mg cm) (F : Fun K "times" "times" s_times f fd) (Gd_ratio_0 : GoodD P0 w K mg base cm "ratio" 2 2 m_ratio []) : FnOk P0 w K mg base (L2.CX P0 w) 3 f fd ["one", "other"] (spP K cm 2 m_times) := by
  refine fn_pure F sc_times (by decide) fun cdv A outer s H E hr => ?_
  exact (sb_one (ss_ret (s_callGD (takes_of rfl rfl rfl rfl) Gd_ratio_0 hr (by decide) (by rfl) (by rfl) (by rfl) (sa_cons (s_op op_mul3 ok_mul (s_ix (ix_4 (hu_of hr)) ok_ix (s_var (pv 0)) s_int) (s_ix (ix_4 (hu_of hr)) ok_ix (s_var (pv 1)) s_int)) (sa_cons (s_op op_mul3 ok_mul (s_ix (ix_4 (hu_of hr)) ok_ix (s_var (pv 0)) s_int) (s_ix (ix_4 (hu_of hr)) ok_ix (s_var (pv 1)) s_int)) sa_nil)))))
abbrev s_Goods_own_amount : Stmt := (clsB (top 27)).getD 7 (.Pass ⟨0, 0, 0, 0⟩)
abbrev N_Goods_own_amount : List Str := ["self", "good", "measure", "amount"]
theorem sc_Goods_own_amount : FnScope N_Goods_own_amount ["self", "good", "measure", "amount"] (defScope s_Goods_own_amount) := ⟨rfl, rfl, rfl, by decide +kernel, rfl, by decide +kernel, by decide +kernel⟩
theorem ok_Goods_own_amount (T : Txt K mg cm) (F : FunD K "own_amount" "Goods.own_amount" (defArgs s_Goods_own_amount) (defBody s_Goods_own_amount) (defScope s_Goods_own_amount) dvs kws f fd) (G_is_ratio : Good P0 w K mg base cm "is_ratio" 1 2 m_is_ratio) (G_times : Good P0 w K mg base cm "times" 2 3 m_times) (Mt_Goods_need_good_0 : GoodMt P0 w K mg base cm "Goods" "need_good" 1 (spP K cm 2 m_Goods_need_good) []) : FnOk P0 w K mg base (L2.CX P0 w) 4 f fd ["self", "good", "measure", "amount"] (spP K cm 4 m_Goods_own_amount) := by
  refine fn_pureD F sc_Goods_own_amount (by decide) fun cdv A outer s H E hr => ?_
  exact (sb_cons (ss_expr (s_meth (takes_of rfl rfl rfl rfl) Mt_Goods_need_good_0 hr (by decide) (by rfl) (by rfl) (s_var (pv 0)) (sa_cons (s_var (pv 1)) sa_nil)))
    (sb_cons (ss_if (st_w (sw_or (st_not (st_val (s_isiT (by rfl) T.n_isinstance (by decide +kernel) (s_var (pv 2)) (pe_bltn (v := .ty "str") (by rfl) T.n_str (by decide +kernel) rfl)))) (sw_or1 (st_cmp (op_notIn3 (hu_of hr)) ok_notIn (s_var (pv 2)) (s_ix (ix_4 (hu_of hr)) ok_ix (s_fld T.f_sizes (s_var (pv 0))) (s_var (pv 1))) rfl))))
    (sb_one ss_never)
    sb_nil)
    (sb_cons (ss_if (st_w (sw_or (st_not (st_val (s_callG (takes_of rfl rfl rfl rfl) G_is_ratio hr (by decide) (by rfl) (by rfl) (sa_cons (s_var (pv 3)) sa_nil)))) (sw_or1 (st_cmp op_lt ok_lt (s_ix (ix_4 (hu_of hr)) ok_ix (s_var (pv 3)) s_int) s_int (nomark _)))))
    (sb_one ss_never)
    sb_nil)
    (sb_one (ss_ret (s_callG (takes_of rfl rfl rfl rfl) G_times hr (by decide) (by rfl) (by rfl) (sa_cons (s_var (pv 3)) (sa_cons (s_ix (ix_4 (hu_of hr)) ok_ix (s_ix (ix_4 (hu_of hr)) ok_ix (s_fld T.f_sizes (s_var (pv 0))) (s_var (pv 1))) (s_var (pv 2))) sa_nil))))))))
abbrev s__law_named_right : Stmt := top 36
abbrev N__law_named_right : List Str := ["_law_goods", "_law_own", "_law_name", "_law_n", "_law_marks", "_law_sizes", "_law_measure", "_law_amount_here", "_law_much", "_law_due", "_law_pair"]
theorem sc__law_named_right : FnScope N__law_named_right ["_law_goods", "_law_own", "_law_name", "_law_n"] (defScope s__law_named_right) := ⟨rfl, rfl, rfl, by decide +kernel, rfl, by decide +kernel, by decide +kernel⟩
theorem ok__law_named_right (T : Txt K mg cm) (F : Fun K "_law_named_right" "_law_named_right" s__law_named_right f fd) (G__law_is_ratio : Good P0 w K mg base cm "_law_is_ratio" 2 1 m__law_is_ratio) (G__law_amount : Good P0 w K mg base cm "_law_amount" 3 2 m__law_amount) (G__law_lowest : Good P0 w K mg base cm "_law_lowest" 2 1 m__law_lowest) (Mt_Goods_marks_of_0 : GoodMt P0 w K mg base cm "Goods" "marks_of" 2 (spP K cm 2 m_Goods_marks_of) []) (Mt_Goods_measures_of_0 : GoodMt P0 w K mg base cm "Goods" "measures_of" 2 (spP K cm 2 m_Goods_measures_of) []) (Mt_Goods_need_good_0 : GoodMt P0 w K mg base cm "Goods" "need_good" 1 (spP K cm 2 m_Goods_need_good) []) (Mt_Goods_own_amount_0 : GoodMt P0 w K mg base cm "Goods" "own_amount" 4 (spP K cm 4 m_Goods_own_amount) []) : FnOk P0 w K mg base (L2.CX P0 w) 5 f fd ["_law_goods", "_law_own", "_law_name", "_law_n"] (spP K cm 4 m__law_named_right) := by
  refine fn_pure F sc__law_named_right (by decide) fun cdv A outer s H E hr => ?_
  exact (sb_cons (ss_par (i := 4) (j := 5) (by rfl) rfl sc__law_named_right.nd rfl rfl (by decide) rfl rfl (sa_cons (s_meth (takes_of rfl rfl rfl rfl) Mt_Goods_marks_of_0 hr (by decide) (by rfl) (by rfl) (s_var (pv 0)) (sa_cons (s_var (pv 2)) sa_nil)) (sa_cons (s_meth (takes_of rfl rfl rfl rfl) Mt_Goods_measures_of_0 hr (by decide) (by rfl) (by rfl) (s_var (pv 0)) (sa_cons (s_var (pv 2)) sa_nil)) sa_nil)))
    (sb_cons (ss_if (st_w (sw_or (st_not (st_val (s_isiT (by rfl) T.n_isinstance (by decide +kernel) (s_var (pv 4)) (pe_bltn (v := .ty "list") (by rfl) T.n_list (by decide +kernel) rfl)))) (sw_or (st_cmp (op_neQ hr.units) ok_ne (s_var (pv 4)) (s_ix (ix_4 (hu_of hr)) ok_ix (s_ix (ix_4 (hu_of hr)) ok_ix (s_var (pv 1)) s_str) (s_var (pv 2))) (nomark _)) (sw_or1 (st_not (st_val (s_isiT (by rfl) T.n_isinstance (by decide +kernel) (s_var (pv 5)) (pe_bltn (v := .ty "list") (by rfl) T.n_list (by decide +kernel) rfl))))))))
    (sb_one (ss_ret s_bl))
    sb_nil)
    (sb_cons (ss_if (st_w (sw_or (st_cmp (op_neQ hr.units) ok_ne (s_var (pv 5)) (s_ix (ix_4 (hu_of hr)) ok_ix (s_ix (ix_4 (hu_of hr)) ok_ix (s_var (pv 1)) s_str) (s_var (pv 2))) (nomark _)) (sw_or1 (st_not (st_val (s_callB (cr_all (by rfl)) ok_all (by rfl) T.n_all (by decide +kernel) (sa_cons (s_comp (own := [("_law_pair", 10)]) (by rfl) sc__law_named_right.nd (si_val (s_var (pv 5))) (blkOk_by (N := N__law_named_right) (sc := defScope s__law_named_right) (own := [("_law_pair", 10)]) (by decide +kernel)) (by rfl) okTg_name (fun _ _ _ _ _ => (pg_name (i := 10) sc__law_named_right.nd rfl (by first | exact Or.inl rfl | exact Or.inr rfl))) (fun _ _ _ _ _ => pts_nil) yes_T (fun _ _ _ _ _ => (s_isiT (by rfl) T.n_isinstance (by decide +kernel) (s_var (pv 10)) (pe_bltn (v := .ty "tuple") (by rfl) T.n_tuple (by decide +kernel) rfl)))) sa_nil)))))))
    (sb_one (ss_ret s_bl))
    sb_nil)
    (sb_cons (ss_if (st_w (sw_or (st_not (st_val (s_callB (cr_all (by rfl)) ok_all (by rfl) T.n_all (by decide +kernel) (sa_cons (s_comp (own := [("_law_pair", 10)]) (by rfl) sc__law_named_right.nd (si_val (s_var (pv 5))) (blkOk_by (N := N__law_named_right) (sc := defScope s__law_named_right) (own := [("_law_pair", 10)]) (by decide +kernel)) (by rfl) okTg_name (fun _ _ _ _ _ => (pg_name (i := 10) sc__law_named_right.nd rfl (by first | exact Or.inl rfl | exact Or.inr rfl))) (fun _ _ _ _ _ => pts_nil) yes_T (fun _ _ _ _ _ => (s_callG takes0 G__law_is_ratio hr (by decide) (by rfl) (by rfl) (sa_cons (s_ix (ix_4 (hu_of hr)) ok_ix (s_var (pv 10)) s_int) (sa_cons (s_ix (ix_4 (hu_of hr)) ok_ix (s_var (pv 10)) s_int) sa_nil))))) sa_nil)))) (sw_or1 (st_cmp op_isNQ ok_isN (s_meth (takes_of rfl rfl rfl rfl) Mt_Goods_need_good_0 hr (by decide) (by rfl) (by rfl) (s_var (pv 0)) (sa_cons (s_var (pv 2)) sa_nil)) s_non (nomark _)))))
    (sb_one (ss_ret s_bl))
    sb_nil)
    (sb_cons (ss_mut PySem.F.slot_list_append PySem.F.type_list_append mt_append mut_append (sp_name (pv 4)) (sa_cons s_str sa_nil))
    (sb_cons (ss_mut PySem.F.slot_list_append PySem.F.type_list_append mt_append mut_append (sp_name (pv 5)) (sa_cons s_str sa_nil))
    (sb_cons (ss_for (S := [6, 7]) (passes_of rfl) rfl (si_val (s_ix (ix_4 (hu_of hr)) ok_ix (s_ix (ix_4 (hu_of hr)) ok_ix (s_var (pv 1)) s_str) (s_var (pv 2)))) (pg_tup (by rfl) (pgs_cons (pg_name (i := 6) sc__law_named_right.nd rfl (by first | exact Or.inl rfl | exact Or.inr rfl)) (pgs_cons (pg_name (i := 7) sc__law_named_right.nd rfl (by first | exact Or.inl rfl | exact Or.inr rfl)) pgs_nil))) (okTg_tup (n := 2) rfl (okTgs_cons okTg_name (okTgs_cons okTg_name okTgs_nil))) (by rfl)
    (sb_cons (ss_set (by rfl) (ps_set (i := 8) sc__law_named_right.nd rfl (by first | exact Or.inl rfl | exact Or.inr rfl) (s_ix (ix_4 (hu_of hr)) ok_ix (s_lst (sa_cons (s_tup (sa_cons s_int (sa_cons s_int sa_nil))) (sa_cons (s_callG (takes_of rfl rfl rfl rfl) G__law_amount hr (by decide) (by rfl) (by rfl) (sa_cons (s_var (pv 3)) (sa_cons s_int (sa_cons s_int sa_nil)))) (sa_cons (s_callG (takes_of rfl rfl rfl rfl) G__law_lowest hr (by decide) (by rfl) (by rfl) (sa_cons (s_op op_add4 ok_add s_int (s_op op_modD ok_mod (s_var (pv 3)) (s_op op_powD ok_pow s_int s_int))) (sa_cons (s_op op_add4 ok_add (s_op op_powD ok_pow s_int s_int) s_int) sa_nil))) sa_nil)))) (s_op op_modD ok_mod (s_var (pv 3)) s_int))))
    (sb_cons (ss_set (by rfl) (ps_set (i := 9) sc__law_named_right.nd rfl (by first | exact Or.inl rfl | exact Or.inr rfl) (s_callG (takes_of rfl rfl rfl rfl) G__law_lowest hr (by decide) (by rfl) (by rfl) (sa_cons (s_op op_mul3 ok_mul (s_ix (ix_4 (hu_of hr)) ok_ix (s_var (pv 8)) s_int) (s_ix (ix_4 (hu_of hr)) ok_ix (s_var (pv 7)) s_int)) (sa_cons (s_op op_mul3 ok_mul (s_ix (ix_4 (hu_of hr)) ok_ix (s_var (pv 8)) s_int) (s_ix (ix_4 (hu_of hr)) ok_ix (s_var (pv 7)) s_int)) sa_nil)))))
    (sb_one (ss_if (st_not (st_val (s_callG (takes_of rfl rfl rfl rfl) G__law_is_ratio hr (by decide) (by rfl) (by rfl) (sa_cons (s_meth (takes_of rfl rfl rfl rfl) Mt_Goods_own_amount_0 hr (by decide) (by rfl) (by rfl) (s_var (pv 0)) (sa_cons (s_var (pv 2)) (sa_cons (s_var (pv 6)) (sa_cons (s_var (pv 8)) sa_nil)))) (sa_cons (s_var (pv 9)) sa_nil)))))
    (sb_one (ss_ret s_bl))
    sb_nil)))))
    (sb_one (ss_ret s_bl)))))))))
abbrev s__law_right : Stmt := top 37
abbrev N__law_right : List Str := ["_law_goods", "_law_own", "_law_n", "_law_turn", "_law_found", "_law_name"]
theorem sc__law_right : FnScope N__law_right ["_law_goods", "_law_own", "_law_n"] (defScope s__law_right) := ⟨rfl, rfl, rfl, by decide +kernel, rfl, by decide +kernel, by decide +kernel⟩
theorem ok__law_right (T : Txt K mg cm) (F : Fun K "_law_right" "_law_right" s__law_right f fd) (G__law_named_right : Good P0 w K mg base cm "_law_named_right" 4 5 m__law_named_right) (Mt_Goods_called_goods_0 : GoodMt P0 w K mg base cm "Goods" "called_goods" 1 (spP K cm 1 m_Goods_called_goods) []) : FnOk P0 w K mg base (L2.CX P0 w) 6 f fd ["_law_goods", "_law_own", "_law_n"] (spP K cm 3 m__law_right) := by
  refine fn_pure F sc__law_right (by decide) fun cdv A outer s H E hr => ?_
  exact (sb_cons (ss_for (S := [3]) (passes_of rfl) rfl (si_r1 (by rfl) T.n_range (sa_cons s_int sa_nil)) (pg_name (i := 3) sc__law_right.nd rfl (by first | exact Or.inl rfl | exact Or.inr rfl)) okTg_name (by rfl)
    (sb_one (ss_if (st_cmp (op_eqQ hr.units) ok_eq (s_op op_modD ok_mod (s_op op_add4 ok_add (s_var (pv 2)) (s_var (pv 3))) s_int) s_int (nomark _))
    (sb_cons (ss_set (by rfl) (ps_set (i := 4) sc__law_right.nd rfl (by first | exact Or.inl rfl | exact Or.inr rfl) (s_meth0 (takes_of rfl rfl rfl rfl) Mt_Goods_called_goods_0 hr (by decide) (by rfl) (by rfl) (s_var (pv 0)))))
    (sb_cons (ss_if (st_w (sw_or (st_not (st_val (s_isiT (by rfl) T.n_isinstance (by decide +kernel) (s_var (pv 4)) (pe_bltn (v := .ty "list") (by rfl) T.n_list (by decide +kernel) rfl)))) (sw_or1 (st_cmp (op_neQ hr.units) ok_ne (s_var (pv 4)) (s_ix (ix_4 (hu_of hr)) ok_ix (s_var (pv 1)) s_str) (nomark _)))))
    (sb_one (ss_ret s_bl))
    sb_nil)
    (sb_one (ss_mut PySem.F.slot_list_append PySem.F.type_list_append mt_append mut_append (sp_name (pv 4)) (sa_cons s_str sa_nil)))))
    (sb_one (ss_for (S := [5]) (passes_of rfl) rfl (si_val (s_ix (ix_4 (hu_of hr)) ok_ix (s_var (pv 1)) s_str)) (pg_name (i := 5) sc__law_right.nd rfl (by first | exact Or.inl rfl | exact Or.inr rfl)) okTg_name (by rfl)
    (sb_one (ss_if (st_not (st_val (s_callG (takes_of rfl rfl rfl rfl) G__law_named_right hr (by decide) (by rfl) (by rfl) (sa_cons (s_var (pv 0)) (sa_cons (s_var (pv 1)) (sa_cons (s_var (pv 5)) (sa_cons (s_op op_divD ok_div (s_var (pv 2)) s_int) sa_nil)))))))
    (sb_one (ss_ret s_bl))
    sb_nil)))))))
    (sb_one (ss_ret s_bl)))
abbrev s_law : Stmt := top 39
abbrev N_law : List Str := ["_law_script", "_law_cells", "_law_pool_here", "_law_some", "_law_own", "_law_past", "_law_k", "_law_cell", "_law_n", "_law_at", "_law_place", "_law_pair"]
theorem sc_law : FnScope N_law ["_law_script"] (defScope s_law) := ⟨rfl, rfl, rfl, by decide +kernel, rfl, by decide +kernel, by decide +kernel⟩
theorem ok_law (T : Txt K mg cm) (F : Fun K "law" "law" s_law f fd) (G__law_pool : Good P0 w K mg base cm "_law_pool" 2 2 m__law_pool) (G__law_draw : Good P0 w K mg base cm "_law_draw" 3 1 m__law_draw) (G__law_kept : Good P0 w K mg base cm "_law_kept" 1 1 m__law_kept) (G__law_right : Good P0 w K mg base cm "_law_right" 3 6 m__law_right) (Mt_Goods_copied_0 : GoodMt P0 w K mg base cm "Goods" "copied" 5 (spP K cm 1 m_Goods_copied) []) (Gf__law_deed_0 : GoodF P0 w K mg base "_law_deed" 6 (spM K cm 5 [0, 1] m__law_deed) []) (Mk_Goods : GoodMk P0 w K mg base cm "Goods" 1 (spM K cm 1 [0] m_Goods___init__) []) : FnOk P0 w K mg base (L2.CX P0 w) 7 f fd ["_law_script"] (spP K cm 1 m_law) := by
  refine fn_pure F sc_law (by decide) fun cdv A outer s H E hr => ?_
  exact (sb_cons (ss_set (by rfl) (ps_set (i := 1) sc_law.nd rfl (by first | exact Or.inl rfl | exact Or.inr rfl) (s_slice sl_3 ok_sl (s_var (pv 0)) so_none (so_some s_int))))
    (sb_cons (ss_set (by rfl) (ps_set (i := 2) sc_law.nd rfl (by first | exact Or.inl rfl | exact Or.inr rfl) (s_callG (takes_of rfl rfl rfl rfl) G__law_pool hr (by decide) (by rfl) (by rfl) (sa_cons (s_callB (cr_sum (by rfl)) ok_sum (by rfl) T.n_sum (by decide +kernel) (sa_cons (s_slice sl_3 ok_sl (s_var (pv 1)) so_none (so_some s_int)) sa_nil)) (sa_cons s_int sa_nil)))))
    (sb_cons (ss_set (by rfl) (ps_set (i := 3) sc_law.nd rfl (by first | exact Or.inl rfl | exact Or.inr rfl) (s_lst (sa_cons (s_make0 (takes_of rfl rfl rfl rfl) Mk_Goods hr (by decide) (by rfl) (by rfl) (by rfl)) (sa_cons (s_make0 (takes_of rfl rfl rfl rfl) Mk_Goods hr (by decide) (by rfl) (by rfl) (by rfl)) sa_nil)))))
    (sb_cons (ss_set (by rfl) (ps_set (i := 4) sc_law.nd rfl (by first | exact Or.inl rfl | exact Or.inr rfl) (s_lst (sa_cons (s_disp (pps_str (s_lst sa_nil) (pps_str s_dict0 (pps_str s_dict0 (pps_ok rfl rfl)))) rfl rfl rfl (by simp) (by decide)) (sa_cons (s_disp (pps_str (s_lst sa_nil) (pps_str s_dict0 (pps_str s_dict0 (pps_ok rfl rfl)))) rfl rfl rfl (by simp) (by decide)) sa_nil)))))
    (sb_cons (ss_set (by rfl) (ps_set (i := 5) sc_law.nd rfl (by first | exact Or.inl rfl | exact Or.inr rfl) (s_lst sa_nil)))
    (sb_cons (ss_fz 1 (ss_for (S := [6, 7]) (passes_of rfl) rfl (si_enum (by rfl) T.n_enumerate (sa_cons (s_var (pv 1)) sa_nil)) (pg_tup (by rfl) (pgs_cons (pg_name (i := 6) sc_law.nd rfl (by first | exact Or.inl rfl | exact Or.inr rfl)) (pgs_cons (pg_name (i := 7) sc_law.nd rfl (by first | exact Or.inl rfl | exact Or.inr rfl)) pgs_nil))) (okTg_tup (n := 2) rfl (okTgs_cons okTg_name (okTgs_cons okTg_name okTgs_nil))) (by rfl)
    (sb_cons (ss_set (by rfl) (ps_set (i := 8) sc_law.nd rfl (by first | exact Or.inl rfl | exact Or.inr rfl) (s_callG (takes_of rfl rfl rfl rfl) G__law_draw hr (by decide) (by rfl) (by rfl) (sa_cons (s_var (pv 7)) (sa_cons (s_var (pv 6)) (sa_cons s_int sa_nil))))))
    (sb_cons (ss_set (by rfl) (ps_set (i := 9) sc_law.nd rfl (by first | exact Or.inl rfl | exact Or.inr rfl) (s_callTy (call_int4 T.dig) ok_int4 (by rfl) T.n_int (by decide +kernel) (sa_cons (s_cmp (op_eqQ hr.units) ok_eq (s_op op_modD ok_mod (s_var (pv 8)) s_int) s_int (nomark _)) sa_nil))))
    (sb_cons (ss_if (st_cmp (op_eqQ hr.units) ok_eq (s_op op_modD ok_mod (s_op op_divD ok_div (s_var (pv 8)) s_int) s_int) s_int (nomark _))
    (sb_cons (ss_fzP 3 (πIx 3 pHere (eVar 9)) (ss_mut PySem.F.slot_list_append PySem.F.type_list_append mt_append mut_append (sp_name (pv 5)) (sa_cons (s_tup (sa_cons (s_ix (ix_4 (hu_of hr)) ok_ix (s_var (pv 3)) (s_var (pv 9))) (sa_cons (s_callG (takes_of rfl rfl rfl rfl) G__law_kept hr (by decide) (by rfl) (by rfl) (sa_cons (s_ix (ix_4 (hu_of hr)) ok_ix (s_var (pv 4)) (s_var (pv 9))) sa_nil)) sa_nil))) sa_nil)))
    (sb_one (ss_put2 (hu_of hr) (sp2_name (pv 3)) (s_meth0 (takes_of rfl rfl rfl rfl) Mt_Goods_copied_0 hr (by decide) (by rfl) (by rfl) (s_ix (ix_4 (hu_of hr)) ok_ix (s_var (pv 3)) (s_var (pv 9)))) (s_var (pv 9)))))
    sb_nil)
    (sb_cons (ss_if (st_not (st_val (s_isiC (fun _ _ h => nomatch h) (obC_ok T.i_Goods) (by rfl) T.n_isinstance (by rfl) T.g_Goods (s_ix (ix_4 (hu_of hr)) ok_ix (s_var (pv 3)) (s_var (pv 9))))))
    (sb_one (ss_ret s_bl))
    sb_nil)
    (sb_cons (ss_ifX (xt_not (xt_val (x_call (takes_of rfl rfl rfl rfl) Gf__law_deed_0 hr (by decide) (by rfl) (by rfl) (by rfl) (by rfl) (as_pl (sp2_ix (hu_of hr) (sp2_name (pv 3)) (s_var (pv 9))) (as_pl (sp2_ix (hu_of hr) (sp2_name (pv 4)) (s_var (pv 9))) (as_hd (s_var (pv 2)) (as_hd (s_var (pv 7)) (as_hd (s_var (pv 6)) as_nil))))))))
    (sb_one (ss_ret s_bl))
    sb_nil)
    (sb_one (ss_for (S := [10]) (passes_of rfl) rfl (si_val (s_tup (sa_cons (s_var (pv 9)) (sa_cons (s_op op_sub ok_sub s_int (s_var (pv 9))) sa_nil)))) (pg_name (i := 10) sc_law.nd rfl (by first | exact Or.inl rfl | exact Or.inr rfl)) okTg_name (by rfl)
    (sb_one (ss_if (st_not (st_val (s_callG (takes_of rfl rfl rfl rfl) G__law_right hr (by decide) (by rfl) (by rfl) (sa_cons (s_ix (ix_4 (hu_of hr)) ok_ix (s_var (pv 3)) (s_var (pv 10))) (sa_cons (s_ix (ix_4 (hu_of hr)) ok_ix (s_var (pv 4)) (s_var (pv 10))) (sa_cons (s_op op_divD ok_div (s_var (pv 8)) s_int) sa_nil))))))
    (sb_one (ss_ret s_bl))
    sb_nil)))))))))))
    (sb_one (ss_ret (s_cmp (op_eqQ hr.units) ok_eq (s_comp (own := [("_law_pair", 11)]) (by rfl) sc_law.nd (si_val (s_var (pv 5))) (blkOk_by (N := N_law) (sc := defScope s_law) (own := [("_law_pair", 11)]) (by decide +kernel)) (by rfl) okTg_name (fun _ _ _ _ _ => (pg_name (i := 11) sc_law.nd rfl (by first | exact Or.inl rfl | exact Or.inr rfl))) (fun _ _ _ _ _ => (pts_one (st_not (st_val (s_callG takes0 G__law_right hr (by decide) (by rfl) (by rfl) (sa_cons (s_ix (ix_4 (hu_of hr)) ok_ix (s_var (pv 11)) s_int) (sa_cons (s_ix (ix_4 (hu_of hr)) ok_ix (s_var (pv 11)) s_int) (sa_cons s_int sa_nil)))))))) (fun _ _ _ h => h) (fun _ _ _ _ _ => (s_var (pv 11)))) (s_lst sa_nil) (nomark _))))))))))
end
end OB

namespace OB
open PySem PySem.Spec PyProof.Rows L2 PySem.NumText
def dr (c k j : Int) : Int := (c % 2147483629 * 48271 + ((k + 3) * (k + 3) * 40692 + (j + 7) * (j + 7) * 69621)) % 2147483647 * 16807 % 2147483629 / 3
theorem dr_range (c k j : Int) : 0 ≤ dr c k j ∧ dr c k j < 1073741824 := by unfold dr; omega
theorem draw_eq {c k j : Int} [Bd k 20] [Bd j 20] : m__law_draw [.int c, .int k, .int j] = .ok (.int (dr c k j)) := by
  unfold m__law_draw g__law_draw dr
  simp (decide := true)
/-! the greatest common part -/
theorem gcd_turn (a b : Nat) : Nat.gcd a b = Nat.gcd b (a % b) := by rw [Nat.gcd_comm a b, Nat.gcd_rec b a, Nat.gcd_comm]
theorem common_loop (a b : Nat) : lp_common_1 [some (.int a), some (.int b)] = some (.nx, [some (.int (Nat.gcd a b)), some (.int 0)]) :=
  sWhile_run (α := Nat × Nat) (fun p => [some (.int p.1), some (.int p.2)]) (fun p => [some (.int (Nat.gcd p.1 p.2)), some (.int 0)]) (fun p => p.2) (fun _ => True) (fun ⟨a, b⟩ _ => by
    by_cases h : b = 0
    · subst h
      refine .inl ⟨?_, ?_⟩
      · unfold lt_common_1; simp
      · simp
    · have hb : 0 < b := by omega
      refine .inr ⟨?_, (b, a % b), ?_, trivial, Nat.mod_lt _ hb, ?_⟩
      · unfold lt_common_1; simp [hb]
      · unfold lb_common_1; simp [hb]
      · simp [gcd_turn a b]) (a, b) trivial
theorem common_eq {a b : Nat} : m_common [.int a, .int b] = .ok (.int (Nat.gcd a b)) := by
  unfold m_common g_common
  simp [common_loop]
theorem lowest_loop {x y z : Option D} (a b : Nat) : lp__law_lowest_1 [x, y, z, some (.int a), some (.int b)] = some (.nx, [x, y, z, some (.int (Nat.gcd a b)), some (.int 0)]) :=
  sWhile_run (α := Nat × Nat) (fun p => [x, y, z, some (.int p.1), some (.int p.2)]) (fun p => [x, y, z, some (.int (Nat.gcd p.1 p.2)), some (.int 0)]) (fun p => p.2) (fun _ => True) (fun ⟨a, b⟩ _ => by
    by_cases h : b = 0
    · subst h
      refine .inl ⟨?_, ?_⟩
      · unfold lt__law_lowest_1; simp
      · simp
    · have hb : 0 < b := by omega
      refine .inr ⟨?_, (b, a % b), ?_, trivial, Nat.mod_lt _ hb, ?_⟩
      · unfold lt__law_lowest_1; simp [hb]
      · unfold lb__law_lowest_1; simp [hb]
      · simp [gcd_turn a b]) (a, b) trivial
/-- a ratio in lowest terms -/
def sgn (b : Int) : Int := if 0 < b then 1 else -1
def loN (a b : Int) : Int := sgn b * a / (Int.gcd a b : Nat)
def loD (a b : Int) : Int := sgn b * b / (Int.gcd a b : Nat)
abbrev ratD (a b : Int) : D := .nd .tup [.int a, .int b]
theorem gcd_bd {a b : Int} (h : b ≠ 0) {n : Nat} [x : Bd b n] : Bd ((Int.gcd a b : Nat) : Int) n := ⟨by
  have : Int.gcd a b ≤ b.natAbs := Nat.le_of_dvd (by omega) (Nat.gcd_dvd_right _ _)
  have := x.lt
  omega⟩
theorem gcd_pos {a b : Int} (h : b ≠ 0) : 0 < Int.gcd a b := Nat.gcd_pos_of_pos_right a.natAbs (show 0 < b.natAbs by omega)
theorem gcd_abs (a b : Int) : Nat.gcd a.natAbs b.natAbs = Int.gcd a b := rfl
theorem lowest_eq {a b : Int} {n m : Nat} (h : b ≠ 0) [x : Bd a n] [y : Bd b m] (hn : n ≤ 8000 := by decide) (hm : m ≤ 8000 := by decide) : m__law_lowest [.int a, .int b] = .ok (ratD (loN a b) (loD a b)) := by
  replace x := x.mono hn
  replace y := y.mono hm
  have hp := gcd_pos (a := a) h
  have hb := gcd_bd (a := a) h (n := 8000)
  unfold m__law_lowest g__law_lowest loN loD sgn
  by_cases h0 : 0 < b
  · simp (decide := true) [lowest_loop, gcd_abs, h0, hp]
  · simp (decide := true) [lowest_loop, gcd_abs, h0, hp]
theorem ratio_eq {a b : Int} {n m : Nat} (h : b ≠ 0) [x : Bd a n] [y : Bd b m] (hn : n ≤ 8000 := by decide) (hm : m ≤ 8000 := by decide) : m_ratio [.int a, .int b] = .ok (ratD (loN a b) (loD a b)) := by
  replace x := x.mono hn
  replace y := y.mono hm
  have hp := gcd_pos (a := a) h
  have hb := gcd_bd (a := a) h (n := 8000)
  unfold m_ratio g_ratio loN loD sgn
  by_cases h0 : 0 < b
  · have h1 : ¬ b < 0 := by omega
    obtain ⟨q, rfl⟩ : ∃ q : Nat, b = q := ⟨b.toNat, by omega⟩
    have ec := common_eq (a := a.natAbs) (b := q)
    have eg : Nat.gcd a.natAbs q = Int.gcd a q := rfl
    have hq : 0 < q := by omega
    simp (decide := true) [ec, eg, h1, hp, hq]
  · have h1 : b < 0 := by omega
    obtain ⟨q, hq⟩ : ∃ q : Nat, b = -(q : Int) := ⟨(-b).toNat, by omega⟩
    subst hq
    have ec := common_eq (a := a.natAbs) (b := q)
    have eg : Nat.gcd a.natAbs q = Int.gcd a (-(q : Int)) := by unfold Int.gcd; simp
    rw [eg] at ec
    have hq : 0 < q := by omega
    have hq2 : ¬ ((q : Int) < 0) := by omega
    have eg2 : Int.gcd a (-(q : Int)) = Int.gcd a q := by simp
    rw [eg2] at hp hb ec
    simp (decide := true) [ec, hp, hq, hq2]
/-! what lowest terms are -/
theorem lo_pos {a b : Int} (h : b ≠ 0) : 0 < loD a b := by
  have hp := gcd_pos (a := a) h
  have hd : ((Int.gcd a b : Nat) : Int) ∣ sgn b * b := Int.dvd_trans (Int.gcd_dvd_right ..) (Int.dvd_mul_left _ _)
  have h1 : 0 < sgn b * b := by unfold sgn; split <;> omega
  exact Int.ediv_pos_of_pos_of_dvd h1 (by omega) hd
theorem lo_gcd {a b : Int} (h : b ≠ 0) : Int.gcd (loN a b) (loD a b) = 1 := by
  have hp := gcd_pos (a := a) h
  have e : Int.gcd a b = Int.gcd (sgn b * a) (sgn b * b) := by
    unfold sgn
    split
    · rw [Int.one_mul, Int.one_mul]
    · unfold Int.gcd
      rw [Int.neg_mul, Int.neg_mul, Int.one_mul, Int.one_mul, Int.natAbs_neg, Int.natAbs_neg]
  unfold loN loD
  rw [e] at hp ⊢
  exact Int.gcd_ediv_gcd_ediv_gcd hp
theorem lo_bdN {a b : Int} {n : Nat} [x : Bd a n] : Bd (loN a b) n := ⟨by
  unfold loN
  refine Nat.lt_of_le_of_lt (Int.natAbs_ediv_le_natAbs _ _) ?_
  have := x.lt
  unfold sgn
  split <;> omega⟩
theorem lo_bdD {a b : Int} {n : Nat} [x : Bd b n] : Bd (loD a b) n := ⟨by
  unfold loD
  refine Nat.lt_of_le_of_lt (Int.natAbs_ediv_le_natAbs _ _) ?_
  have := x.lt
  unfold sgn
  split <;> omega⟩
theorem lo_id {a b : Int} (h : 0 < b) (g : Int.gcd a b = 1) : loN a b = a ∧ loD a b = b := by
  unfold loN loD sgn
  rw [g, if_pos h]
  simp
/-- a ratio, its parts of at most n bits -/
structure Rt (a b : Int) (n : Nat) : Prop where
  pos : 0 < b
  gcd : Int.gcd a b = 1
  ba : Bd a n
  bb : Bd b n
theorem Rt.lo {a b : Int} {n : Nat} (h : b ≠ 0) (x : Bd a n) (y : Bd b n) : Rt (loN a b) (loD a b) n := ⟨lo_pos h, lo_gcd h, lo_bdN, lo_bdD⟩
theorem lo_lo {a b : Int} (h : b ≠ 0) : loN (loN a b) (loD a b) = loN a b ∧ loD (loN a b) (loD a b) = loD a b := lo_id (lo_pos h) (lo_gcd h)
end OB

namespace OB
open PySem PySem.Spec PyProof.Rows L2 PySem.NumText PySem.StrLaws Builtin.Str
section
variable {a b c d : Int} {n m : Nat}
theorem ne_mul {b d : Int} (h1 : 0 < b) (h2 : 0 < d) : b * d ≠ 0 := Int.mul_ne_zero (by omega) (by omega)
theorem times_eq (x : Rt a b 3000) (y : Rt c d 3000) : m_times [ratD a b, ratD c d] = .ok (ratD (loN (a * c) (b * d)) (loD (a * c) (b * d))) := by
  obtain ⟨p1, g1, _, _⟩ := x
  obtain ⟨p2, g2, _, _⟩ := y
  have e := ratio_eq (a := a * c) (b := b * d) (ne_mul p1 p2)
  unfold m_times g_times
  simp (decide := true) [e]
theorem law_is_ratio_eq : m__law_is_ratio [ratD a b, ratD a b] = .ok (.bl true) := by
  have e : cp__law_is_ratio_1 [some (ratD a b), some (ratD a b), none] = .ok (.nd (.lst .own) []) := by
    unfold cp__law_is_ratio_1 cc__law_is_ratio_1
    simp [eComp_eq, compL_cons, isiD, tyN, nbTy, sizeLine]
  unfold m__law_is_ratio g__law_is_ratio
  simp [e, isiD, tyN, nbTy]
theorem is_whole_int : m_is_whole [.int a] = .ok (.bl true) := by
  unfold m_is_whole g_is_whole
  simp [isiD, tyN, nbTy]
theorem is_ratio_eq [Bd a n] [Bd b m] : m_is_ratio [ratD a b] = .ok (.bl (decide (0 < b) && decide (Int.gcd a b = 1))) := by
  unfold m_is_ratio g_is_ratio
  by_cases h : 0 < b
  · obtain ⟨q, rfl⟩ : ∃ q : Nat, b = q := ⟨b.toNat, by omega⟩
    have ec := common_eq (a := a.natAbs) (b := q)
    have eg : Nat.gcd a.natAbs q = Int.gcd a q := rfl
    have hq : 0 < q := by omega
    rw [eg] at ec
    simp (decide := true) [isiD, tyN, nbTy, is_whole_int, h, ec, hq]
    by_cases h1 : Int.gcd a q = 1
    · simp [h1]
    · simp [h1]; omega
  · simp (decide := true) [isiD, tyN, nbTy, is_whole_int, h]
theorem Rt.mono (h : Rt a b n) (l : n ≤ m) : Rt a b m := ⟨h.pos, h.gcd, h.ba.mono l, h.bb.mono l⟩
theorem is_ratio_rt (x : Rt a b n) : m_is_ratio [ratD a b] = .ok (.bl true) := by
  obtain ⟨p, g, _, _⟩ := x
  rw [is_ratio_eq, decide_eq_true p, decide_eq_true g]
  rfl
theorem is_amount_rt (x : Rt a b n) (l : Int) : m_is_amount [ratD a b, .int l] = .ok (.bl ((decide (l ≤ a) && decide (a ≤ 1000000000000)) && decide (b ≤ 1000000))) := by
  have e := is_ratio_rt x
  unfold m_is_amount g_is_amount
  by_cases h1 : l ≤ a <;> by_cases h2 : a ≤ 1000000000000 <;> simp [e, h1, h2]
theorem amount_eq [Bd a 20] [Bd b 20] : ∃ t s : Int, m__law_amount [.int c, .int a, .int b] = .ok (ratD (loN t s) (loD t s)) ∧ 1 ≤ t ∧ t ≤ 1000000000000 ∧ 1 ≤ s ∧ s ≤ 1000000 := by
  have e := draw_eq (c := c) (k := a) (j := b)
  obtain ⟨n0, n1⟩ := dr_range c a b
  generalize dr c a b = n at e n0 n1
  obtain ⟨t, ht, e1⟩ := pick_int (f := .tmp) (vs := [1 + n / 4 % 9, 1 + (c + n) % 1000000000000, 1000000000000 - n / 4 % 3, 1 + n / 4 % 1000]) (k := n % 4) (by omega) (by simp; omega)
  obtain ⟨s, hs, e2⟩ := pick_int (f := .tmp) (vs := [1, 1 + n / 64 % 12, 1 + n / 64 % 1000000, 1000000 - n / 64 % 2, 1]) (k := n / 16 % 5) (by omega) (by simp; omega)
  have bt : 1 ≤ t ∧ t ≤ 1000000000000 := by
    simp at ht
    omega
  have bs : 1 ≤ s ∧ s ≤ 1000000 := by
    simp at hs
    omega
  haveI : Bd t 40 := bd_range (c := 1000000000000) (by omega) (by decide)
  haveI : Bd s 20 := bd_range (c := 1000000) (by omega) (by decide)
  refine ⟨t, s, ?_, bt.1, bt.2, bs.1, bs.2⟩
  have el := lowest_eq (a := t) (b := s) (by omega)
  simp at e1 e2
  unfold m__law_amount g__law_amount
  simp (decide := true) [e, e1, e2, el]
theorem am_rt {t s : Int} (h : 1 ≤ t ∧ t ≤ 1000000000000 ∧ 1 ≤ s ∧ s ≤ 1000000) : Rt (loN t s) (loD t s) 40 :=
  Rt.lo (by omega) (bd_range (c := 1000000000000) (by omega) (by decide)) (bd_range (c := 1000000000000) (by omega) (by decide))
theorem rt01 : Rt 0 1 100 := ⟨by decide, by decide, ⟨by decide⟩, ⟨by decide⟩⟩
end
theorem are_signs_eq {s z : Str} (h : s.length ≤ 16777216) : m_are_signs [.str s, .str z] = .ok (.bl (among s z)) := by
  have hl : ((sgs s).map fun c => D.bl (decide (c ∈ sgs z))).length ≤ sizeLine := by rw [List.length_map, sgs_len]; exact h
  have e1 : cp_are_signs_1 [some (.str s), some (.str z), none] = .ok (.nd (.lst .own) ((sgs s).map fun c => D.bl (decide (c ∈ sgs z)))) := by
    unfold cp_are_signs_1 ce_are_signs_1
    refine eComp_ok (p := ((sgs s).map fun c => D.str (sg c), true)) rfl ?_ hl
    have := compL_map (tg := tgName 2) (f := ePr pIn [eVar 2, eVar 1]) (ρ := wipeE [some (.str s), some (.str z), none] [2]) (fun d => match d with | .str a => .bl (match sgs a with | [c] => decide (c ∈ sgs z) | _ => false) | _ => .non) ((sgs s).map fun c => D.str (sg c)) fun d hd => by
      obtain ⟨c, hc, rfl⟩ := List.mem_map.mp hd
      exact ⟨[some (.str s), some (.str z), some (.str (sg c))], rfl, by simp [in_sg]; rfl⟩
    rw [this, List.map_map]
    rfl
  have e3 : pAll [.nd (.lst .own) ((sgs s).map fun c => D.bl (decide (c ∈ sgs z)))] = some (.bl (among s z)) := by
    have := blsD_map ((sgs s).map fun c => decide (c ∈ sgs z))
    rw [List.map_map] at this
    show Option.map _ (blsD _) = _
    rw [show (fun c => D.bl (decide (c ∈ sgs z))) = D.bl ∘ fun c => decide (c ∈ sgs z) from rfl, this]
    unfold among
    simp
  unfold m_are_signs g_are_signs
  simp [e1, e3]
abbrev az : Str := "abcdefghijklmnopqrstuvwxyz"
structure Nm (s : Str) : Prop where
  lo : 1 ≤ s.length
  hi : s.length ≤ 12
  ab : among s az = true
theorem is_name_eq {s : Str} (h : Nm s) : m_is_name [.str s] = .ok (.bl true) := by
  have h1 := h.lo
  have h2 := h.hi
  have e := are_signs_eq (s := s) (z := az) (by omega)
  have hz : s.length ≤ 16777216 := by omega
  have g1 : (1 : Int) ≤ s.length := by omega
  have g2 : (s.length : Int) ≤ 12 := by omega
  rw [h.ab] at e
  unfold m_is_name g_is_name
  simp (decide := true) [isiD, tyN, nbTy, hz, e, g1, g2]
theorem Nm.ok {s : Str} (h : Nm s) : OkS s 12 := by
  refine ⟨h.hi, fun c hc => ?_⟩
  have := List.all_eq_true.mp h.ab c hc
  have hm : c ∈ sgs az := of_decide_eq_true this
  exact (lit_ok "abcdefghijklmnopqrstuvwxyz").ok c hm
end OB

namespace OB
open PySem PySem.Spec PyProof.Rows L2 PySem.NumText PySem.StrLaws Builtin.Str
theorem cut_nat {xs : List D} {k : Nat} : cutD xs none (some (k : Int)) = xs.take k := by
  unfold cutD
  rw [HT.sIx_none, HT.sIx_nat]
  simp
theorem sl_lst {f : Fl} {xs : List D} {lo hi : Option Int} : pSl (.nd (.lst f) xs) lo hi = some (.nd (.lst .own) (cutD xs lo hi)) := rfl
theorem cat_lst {f g : Fl} {xs ys : List D} (h : xs.length + ys.length ≤ 16777216) : pAdd [.nd (.lst f) xs, .nd (.lst g) ys] = some (.nd (.lst .own) (xs ++ ys)) := by
  unfold pAdd
  exact if_pos h
theorem any_strs {x : Str} {ss : List Str} : ((ss.map D.str).any fun y => eqA y (.str x)) = decide (x ∈ ss) := by
  induction ss with
  | nil => rfl
  | cons s ss ih =>
    rw [List.map_cons, List.any_cons, ih]
    by_cases h : s = x
    · subst h; simp [eqA]
    · have h2 : ¬ x = s := fun q => h q.symm
      simp [eqA, h, h2]
theorem all_at_strs {ss : List Str} : (ss.map D.str).all isAt = true := by
  induction ss with
  | nil => rfl
  | cons s ss ih => rw [List.map_cons, List.all_cons, ih]; rfl
@[simp] theorem in_lstS {x : Str} {f : Fl} {ss : List Str} : pIn [.str x, .nd (.lst f) (ss.map .str)] = some (.bl (decide (x ∈ ss))) := by
  show ((if isAt (.str x) && (ss.map D.str).all isAt then some ((ss.map D.str).any fun y => eqA y (.str x)) else none) : Option Bool).map D.bl = _
  rw [all_at_strs, any_strs]
  rfl
@[simp] theorem notIn_lstS {x : Str} {f : Fl} {ss : List Str} : pNotIn [.str x, .nd (.lst f) (ss.map .str)] = some (.bl (!decide (x ∈ ss))) := by
  show ((if isAt (.str x) && (ss.map D.str).all isAt then some ((ss.map D.str).any fun y => eqA y (.str x)) else none) : Option Bool).map (fun b => D.bl (!b)) = _
  rw [all_at_strs, any_strs]
  rfl
theorem comp_rngD {f : En → Ot D} {ρ : En} {i n : Nat} (y : Nat → D) (hf : ∀ j, j < n → f (ρ.set i (some (.int j))) = .ok (y j)) : compL (tgName i) cYes f ρ (rngD 0 n) = some ((List.range n).map y) := by
  have := compL_map (tg := tgName i) (f := f) (ρ := ρ) (fun d => match d with | .int k => y k.toNat | _ => .non) (rngD 0 n) fun d hd => by
    unfold rngD at hd
    rw [rng_len] at hd
    obtain ⟨j, hj, rfl⟩ := List.mem_map.mp hd
    refine ⟨_, rfl, ?_⟩
    have := hf j (List.mem_range.mp hj)
    simpa using this
  rw [this]
  unfold rngD
  rw [rng_len, List.map_map]
  congr 1
  apply List.map_congr_left
  intro j hj
  simp
theorem enumD_cons (d : D) (ds : List D) (k : Nat) : True := trivial
theorem enumD_eq (ss : List Str) : enumD (ss.map D.str) = (List.range ss.length).map fun (j : Nat) => D.nd .tup [.int (j : Int), .str (ss.getD j ⟨#[]⟩)] := by
  unfold enumD
  apply List.ext_getElem?
  intro i
  by_cases h : i < ss.length
  · simp [h]
  · simp [h]
/-- the first of each -/
def dd (l : List Str) : List Str := (List.range l.length).filterMap fun j => if l.getD j ⟨#[]⟩ ∈ l.take j then none else some (l.getD j ⟨#[]⟩)
theorem dd_mem {l : List Str} {x : Str} : x ∈ dd l ↔ x ∈ l := by
  unfold dd
  rw [List.mem_filterMap]
  constructor
  · rintro ⟨j, hj, e⟩
    have hj := List.mem_range.mp hj
    split at e
    · cases e
    · cases e
      rw [List.getD_eq_getElem?_getD, List.getElem?_eq_getElem hj]
      exact List.getElem_mem hj
  · intro hx
    -- the first place of x
    have : ∃ j, j < l.length ∧ l.getD j ⟨#[]⟩ = x ∧ x ∉ l.take j := by
      induction l with
      | nil => cases hx
      | cons a l ih =>
        by_cases e : a = x
        · exact ⟨0, by simp, by simpa using e, by simp⟩
        · rcases List.mem_cons.mp hx with h | h
          · exact absurd h.symm e
          · obtain ⟨j, a1, a2, a3⟩ := ih h
            exact ⟨j + 1, by simpa using a1, by simpa using a2, by
              rw [List.take_succ_cons]
              intro q
              rcases List.mem_cons.mp q with q | q
              · exact e q.symm
              · exact a3 q⟩
    obtain ⟨j, a1, a2, a3⟩ := this
    exact ⟨j, List.mem_range.mpr a1, by rw [a2, if_neg a3]⟩
theorem dd_nodup (l : List Str) : (dd l).Nodup := by
  unfold dd
  have key : ∀ (i j : Nat), i < j → j < l.length → l.getD j ⟨#[]⟩ ∉ l.take j → l.getD i ⟨#[]⟩ ≠ l.getD j ⟨#[]⟩ := fun i j h1 h2 h3 e => h3 (by
    rw [← e]
    have hi : i < l.length := by omega
    rw [List.getD_eq_getElem?_getD, List.getElem?_eq_getElem hi]
    show l[i] ∈ _
    rw [List.mem_take_iff_getElem]
    exact ⟨i, by omega, rfl⟩)
  refine List.Pairwise.filterMap _ (R := fun i j => i < j ∧ j < l.length) (fun i j h b hb b' hb' => ?_) ?_
  · split at hb
    · cases hb
    · cases hb
      split at hb'
      · cases hb'
      · rename_i hn
        cases hb'
        exact key i j h.1 h.2 hn
  · have h1 : List.Pairwise (· < ·) (List.range l.length) := List.pairwise_lt_range
    refine List.Pairwise.imp_of_mem (fun {a b} ha hb h => ?_) h1
    exact ⟨h, List.mem_range.mp hb⟩
theorem comp_dd {ρ : En} {i j k : Nat} {l : List Str} (hij : i ≠ j) (hki : k ≠ i) (hkj : k ≠ j) (hi : i < ρ.length) (hj : j < ρ.length) (hk : getV ρ k = some (.nd (.lst .own) (l.map .str)) ) (hlen : l.length ≤ 1000) (hw1 : i ≠ j) :
    compL (tgTup [tgName i, tgName j]) (eT (ePr pNotIn [eVar j, eSl pSl (eVar k) oNone (oSome (eVar i))])) (eVar j) (wipeE ρ [i, j]) (enumD (l.map .str)) = some ((dd l).map .str) := by
  have := compL_filter (tg := tgTup [tgName i, tgName j]) (c := eT (ePr pNotIn [eVar j, eSl pSl (eVar k) oNone (oSome (eVar i))])) (f := eVar j) (ρ := wipeE ρ [i, j])
    (fun d => match d with | .nd .tup [.int m, .str s] => !decide (s ∈ l.take m.toNat) | _ => false) (fun d => match d with | .nd .tup [_, e] => e | _ => .non) (enumD (l.map .str)) fun d hd => by
    rw [enumD_eq] at hd
    obtain ⟨m, hm, rfl⟩ := List.mem_map.mp hd
    have hm := List.mem_range.mp hm
    have e0 : wipeE ρ [i, j] = (ρ.set j none).set i none := rfl
    have gk : getV ((((ρ.set j none).set i none).set i (some (.int m))).set j (some (.str (l.getD m ⟨#[]⟩)))) k = some (.nd (.lst .own) (l.map .str)) := by
      unfold getV at hk ⊢
      rw [List.getElem?_set_ne (by omega), List.getElem?_set_ne (by omega), List.getElem?_set_ne (by omega), List.getElem?_set_ne (by omega)]
      exact hk
    have gi : getV ((((ρ.set j none).set i none).set i (some (.int m))).set j (some (.str (l.getD m ⟨#[]⟩)))) i = some (.int m) := by
      unfold getV
      rw [List.getElem?_set_ne (by omega), List.getElem?_set_self (by simpa using hi)]
      rfl
    have gj : getV ((((ρ.set j none).set i none).set i (some (.int m))).set j (some (.str (l.getD m ⟨#[]⟩)))) j = some (.str (l.getD m ⟨#[]⟩)) := by
      unfold getV
      rw [List.getElem?_set_self (by simpa using hj)]
      rfl
    refine ⟨(((ρ.set j none).set i none).set i (some (.int m))).set j (some (.str (l.getD m ⟨#[]⟩))), by rw [e0]; rfl, ?_, fun _ => ?_⟩
    · have ej : eVar j ((((ρ.set j none).set i none).set i (some (.int m))).set j (some (.str (l.getD m ⟨#[]⟩)))) = .ok (.str (l.getD m ⟨#[]⟩)) := by unfold eVar; rw [gj]; rfl
      have ei : eVar i ((((ρ.set j none).set i none).set i (some (.int m))).set j (some (.str (l.getD m ⟨#[]⟩)))) = .ok (.int m) := by unfold eVar; rw [gi]; rfl
      have ek : eVar k ((((ρ.set j none).set i none).set i (some (.int m))).set j (some (.str (l.getD m ⟨#[]⟩)))) = .ok (.nd (.lst .tmp) (l.map .str)) := by
        unfold eVar; rw [gk]
        show Ot.of (some (mapF Fl.toTmp (.nd (.lst .own) (l.map .str)))) = _
        simp [mapF, mapFL_eq, Kd.mapF, Fl.toTmp]
      have es : pSl (.nd (.lst .tmp) (l.map .str)) none (some (m : Int)) = some (.nd (.lst .own) ((l.take m).map .str)) := by
        rw [sl_lst, cut_nat, List.map_take]
      have ec : eSl pSl (eVar k) oNone (oSome (eVar i)) ((((ρ.set j none).set i none).set i (some (.int m))).set j (some (.str (l.getD m ⟨#[]⟩)))) = .ok (.nd (.lst .own) ((l.take m).map .str)) := by
        simp only [eSl, oNone, oSome, ek, ei, Ot.bind_ok, asI, es, Ot.of_some]
      simp only [eT, ePr, eL, ej, ec, Ot.bind_ok, notIn_lstS, Ot.of_some, asB]
      rfl
    · unfold eVar; rw [gj]; rfl
  rw [this, enumD_eq]
  congr 1
  unfold dd
  rw [List.filter_map, List.map_map, List.map_filterMap]
  have : ∀ L : List Nat, List.map ((fun d => match d with | D.nd Kd.tup [_, e] => e | _ => D.non) ∘ fun (j : Nat) => D.nd Kd.tup [D.int (j : Int), D.str (l.getD j ⟨#[]⟩)]) (List.filter ((fun d => match d with | D.nd Kd.tup [D.int m, D.str s] => !decide (s ∈ List.take m.toNat l) | _ => false) ∘ fun (j : Nat) => D.nd Kd.tup [D.int (j : Int), D.str (l.getD j ⟨#[]⟩)]) L) = List.filterMap (fun x => Option.map D.str (if l.getD x ⟨#[]⟩ ∈ List.take x l then none else some (l.getD x ⟨#[]⟩))) L := by
    intro L
    induction L with
    | nil => rfl
    | cons a L ih =>
      by_cases h : l.getD a ⟨#[]⟩ ∈ List.take a l
      · rw [List.filter_cons_of_neg (by simpa using h), List.filterMap_cons_none (by rw [if_pos h]; rfl)]
        exact ih
      · rw [List.filter_cons_of_pos (by simpa using h), List.filterMap_cons_some (by rw [if_neg h]; rfl), List.map_cons, ih]
        rfl
  exact this _
end OB

namespace OB
open PySem PySem.Spec PyProof.Rows L2 PySem.NumText PySem.StrLaws Builtin.Str
def tx (l : List Nat) : Str := ⟨l.toArray⟩
theorem sgs_tx (l : List Nat) : sgs (tx l) = l := rfl
theorem tx_len (l : List Nat) : (tx l).length = l.length := by rw [← sgs_len]; rfl
theorem tx_inj {l l' : List Nat} (h : tx l = tx l') : l = l' := by rw [← sgs_tx l, ← sgs_tx l', h]
theorem tx_app (u v : List Nat) : tx u ++ tx v = tx (u ++ v) := by
  show Str.mk (u.toArray ++ v.toArray) = Str.mk (u ++ v).toArray
  rw [List.append_toArray]
theorem sg_tx (c : Nat) : sg c = tx [c] := rfl
theorem add_tx {u v : List Nat} (h : u.length + v.length ≤ 16777216) : pAdd [.str (tx u), .str (tx v)] = some (.str (tx (u ++ v))) := by
  show (if (tx u).length + (tx v).length ≤ sizeLine then some (D.str (tx u ++ tx v)) else none) = _
  rw [tx_len, tx_len, if_pos (show u.length + v.length ≤ sizeLine from h), tx_app]
theorem sl_tx0 {l : List Nat} {k : Nat} (h : l.length ≤ 16777216) : pSl (.str (tx l)) none (some (k : Int)) = some (.str (tx (l.take k))) := by
  show (if (tx l).length ≤ sizeLine then some (D.str (cutS (tx l) none (some (k : Int)))) else none) = _
  rw [tx_len, if_pos (show l.length ≤ sizeLine from h)]
  unfold cutS
  rw [HT.sIx_none, HT.sIx_nat, tx_len]
  congr 2
  simp [tx]
theorem sl_tx1 {l : List Nat} {a b : Nat} (h : l.length ≤ 16777216) (ha : a ≤ l.length) : pSl (.str (tx l)) (some (a : Int)) (some (b : Int)) = some (.str (tx ((l.drop a).take (min b l.length - a)))) := by
  show (if (tx l).length ≤ sizeLine then some (D.str (cutS (tx l) (some (a : Int)) (some (b : Int)))) else none) = _
  rw [tx_len, if_pos (show l.length ≤ sizeLine from h)]
  unfold cutS
  rw [HT.sIx_nat, HT.sIx_nat, tx_len, Nat.min_eq_left ha]
  congr 2
def Lt (l : List Nat) : Prop := ∀ c ∈ l, 97 ≤ c ∧ c ≤ 122
theorem az_sgs : sgs az = (List.range 26).map (97 + ·) := by decide +kernel
theorem nm_tx {l : List Nat} (h1 : 1 ≤ l.length) (h2 : l.length ≤ 12) (h : Lt l) : Nm (tx l) := by
  refine ⟨by rw [tx_len]; exact h1, by rw [tx_len]; exact h2, List.all_eq_true.mpr fun c hc => decide_eq_true ?_⟩
  rw [az_sgs]
  obtain ⟨a, b⟩ := h c hc
  exact List.mem_map.mpr ⟨c - 97, List.mem_range.mpr (by omega), by omega⟩
theorem az_at {k : Int} (h0 : 0 ≤ k) (h1 : k < 26) : pIx [.str az, .int k] = some (.str (tx [97 + k.toNat])) := by
  have e : atI az.cps.toList k = some (97 + k.toNat) := by
    unfold atI ixN
    have hl : az.cps.toList.length = 26 := by decide +kernel
    rw [if_pos h0, if_pos (by rw [hl]; exact h1)]
    show (sgs az)[k.toNat]? = _
    rw [az_sgs, List.getElem?_map, List.getElem?_range (by omega)]
    rfl
  show (if az.length ≤ sizeLine then (atI az.cps.toList k).map (fun c => D.str ⟨#[c]⟩) else none) = _
  rw [if_pos (by decide +kernel), e]
  rfl
theorem join_tx {f : Fl} (cs : List Nat) (h : cs.length ≤ 1000) : pJoin [.str "", .nd (.lst f) (cs.map fun c => D.str (tx [c]))] = some (.str (tx cs)) := by
  have hs : strsD (cs.map fun c => D.str (tx [c])) = some (cs.map sg) := by
    clear h
    induction cs with
    | nil => rfl
    | cons y ys ih => rw [List.map_cons, strsD, ih]; rfl
  have e0 : (Str.ofString "").length = 0 := by decide +kernel
  have e1 : ((cs.map sg).map Str.length).sum = cs.length := by
    clear h hs
    induction cs with
    | nil => rfl
    | cons y ys ih => rw [List.map_cons, List.map_cons, List.sum_cons, ih, List.length_cons]; show 1 + _ = _; omega
  show (strsD (cs.map fun c => D.str (tx [c]))).bind (fun ys => if (ys.map Str.length).sum + ys.length * (Str.ofString "").length ≤ 16777216 then some (D.str (Txt.join "" ys)) else none) = _
  rw [hs, Option.bind_some, e0, e1, if_pos (by omega), join_sg]
  rfl
/-- the letters that the pool is made of -/
def bs (n : Int) : List Nat := (List.range 11).map fun (j : Nat) => 97 + ((n / 7 + (3 + n % 5) * j) % 26).toNat
def sn (n : Int) (j : Nat) : Nat := 97 + ((n / 2000 + 5 * j) % 26).toNat
theorem bs_len (n : Int) : (bs n).length = 11 := by unfold bs; simp
theorem bs_lt (n : Int) : Lt (bs n) := fun c hc => by
  obtain ⟨j, _, rfl⟩ := List.mem_map.mp hc
  have := Int.emod_lt_of_pos (n / 7 + (3 + n % 5) * j) (show (0 : Int) < 26 by decide)
  have := Int.emod_nonneg (n / 7 + (3 + n % 5) * j) (show (26 : Int) ≠ 0 by decide)
  omega
theorem sn_lt (n : Int) (j : Nat) : 97 ≤ sn n j ∧ sn n j ≤ 122 := by
  have := Int.emod_lt_of_pos (n / 2000 + 5 * j) (show (0 : Int) < 26 by decide)
  have := Int.emod_nonneg (n / 2000 + 5 * j) (show (26 : Int) ≠ 0 by decide)
  unfold sn
  omega
theorem sn_inj {n : Int} {i j : Nat} (hi : i < 16) (hj : j < 16) (h : sn n i = sn n j) : i = j := by
  have := Int.emod_lt_of_pos (n / 2000 + 5 * i) (show (0 : Int) < 26 by decide)
  have := Int.emod_nonneg (n / 2000 + 5 * i) (show (26 : Int) ≠ 0 by decide)
  have := Int.emod_lt_of_pos (n / 2000 + 5 * j) (show (0 : Int) < 26 by decide)
  have := Int.emod_nonneg (n / 2000 + 5 * j) (show (26 : Int) ≠ 0 by decide)
  unfold sn at h
  omega
theorem Lt.app {u v : List Nat} (h : Lt u) (g : Lt v) : Lt (u ++ v) := fun c hc => (List.mem_append.mp hc).elim (h c) (g c)
theorem Lt.sub {u v : List Nat} (h : Lt u) (s : v.Sublist u) : Lt v := fun c hc => h c (s.subset hc)
end OB

namespace OB
open PySem PySem.Spec PyProof.Rows L2 PySem.NumText PySem.StrLaws Builtin.Str
structure Pool (l : List Str) : Prop where
  len : l.length = 16
  nd : l.Nodup
  nm : ∀ x ∈ l, Nm x
theorem mod26 (x : Int) : 0 ≤ x % 26 ∧ x % 26 < 26 := ⟨Int.emod_nonneg _ (by decide), Int.emod_lt_of_pos _ (by decide)⟩
theorem map_range_nodup {α : Type} {f : Nat → α} {k : Nat} (h : ∀ i j, i < k → j < k → f i = f j → i = j) : ((List.range k).map f).Nodup := by
  rw [List.nodup_iff_pairwise_ne]
  rw [List.pairwise_map]
  exact List.Pairwise.imp_of_mem (fun {a b} ha hb hab e => absurd (h a b (List.mem_range.mp ha) (List.mem_range.mp hb) e) (Nat.ne_of_lt hab)) List.pairwise_lt_range
def sgL (n : Int) : List Str := (List.range 16).map fun j => tx [sn n j]
def nmA (n : Int) (j : Nat) : List Nat := sn n j :: (bs n).take ((3 * (j : Int) + n / 200) % 9).toNat
def nmB (n : Int) (j : Nat) : List Nat := (bs n).take (n / 200 % (n % 8 + 1)).toNat ++ [sn n j] ++ ((bs n).drop (n / 200 % (n % 8 + 1)).toNat).take ((n % 8).toNat - (n / 200 % (n % 8 + 1)).toNat)
section
variable {c n : Int} (h0 : 0 ≤ n) (h1 : n < 1073741824)
include h0 h1
theorem cp1_eq {x4 x5 x6 x7 x8 x9 x10 : Option D} : cp__law_pool_1 [some (.int c), some (.int 16), some (.str az), some (.int n), x4, x5, x6, x7, x8, x9, x10] = .ok (.nd (.lst .own) ((bs n).map fun c => D.str (tx [c]))) := by
  haveI : Bd n 30 := bd_range (c := 1073741823) (by omega) (by decide)
  unfold cp__law_pool_1
  have e := comp_rngD (f := ce__law_pool_1) (ρ := wipeE [some (.int c), some (.int 16), some (.str az), some (.int n), x4, x5, x6, x7, x8, x9, x10] [8]) (i := 8) (n := 11) (fun j => D.str (tx [97 + ((n / 7 + (3 + n % 5) * j) % 26).toNat])) fun j hj => by
    haveI : Bd (j : Int) 20 := bd_range (c := 1000) (by omega) (by decide)
    obtain ⟨a, b⟩ := mod26 (n / 7 + (3 + n % 5) * j)
    have e := az_at a b
    unfold ce__law_pool_1
    simp (decide := true) [e]
  refine eComp_ok (p := (rngD 0 11, true)) rfl (e.trans ?_) (by rw [List.length_map, bs_len]; decide)
  unfold bs
  rw [List.map_map]
  rfl
theorem cp2_eq {x4 x5 x6 x7 x8 x9 x10 : Option D} : cp__law_pool_2 [some (.int c), some (.int 16), some (.str az), some (.int n), x4, x5, x6, x7, x8, x9, x10] = .ok (.nd (.lst .own) ((sgL n).map D.str)) := by
  haveI : Bd n 30 := bd_range (c := 1073741823) (by omega) (by decide)
  unfold cp__law_pool_2
  have e := comp_rngD (f := ce__law_pool_2) (ρ := wipeE [some (.int c), some (.int 16), some (.str az), some (.int n), x4, x5, x6, x7, x8, x9, x10] [8]) (i := 8) (n := 16) (fun j => D.str (tx [sn n j])) fun j hj => by
    haveI : Bd (j : Int) 20 := bd_range (c := 1000) (by omega) (by decide)
    obtain ⟨a, b⟩ := mod26 (n / 2000 + 5 * j)
    have e := az_at a b
    unfold ce__law_pool_2 sn
    simp (decide := true) [e]
  refine eComp_ok (p := (rngD 0 16, true)) rfl (e.trans ?_) (by simp [sgL]; decide)
  unfold sgL
  rw [List.map_map]
  rfl
theorem cp3_eq {x6 x7 x8 x9 x10 : Option D} : cp__law_pool_3 [some (.int c), some (.int 16), some (.str az), some (.int n), some (.str (tx (bs n))), some (.nd (.lst .own) ((sgL n).map D.str)), x6, x7, x8, x9, x10] = .ok (.nd (.lst .own) (((List.range 16).map fun j => tx (nmA n j)).map D.str)) := by
  haveI : Bd n 30 := bd_range (c := 1073741823) (by omega) (by decide)
  unfold cp__law_pool_3
  have ei : itEnum [eVar 5] [some (.int c), some (.int 16), some (.str az), some (.int n), some (.str (tx (bs n))), some (.nd (.lst .own) ((sgL n).map D.str)), x6, x7, x8, x9, x10] = .ok (enumD ((sgL n).map D.str), false) := by
    unfold itEnum
    simp [listOf, mapF, mapFL_eq, Kd.mapF, Fl.toTmp]
    rfl
  have e := compL_map (tg := tgTup [tgName 8, tgName 9]) (f := ce__law_pool_3) (ρ := wipeE [some (.int c), some (.int 16), some (.str az), some (.int n), some (.str (tx (bs n))), some (.nd (.lst .own) ((sgL n).map D.str)), x6, x7, x8, x9, x10] [8, 9]) (fun d => match d with | .nd .tup [.int j, _] => .str (tx (nmA n j.toNat)) | _ => .non) (enumD ((sgL n).map D.str)) fun d hd => by
    rw [enumD_eq] at hd
    obtain ⟨j, hj, rfl⟩ := List.mem_map.mp hd
    have hj : j < 16 := by simpa [sgL] using List.mem_range.mp hj
    refine ⟨_, rfl, ?_⟩
    haveI : Bd (j : Int) 20 := bd_range (c := 1000) (by omega) (by decide)
    have m0 : 0 ≤ (3 * (j : Int) + n / 200) % 9 := Int.emod_nonneg _ (by decide)
    have es : (sgL n)[j]?.getD ⟨#[]⟩ = tx [sn n j] := by
      unfold sgL
      rw [List.getElem?_map, List.getElem?_range hj]
      rfl
    have e1 := sl_tx0 (l := bs n) (k := ((3 * (j : Int) + n / 200) % 9).toNat) (by rw [bs_len]; decide)
    rw [Int.toNat_of_nonneg m0] at e1
    have e2 := add_tx (u := [sn n j]) (v := (bs n).take ((3 * (j : Int) + n / 200) % 9).toNat) (by simp [bs_len]; omega)
    unfold ce__law_pool_3
    simp (decide := true) [es, e1, e2, nmA]
  refine eComp_ok ei (e.trans ?_) (by simp; decide)
  rw [enumD_eq, List.map_map, List.map_map]
  have : (sgL n).length = 16 := by simp [sgL]
  rw [this]
  congr 1
theorem cp4_eq {x7 x8 x9 x10 : Option D} : cp__law_pool_4 [some (.int c), some (.int 16), some (.str az), some (.int n), some (.str (tx (bs n))), some (.nd (.lst .own) ((sgL n).map D.str)), some (.int (n / 200 % (n % 8 + 1))), x7, x8, x9, x10] = .ok (.nd (.lst .own) (((List.range 16).map fun j => tx (nmB n j)).map D.str)) := by
  haveI : Bd n 30 := bd_range (c := 1073741823) (by omega) (by decide)
  unfold cp__law_pool_4
  have ei : itV (eVar 5) [some (.int c), some (.int 16), some (.str az), some (.int n), some (.str (tx (bs n))), some (.nd (.lst .own) ((sgL n).map D.str)), some (.int (n / 200 % (n % 8 + 1))), x7, x8, x9, x10] = .ok ((sgL n).map D.str, false) := by
    unfold itV
    simp [itemsD, mapF, mapFL_eq, Kd.mapF, Fl.toTmp]
  have a0 : 0 ≤ n / 200 % (n % 8 + 1) := Int.emod_nonneg _ (by omega)
  have a1 : n / 200 % (n % 8 + 1) < n % 8 + 1 := Int.emod_lt_of_pos _ (by omega)
  have b0 : 0 ≤ n % 8 := Int.emod_nonneg _ (by decide)
  have b1 : n % 8 < 8 := Int.emod_lt_of_pos _ (by decide)
  have e1 := sl_tx0 (l := bs n) (k := (n / 200 % (n % 8 + 1)).toNat) (by rw [bs_len]; decide)
  have e2 := sl_tx1 (l := bs n) (a := (n / 200 % (n % 8 + 1)).toNat) (b := (n % 8).toNat) (by rw [bs_len]; decide) (by rw [bs_len]; omega)
  rw [Int.toNat_of_nonneg a0] at e1
  rw [Int.toNat_of_nonneg a0, Int.toNat_of_nonneg b0, bs_len, Nat.min_eq_left (by omega)] at e2
  have e := compL_map (tg := tgName 9) (f := ce__law_pool_4) (ρ := wipeE [some (.int c), some (.int 16), some (.str az), some (.int n), some (.str (tx (bs n))), some (.nd (.lst .own) ((sgL n).map D.str)), some (.int (n / 200 % (n % 8 + 1))), x7, x8, x9, x10] [9])
    (fun d => match d with | .str s => .str (tx ((bs n).take (n / 200 % (n % 8 + 1)).toNat ++ sgs s ++ ((bs n).drop (n / 200 % (n % 8 + 1)).toNat).take ((n % 8).toNat - (n / 200 % (n % 8 + 1)).toNat))) | _ => .non) ((sgL n).map D.str) fun d hd => by
    obtain ⟨s, hs, rfl⟩ := List.mem_map.mp hd
    obtain ⟨j, hj, rfl⟩ := List.mem_map.mp hs
    refine ⟨_, rfl, ?_⟩
    have l1 : ((bs n).take (n / 200 % (n % 8 + 1)).toNat).length ≤ 11 := by rw [List.length_take, bs_len]; omega
    have l2 : (((bs n).drop (n / 200 % (n % 8 + 1)).toNat).take ((n % 8).toNat - (n / 200 % (n % 8 + 1)).toNat)).length ≤ 11 := by rw [List.length_take]; omega
    have e3 := add_tx (u := (bs n).take (n / 200 % (n % 8 + 1)).toNat) (v := [sn n j]) (by simp; omega)
    have e4 := add_tx (u := (bs n).take (n / 200 % (n % 8 + 1)).toNat ++ [sn n j]) (v := ((bs n).drop (n / 200 % (n % 8 + 1)).toNat).take ((n % 8).toNat - (n / 200 % (n % 8 + 1)).toNat)) (by rw [List.length_append]; simp only [List.length_singleton]; omega)
    unfold ce__law_pool_4
    generalize (bs n).take (n / 200 % (n % 8 + 1)).toNat = u at e1 e3 e4 ⊢
    generalize ((bs n).drop (n / 200 % (n % 8 + 1)).toNat).take ((n % 8).toNat - (n / 200 % (n % 8 + 1)).toNat) = v at e2 e4 ⊢
    have e5 : pAdd [.str (tx (u ++ [sn n j])), .str (tx v)] = some (.str (tx (u ++ sn n j :: v))) := by simpa using e4
    simp (decide := true) [e1, e2, e3, e5, sgs_tx]
  refine eComp_ok ei (e.trans ?_) (by simp; decide)
  unfold sgL
  rw [List.map_map, List.map_map, List.map_map]
  congr 1
end
end OB

namespace OB
open PySem PySem.Spec PyProof.Rows L2 PySem.NumText PySem.StrLaws Builtin.Str
theorem poolA (n : Int) : Pool ((List.range 16).map fun j => tx (nmA n j)) := by
  refine ⟨by simp, map_range_nodup fun i j hi hj e => ?_, fun x hx => ?_⟩
  · have := tx_inj e
    unfold nmA at this
    exact sn_inj hi hj (List.cons.inj this).1
  · obtain ⟨j, hj, rfl⟩ := List.mem_map.mp hx
    have m1 : ((3 * (j : Int) + n / 200) % 9).toNat < 9 := by
      have := Int.emod_lt_of_pos (3 * (j : Int) + n / 200) (show (0 : Int) < 9 by decide)
      have := Int.emod_nonneg (3 * (j : Int) + n / 200) (show (9 : Int) ≠ 0 by decide)
      omega
    refine nm_tx (by simp [nmA]) ?_ ?_
    · unfold nmA
      rw [List.length_cons, List.length_take]
      omega
    · intro c hc
      rcases List.mem_cons.mp hc with h | h
      · rw [h]; exact sn_lt n j
      · exact bs_lt n c (List.mem_of_mem_take h)
theorem nmB_ok {n : Int} (b0 : 0 ≤ n) (j : Nat) : Nm (tx (nmB n j)) := by
  have c0 : 0 ≤ n % 8 := Int.emod_nonneg _ (by decide)
  have c1 : n % 8 < 8 := Int.emod_lt_of_pos _ (by decide)
  have a0 : 0 ≤ n / 200 % (n % 8 + 1) := Int.emod_nonneg _ (by omega)
  have a1 : n / 200 % (n % 8 + 1) < n % 8 + 1 := Int.emod_lt_of_pos _ (by omega)
  unfold nmB
  generalize n / 200 % (n % 8 + 1) = a at a0 a1 ⊢
  generalize n % 8 = b at c0 c1 a1 ⊢
  refine nm_tx (by simp; omega) ?_ ?_
  · rw [List.length_append, List.length_append, List.length_take, List.length_take, List.length_drop, bs_len, List.length_singleton]
    omega
  · refine Lt.app (Lt.app ((bs_lt n).sub (List.take_sublist _ _)) fun c hc => ?_) ((bs_lt n).sub ((List.take_sublist _ _).trans (List.drop_sublist _ _)))
    have : c = sn n j := by simpa using hc
    rw [this]; exact sn_lt n j
theorem nmB_nd (n : Int) : ((List.range 16).map fun j => tx (nmB n j)).Nodup := map_range_nodup fun i j hi hj e => by
  have e := tx_inj e
  unfold nmB at e
  rw [List.append_assoc, List.append_assoc] at e
  have e2 := List.append_cancel_left e
  exact sn_inj hi hj (List.cons.inj e2).1
theorem sub_len {l m : List Str} (nd : l.Nodup) (sub : ∀ x ∈ l, x ∈ m) : l.length ≤ m.length := by
  induction l generalizing m with
  | nil => simp
  | cons a l ih =>
    obtain ⟨n1, n2⟩ := List.nodup_cons.mp nd
    have ha := sub a List.mem_cons_self
    have h1 := ih (m := m.erase a) n2 fun x hx => (List.mem_erase_of_ne (fun q => n1 (by rw [← q]; exact hx))).mpr (sub x (List.mem_cons_of_mem _ hx))
    have h2 := List.length_erase_of_mem ha
    have h3 := List.length_pos_of_mem ha
    rw [List.length_cons]
    omega
theorem pool_dd {l : List Str} (h : ∀ x ∈ l, Nm x) {m : List Str} (nd : m.Nodup) (hm : m.length = 16) (sub : ∀ x ∈ m, x ∈ l) : Pool ((dd l).take 16) := by
  have h16 : 16 ≤ (dd l).length := by
    rw [← hm]
    exact sub_len nd fun x hx => dd_mem.mpr (sub x hx)
  exact ⟨by rw [List.length_take]; omega, (dd_nodup l).sublist (List.take_sublist _ _), fun x hx => h x (dd_mem.mp (List.mem_of_mem_take hx))⟩
section
variable {c n : Int} (h0 : 0 ≤ n) (h1 : n < 1073741824)
include h0 h1
theorem cp5_eq {x2 x5 x6 x7 x8 x9 x10 : Option D} : cp__law_pool_5 [some (.int c), some (.int 16), x2, some (.int n), some (.str (tx (bs n))), x5, x6, x7, x8, x9, x10] = .ok (.nd (.lst .own) (((List.range 11).map fun j => tx ((bs n).take (j + 1))).map D.str)) := by
  unfold cp__law_pool_5
  have e := comp_rngD (f := ce__law_pool_5) (ρ := wipeE [some (.int c), some (.int 16), x2, some (.int n), some (.str (tx (bs n))), x5, x6, x7, x8, x9, x10] [8]) (i := 8) (n := 11) (fun j => D.str (tx ((bs n).take (j + 1)))) fun j hj => by
    have e1 := sl_tx0 (l := bs n) (k := j + 1) (by rw [bs_len]; decide)
    rw [show (((j + 1 : Nat) : Int)) = (j : Int) + 1 by omega] at e1
    unfold ce__law_pool_5
    simp (decide := true) [e1]
  refine eComp_ok (p := (rngD 0 11, true)) rfl (e.trans ?_) (by simp; decide)
  rw [List.map_map]
  rfl
end
theorem cp6_eq {x0 x1 x2 x3 x4 x5 x6 x8 x9 x10 : Option D} {l : List Str} (hl : l.length ≤ 1000) : cp__law_pool_6 [x0, x1, x2, x3, x4, x5, x6, some (.nd (.lst .own) (l.map D.str)), x8, x9, x10] = .ok (.nd (.lst .own) ((dd l).map D.str)) := by
  unfold cp__law_pool_6 cc__law_pool_1
  have ei : itEnum [eVar 7] [x0, x1, x2, x3, x4, x5, x6, some (.nd (.lst .own) (l.map D.str)), x8, x9, x10] = .ok (enumD (l.map D.str), false) := by
    unfold itEnum
    simp [listOf, mapF, mapFL_eq, Kd.mapF, Fl.toTmp]
    rfl
  have hlen : (dd l).length ≤ l.length := by
    have := List.length_filterMap_le (fun j => if l.getD j ⟨#[]⟩ ∈ l.take j then none else some (l.getD j ⟨#[]⟩)) (List.range l.length)
    rw [List.length_range] at this
    exact this
  exact eComp_ok ei (comp_dd (ρ := [x0, x1, x2, x3, x4, x5, x6, some (.nd (.lst .own) (l.map D.str)), x8, x9, x10]) (i := 8) (j := 10) (k := 7) (by decide) (by decide) (by decide) (by simp) (by simp) rfl hl (by decide)) (by rw [List.length_map]; exact Nat.le_trans hlen (Nat.le_trans hl (by decide)))
theorem pool_eq (c : Int) : ∃ f names, m__law_pool [.int c, .int 16] = .ok (.nd (.lst f) (names.map D.str)) ∧ (f = .own ∨ f = .frz) ∧ Pool names := by
  haveI : Bd (70 : Int) 20 := ⟨by decide⟩
  haveI : Bd (1 : Int) 20 := ⟨by decide⟩
  have e := draw_eq (c := c) (k := 70) (j := 1)
  obtain ⟨h0, h1⟩ := dr_range c 70 1
  generalize dr c 70 1 = n at e h0 h1
  haveI : Bd n 30 := bd_range (c := 1073741823) (by omega) (by decide)
  have ej := join_tx (f := .own) (bs n) (by rw [bs_len]; decide)
  have c1 : 0 ≤ n % 8 := Int.emod_nonneg _ (by decide)
  have c2 : n % 8 < 8 := Int.emod_lt_of_pos _ (by decide)
  have c3 : 0 < n % 8 + 1 := by omega
  by_cases k1 : n / 9 % 3 = 1
  · refine ⟨.own, _, ?_, .inl rfl, poolA n⟩
    unfold m__law_pool g__law_pool st__law_pool_1 st__law_pool_2
    simp (decide := true) [e, cp1_eq h0 h1, cp2_eq h0 h1, cp3_eq h0 h1, ej, k1]
  · have es : ∀ l : List Str, pSl (.nd (.lst .own) (l.map D.str)) none (some 16) = some (.nd (.lst .own) ((l.take 16).map D.str)) := fun l => by
      rw [sl_lst]
      have := cut_nat (xs := l.map D.str) (k := 16)
      rw [show ((16 : Nat) : Int) = 16 from rfl] at this
      rw [this, List.map_take]
    by_cases k2 : n / 9 % 3 = 2
    · refine ⟨.frz, (dd (((List.range 11).map fun j => tx ((bs n).take (j + 1))) ++ ((List.range 16).map fun j => tx (nmB n j)))).take 16, ?_, .inr rfl, pool_dd (m := (List.range 16).map fun j => tx (nmB n j)) (fun x hx => ?_) (nmB_nd n) (by simp) fun x hx => List.mem_append_right _ hx⟩
      · have ec := cat_lst (f := .own) (g := .tmp) (xs := (((List.range 11).map fun j => tx ((bs n).take (j + 1))).map D.str)) (ys := (((List.range 16).map fun j => tx (nmB n j)).map D.str)) (by simp)
        rw [← List.map_append] at ec
        unfold m__law_pool g__law_pool st__law_pool_1 st__law_pool_2 st__law_pool_3 st__law_pool_4 st__law_pool_5
        generalize hA : ((List.range 11).map fun j => tx ((bs n).take (j + 1))) = LA at ec ⊢
        generalize hB : ((List.range 16).map fun j => tx (nmB n j)) = LB at ec ⊢
        have e5 := @cp5_eq c n h0 h1
        rw [hA] at e5
        have e4 := @cp4_eq c n h0 h1
        rw [hB] at e4
        have hl : (LA ++ LB).length ≤ 1000 := by rw [← hA, ← hB]; simp
        generalize LA ++ LB = LC at ec hl ⊢
        simp (decide := true) [e, cp1_eq h0 h1, cp2_eq h0 h1, e4, e5, ej, k1, k2, c3, mapFL_eq]
        simp (decide := true) [ec, cp6_eq hl, es]
      · rcases List.mem_append.mp hx with h | h
        · obtain ⟨j, hj, rfl⟩ := List.mem_map.mp h
          have hj := List.mem_range.mp hj
          exact nm_tx (by rw [List.length_take, bs_len]; omega) (by rw [List.length_take, bs_len]; omega) ((bs_lt n).sub (List.take_sublist _ _))
        · obtain ⟨j, hj, rfl⟩ := List.mem_map.mp h
          exact nmB_ok h0 j
    · refine ⟨.frz, (dd ((List.range 16).map fun j => tx (nmB n j))).take 16, ?_, .inr rfl, pool_dd (m := (List.range 16).map fun j => tx (nmB n j)) (fun x hx => ?_) (nmB_nd n) (by simp) fun x hx => hx⟩
      · unfold m__law_pool g__law_pool st__law_pool_1 st__law_pool_2 st__law_pool_3 st__law_pool_4 st__law_pool_5
        have e4 := @cp4_eq c n h0 h1
        generalize hB : ((List.range 16).map fun j => tx (nmB n j)) = LB at e4 ⊢
        have hl : LB.length ≤ 1000 := by rw [← hB]; simp
        simp (decide := true) [e, cp1_eq h0 h1, cp2_eq h0 h1, e4, ej, k1, k2, c3, cp6_eq hl, es]
      · obtain ⟨j, hj, rfl⟩ := List.mem_map.mp hx
        exact nmB_ok h0 j
end OB

namespace OB
open PySem PySem.Spec PyProof.Rows L2 PySem.NumText PySem.StrLaws Builtin.Str
/-- what is known of a good -/
structure Gd where
  nm : Str
  marks : List Str
  sizes : List (Str × Int × Int)
abbrev G3 (f : Fl) (c s z : D) : D := .nd (.obj f "Goods" ["crowd", "signs", "sizes"]) [c, s, z]
abbrev O3 (f : Fl) (o m z : D) : D := .nd (.dct f [.inr "order", .inr "marks", .inr "sizes"]) [o, m, z]
def crD (f : Fl) (st : List Gd) : D := .nd (.lst f) ((st.map Gd.nm).map D.str)
def keysG (st : List Gd) : List Key := st.map fun g => .inr g.nm
def maE (f : Fl) (g : Gd) : D := .nd (.lst f) (g.marks.map D.str)
def szE (f : Fl) (g : Gd) : D := .nd (.dct f (g.sizes.map fun p => .inr p.1)) (g.sizes.map fun p => ratD p.2.1 p.2.2)
def shE (f : Fl) (g : Gd) : D := .nd (.lst f) (g.sizes.map fun p => D.nd .tup [.str p.1, ratD p.2.1 p.2.2])
def tabD (f : Fl) (v : Gd → D) (st : List Gd) : D := .nd (.dct f (keysG st)) (st.map v)
def gD (f : Fl) (st : List Gd) : D := G3 f (crD f st) (tabD f (maE f) st) (tabD f (szE f) st)
def oD (f : Fl) (st : List Gd) : D := O3 f (crD f st) (tabD f (maE f) st) (tabD f (shE f) st)
@[simp] theorem fld_cr {f : Fl} {c s z : D} : pFld ["Goods"] "crowd" [G3 f c s z] = some c := rfl
@[simp] theorem fld_si {f : Fl} {c s z : D} : pFld ["Goods"] "signs" [G3 f c s z] = some s := rfl
@[simp] theorem fld_sz {f : Fl} {c s z : D} : pFld ["Goods"] "sizes" [G3 f c s z] = some z := rfl
@[simp] theorem ix_or {f : Fl} {c s z : D} : pIx [O3 f c s z, .str "order"] = some c := rfl
@[simp] theorem ix_ma {f : Fl} {c s z : D} : pIx [O3 f c s z, .str "marks"] = some s := rfl
@[simp] theorem ix_sz {f : Fl} {c s z : D} : pIx [O3 f c s z, .str "sizes"] = some z := rfl
section
variable {g : Fl → Fl} {f : Fl} {st : List Gd}
@[simp] theorem mapF_cr : mapF g (crD f st) = crD (g f) st := by simp [crD, mapF, mapFL_eq, Kd.mapF]
@[simp] theorem mapF_ma {x : Gd} : mapF g (maE f x) = maE (g f) x := by simp [maE, mapF, mapFL_eq, Kd.mapF]
@[simp] theorem mapF_sz {x : Gd} : mapF g (szE f x) = szE (g f) x := by
  simp only [szE, mapF, mapFL_eq, Kd.mapF, List.map_map]
  congr 1
@[simp] theorem mapF_sh {x : Gd} : mapF g (shE f x) = shE (g f) x := by
  simp only [shE, mapF, mapFL_eq, Kd.mapF, List.map_map]
  congr 1
theorem mapF_tab {v : Fl → Gd → D} (h : ∀ x, mapF g (v f x) = v (g f) x) : mapF g (tabD f (v f) st) = tabD (g f) (v (g f)) st := by
  simp only [tabD, mapF, mapFL_eq, Kd.mapF, List.map_map]
  congr 1
  apply List.map_congr_left
  intro x _
  exact h x
@[simp] theorem mapF_gD : mapF g (gD f st) = gD (g f) st := by
  have h1 := mapF_tab (g := g) (f := f) (st := st) (v := maE) fun x => mapF_ma
  have h2 := mapF_tab (g := g) (f := f) (st := st) (v := szE) fun x => mapF_sz
  simp only [gD, G3, mapF, mapFL, Kd.mapF, mapF_cr, h1, h2]
@[simp] theorem mapF_oD : mapF g (oD f st) = oD (g f) st := by
  have h1 := mapF_tab (g := g) (f := f) (st := st) (v := maE) fun x => mapF_ma
  have h2 := mapF_tab (g := g) (f := f) (st := st) (v := shE) fun x => mapF_sh
  simp only [oD, O3, mapF, mapFL, Kd.mapF, mapF_cr, h1, h2]
@[simp] theorem toArg_gD : toArg (gD f st) = gD f.toArg st := mapF_gD
@[simp] theorem toArg_oD : toArg (oD f st) = oD f.toArg st := mapF_oD
/-- all flags are f -/
theorem allF_strs {p : Fl → Bool} (l : List Str) : (l.map D.str).all (allF p) = true := by
  rw [List.all_eq_true]
  intro d hd
  obtain ⟨s, _, rfl⟩ := List.mem_map.mp hd
  rfl
theorem allF_tab {p : Fl → Bool} {v : Gd → D} (hp : p f = true) (h : ∀ x, allF p (v x) = true) : allF p (tabD f v st) = true := by
  simp only [tabD, allF, allFL_eq, Kd.fl, hp, Bool.true_and, List.all_map]
  rw [List.all_eq_true]
  intro x _
  exact h x
theorem allF_cr {p : Fl → Bool} (hp : p f = true) : allF p (crD f st) = true := by
  simp only [crD, allF, allFL_eq, Kd.fl, hp, Bool.true_and]
  exact allF_strs _
theorem allF_ma {p : Fl → Bool} {x : Gd} (hp : p f = true) : allF p (maE f x) = true := by
  simp only [maE, allF, allFL_eq, Kd.fl, hp, Bool.true_and]
  exact allF_strs _
theorem allF_sz {p : Fl → Bool} {x : Gd} (hp : p f = true) : allF p (szE f x) = true := by
  simp only [szE, allF, allFL_eq, Kd.fl, hp, Bool.true_and]
  rw [List.all_eq_true]
  intro d hd
  obtain ⟨s, _, rfl⟩ := List.mem_map.mp hd
  rfl
theorem allF_sh {p : Fl → Bool} {x : Gd} (hp : p f = true) : allF p (shE f x) = true := by
  simp only [shE, allF, allFL_eq, Kd.fl, hp, Bool.true_and]
  rw [List.all_eq_true]
  intro d hd
  obtain ⟨s, _, rfl⟩ := List.mem_map.mp hd
  rfl
theorem allF_gD {p : Fl → Bool} (hp : p f = true) : allF p (gD f st) = true := by
  simp only [gD, G3, allF, allFL, Kd.fl, hp, allF_cr hp, allF_tab hp fun x => allF_ma (x := x) hp, allF_tab hp fun x => allF_sz (x := x) hp, Bool.and_self]
theorem allF_oD {p : Fl → Bool} (hp : p f = true) : allF p (oD f st) = true := by
  simp only [oD, O3, allF, allFL, Kd.fl, hp, allF_cr hp, allF_tab hp fun x => allF_ma (x := x) hp, allF_tab hp fun x => allF_sh (x := x) hp, Bool.and_self]
end
@[simp] theorem noB_gD {st : List Gd} : noB (gD .own st) = true := allF_gD rfl
@[simp] theorem noB_oD {st : List Gd} : noB (oD .own st) = true := allF_oD rfl
@[simp] theorem noT_gDo {st : List Gd} : noT (gD .own st) = true := allF_gD rfl
@[simp] theorem noT_oDo {st : List Gd} : noT (oD .own st) = true := allF_oD rfl
@[simp] theorem noT_gDf {st : List Gd} : noT (gD .frz st) = true := allF_gD rfl
/-! ### looking up -/
theorem look_at {v : Gd → D} {x : Gd} : ∀ {st : List Gd}, (st.map Gd.nm).Nodup → x ∈ st → look (keysG st) (st.map v) (.inr x.nm) = some (v x)
  | [], _, h => nomatch h
  | g :: st, nd, h => by
    rw [List.map_cons] at nd
    obtain ⟨n1, n2⟩ := List.nodup_cons.mp nd
    unfold keysG
    rw [List.map_cons, List.map_cons]
    unfold look
    by_cases e : g.nm = x.nm
    · rw [if_pos (by rw [e])]
      rcases List.mem_cons.mp h with h | h
      · rw [h]
      · exact absurd (List.mem_map.mpr ⟨x, h, e.symm⟩) n1
    · rw [if_neg (fun q => e (by injection q))]
      rcases List.mem_cons.mp h with h | h
      · exact absurd (by rw [h]) e
      · exact look_at n2 h
theorem look_no {v : Gd → D} {n : Str} : ∀ {st : List Gd}, n ∉ st.map Gd.nm → look (keysG st) (st.map v) (.inr n) = none
  | [], _ => rfl
  | g :: st, h => by
    rw [List.map_cons, List.mem_cons, not_or] at h
    unfold keysG
    rw [List.map_cons, List.map_cons]
    unfold look
    rw [if_neg (fun q => h.1 (by injection q with q; exact q.symm))]
    exact look_no h.2
theorem ix_tab {f : Fl} {v : Gd → D} {x : Gd} {st : List Gd} (nd : (st.map Gd.nm).Nodup) (h : x ∈ st) : pIx [tabD f v st, .str x.nm] = some (v x) := look_at nd h
theorem in_tab {f : Fl} {v : Gd → D} {x : Gd} {st : List Gd} (nd : (st.map Gd.nm).Nodup) (h : x ∈ st) : pIn [.str x.nm, tabD f v st] = some (.bl true) := by
  show some (D.bl (look (keysG st) (st.map v) (.inr x.nm)).isSome) = _
  rw [look_at nd h]; rfl
theorem notIn_tab {f : Fl} {v : Gd → D} {x : Gd} {st : List Gd} (nd : (st.map Gd.nm).Nodup) (h : x ∈ st) : pNotIn [.str x.nm, tabD f v st] = some (.bl false) := by
  show some (D.bl (!(look (keysG st) (st.map v) (.inr x.nm)).isSome)) = _
  rw [look_at nd h]; rfl
theorem in_tab0 {f : Fl} {v : Gd → D} {n : Str} {st : List Gd} (h : n ∉ st.map Gd.nm) : pIn [.str n, tabD f v st] = some (.bl false) := by
  show some (D.bl (look (keysG st) (st.map v) (.inr n)).isSome) = _
  rw [look_no h]; rfl
/-- the measures of one good -/
theorem look_s {n : Str} {a b : Int} : ∀ {l : List (Str × Int × Int)}, (l.map (·.1)).Nodup → (n, a, b) ∈ l → look (l.map fun p => (.inr p.1 : Key)) (l.map fun p => ratD p.2.1 p.2.2) (.inr n) = some (ratD a b)
  | [], _, h => nomatch h
  | g :: st, nd, h => by
    rw [List.map_cons] at nd
    obtain ⟨n1, n2⟩ := List.nodup_cons.mp nd
    rw [List.map_cons, List.map_cons]
    unfold look
    by_cases e : g.1 = n
    · rw [if_pos (by rw [e])]
      rcases List.mem_cons.mp h with h | h
      · rw [← h]
      · exact absurd (List.mem_map.mpr ⟨_, h, e.symm⟩) n1
    · rw [if_neg (fun q => e (by injection q))]
      rcases List.mem_cons.mp h with h | h
      · exact absurd (by rw [← h]) e
      · exact look_s n2 h
theorem look_s0 {n : Str} : ∀ {l : List (Str × Int × Int)}, n ∉ l.map (·.1) → look (l.map fun p => (.inr p.1 : Key)) (l.map fun p => ratD p.2.1 p.2.2) (.inr n) = none
  | [], _ => rfl
  | g :: st, h => by
    rw [List.map_cons, List.mem_cons, not_or] at h
    rw [List.map_cons, List.map_cons]
    unfold look
    rw [if_neg (fun q => h.1 (by injection q with q; exact q.symm))]
    exact look_s0 h.2
theorem ix_szE {f : Fl} {g : Gd} {n : Str} {a b : Int} (nd : (g.sizes.map (·.1)).Nodup) (h : (n, a, b) ∈ g.sizes) : pIx [szE f g, .str n] = some (ratD a b) := look_s nd h
theorem notIn_szE {f : Fl} {g : Gd} {n : Str} {a b : Int} (nd : (g.sizes.map (·.1)).Nodup) (h : (n, a, b) ∈ g.sizes) : pNotIn [.str n, szE f g] = some (.bl false) := by
  show some (D.bl (!(look (g.sizes.map fun p => (.inr p.1 : Key)) (g.sizes.map fun p => ratD p.2.1 p.2.2) (.inr n)).isSome)) = _
  rw [look_s nd h]; rfl
theorem in_szE0 {f : Fl} {g : Gd} {n : Str} (h : n ∉ g.sizes.map (·.1)) : pIn [.str n, szE f g] = some (.bl false) := by
  show some (D.bl (look (g.sizes.map fun p => (.inr p.1 : Key)) (g.sizes.map fun p => ratD p.2.1 p.2.2) (.inr n)).isSome) = _
  rw [look_s0 h]; rfl
end OB

namespace OB
open PySem PySem.Spec PyProof.Rows L2 PySem.NumText PySem.StrLaws Builtin.Str
theorem fold_nd : ∀ (ys acc : List Str), (acc ++ ys).Nodup → ys.foldl stepS acc = acc ++ ys
  | [], acc, _ => by simp
  | y :: ys, acc, h => by
    have n : y ∉ acc := fun q => (List.nodup_append.mp h).2.2 y q y List.mem_cons_self rfl
    have e : stepS acc y = acc ++ [y] := by
      unfold stepS
      rw [if_neg]
      intro q
      rw [List.any_eq_true] at q
      obtain ⟨z, hz, e⟩ := q
      have : z = y := by simpa using e
      exact n (this ▸ hz)
    rw [List.foldl_cons, e, fold_nd ys (acc ++ [y]) (by simpa using h)]
    simp
theorem lenSet_nd {f : Fl} {ys : List Str} (nd : ys.Nodup) (h : ys.length ≤ 1000) : pLenSet [.nd (.lst f) (ys.map D.str)] = some (.int ys.length) := by
  have hs : strsD (ys.map D.str) = some ys := by
    clear nd h
    induction ys with
    | nil => rfl
    | cons y ys ih => rw [List.map_cons, strsD, ih]; rfl
  show (strsD (ys.map D.str)).bind (fun ys => if ys.length + 1 < 4096 then some (D.int ((ys.foldl stepS []).length : Nat)) else none) = _
  rw [hs, Option.bind_some, if_pos (by omega), fold_nd ys [] (by simpa using nd)]
  simp
theorem all_bls {α : Type} (l : List α) : pAll [.nd (.lst .own) (l.map fun _ => D.bl true)] = some (.bl true) := by
  have : blsD (l.map fun _ => D.bl true) = some (l.map fun _ => true) := by
    have := blsD_map (l.map fun _ => true)
    rw [List.map_map] at this
    exact this
  show (blsD _).map _ = _
  rw [this]
  simp
theorem need_names_eq {f : Fl} {ms : List Str} (h : ∀ m ∈ ms, Nm m) (nd : ms.Nodup) (hl : ms.length ≤ 6) : m_need_names [.nd (.lst f) (ms.map D.str)] = .ok .non := by
  have e1 : cp_need_names_1 [some (.nd (.lst f) (ms.map D.str)), none] = .ok (.nd (.lst .own) (ms.map fun _ => D.bl true)) := by
    have ei : ∃ p, itV (eVar 0) [some (.nd (.lst f) (ms.map D.str)), none] = .ok (ms.map D.str, p) := by
      refine ⟨(Fl.toTmp f != .tmp) && (ms.map D.str).all noT, ?_⟩
      unfold itV
      simp [itemsD, mapF, mapFL_eq, Kd.mapF]
    obtain ⟨p, ei⟩ := ei
    unfold cp_need_names_1
    have e := compL_map (tg := tgName 1) (f := ce_need_names_1) (ρ := wipeE [some (.nd (.lst f) (ms.map D.str)), none] [1]) (fun _ => D.bl true) (ms.map D.str) fun d hd => by
      obtain ⟨m, hm, rfl⟩ := List.mem_map.mp hd
      refine ⟨_, rfl, ?_⟩
      have en := is_name_eq (h m hm)
      unfold ce_need_names_1
      simp (decide := true) [en]
    refine eComp_ok ei (e.trans ?_) (by rw [List.length_map]; exact Nat.le_trans hl (by decide))
    rw [List.map_map]
    rfl
  have e2 := all_bls ms
  have e3 := lenSet_nd (f := .tmp) nd (by omega)
  have hs := fun g : Fl => lenSet_nd (f := g) nd (by omega)
  have hl2 : (ms.length : Int) ≤ 6 := by omega
  have hl3 : ¬ (6 : Int) < ms.length := by omega
  unfold m_need_names g_need_names
  simp (decide := true) [e1, e2, isiD, tyN, nbTy, mapF, mapFL_eq, Kd.mapF, hs, hl3]
section
variable {f : Fl} {st : List Gd}
@[simp] theorem fld_crG : pFld ["Goods"] "crowd" [gD f st] = some (crD f st) := rfl
@[simp] theorem fld_siG : pFld ["Goods"] "signs" [gD f st] = some (tabD f (maE f) st) := rfl
@[simp] theorem fld_szG : pFld ["Goods"] "sizes" [gD f st] = some (tabD f (szE f) st) := rfl
@[simp] theorem ix_orO : pIx [oD f st, .str "order"] = some (crD f st) := rfl
@[simp] theorem ix_maO : pIx [oD f st, .str "marks"] = some (tabD f (maE f) st) := rfl
@[simp] theorem ix_szO : pIx [oD f st, .str "sizes"] = some (tabD f (shE f) st) := rfl
@[simp] theorem len_cr : pLen [crD f st] = some (.int st.length) := by
  show some (D.int (((st.map Gd.nm).map D.str).length : Nat)) = _
  simp
@[simp] theorem list_cr : pList3 [crD f st] = some (crD .own st) := rfl
@[simp] theorem list_ma {x : Gd} : pList3 [maE f x] = some (maE .own x) := rfl
@[simp] theorem list_sh {x : Gd} : pList3 [shE f x] = some (shE .own x) := rfl
@[simp] theorem list_ls {ss : List D} : pList3 [.nd (.lst f) ss] = some (.nd (.lst .own) ss) := rfl
theorem objHas_gD {n : Str} (h : (["crowd", "signs", "sizes"] : List Str).contains n = false) : objHas "Goods" n (gD f st) = true := by
  show (decide (("Goods" : Str) = "Goods") && !(["crowd", "signs", "sizes"] : List Str).contains n) = true
  rw [h]
  decide
end
@[simp] theorem oh_need {f : Fl} {st : List Gd} : objHas "Goods" "need_good" (gD f st) = true := objHas_gD (by decide)
@[simp] theorem oh_called {f : Fl} {st : List Gd} : objHas "Goods" "called_goods" (gD f st) = true := objHas_gD (by decide)
@[simp] theorem oh_marks {f : Fl} {st : List Gd} : objHas "Goods" "marks_of" (gD f st) = true := objHas_gD (by decide)
@[simp] theorem oh_meas {f : Fl} {st : List Gd} : objHas "Goods" "measures_of" (gD f st) = true := objHas_gD (by decide)
@[simp] theorem oh_own {f : Fl} {st : List Gd} : objHas "Goods" "own_amount" (gD f st) = true := objHas_gD (by decide)
@[simp] theorem oh_cop {f : Fl} {st : List Gd} : objHas "Goods" "copied" (gD f st) = true := objHas_gD (by decide)
theorem need_good_eq {f : Fl} {st : List Gd} {x : Gd} (nd : (st.map Gd.nm).Nodup) (h : x ∈ st) : m_Goods_need_good [gD f st, .str x.nm] = .ok .non := by
  have e := notIn_tab (f := f.toTmp) (v := maE f.toTmp) nd h
  unfold m_Goods_need_good g_Goods_need_good
  simp (decide := true) [isiD, tyN, nbTy, e]
theorem called_eq {f : Fl} {st : List Gd} : m_Goods_called_goods [gD f st] = .ok (crD .own st) := by
  unfold m_Goods_called_goods g_Goods_called_goods
  have : noT (crD .own st) = true := allF_cr rfl
  simp (decide := true) [this]
theorem marks_eq {f : Fl} {st : List Gd} {x : Gd} (nd : (st.map Gd.nm).Nodup) (h : x ∈ st) : m_Goods_marks_of [gD f st, .str x.nm] = .ok (maE .own x) := by
  have e := need_good_eq (f := f.toTmp.toArg) nd h
  have e2 := ix_tab (f := f.toTmp) (v := maE f.toTmp) nd h
  have : noT (maE .own x) = true := allF_ma rfl
  unfold m_Goods_marks_of g_Goods_marks_of
  simp (decide := true) [e, e2, this]
end OB

namespace OB
open PySem PySem.Spec PyProof.Rows L2 PySem.NumText PySem.StrLaws Builtin.Str
structure Am (a b : Int) : Prop where
  rt : Rt a b 40
  lo : 1 ≤ a
  hi : a ≤ 1000000000000
  bt : b ≤ 1000000
structure GdOk (g : Gd) : Prop where
  nm : Nm g.nm
  mk0 : ∀ m ∈ g.marks, Nm m
  mkn : g.marks.Nodup
  mkl : g.marks.length ≤ 6
  sn : ∀ p ∈ g.sizes, Nm p.1
  sd : (g.sizes.map (·.1)).Nodup
  sl : g.sizes.length ≤ 6
  sa : ∀ p ∈ g.sizes, Am p.2.1 p.2.2
structure StOk (st : List Gd) : Prop where
  nd : (st.map Gd.nm).Nodup
  len : st.length ≤ 10
  ok : ∀ g ∈ st, GdOk g
def At (st : List Gd) (x : Gd) (j : Nat) : Prop := (keysG st).findIdx? (fun q => decide (q = .inr x.nm)) = some j ∧ st[j]? = some x
theorem at_of {x : Gd} : ∀ {st : List Gd}, (st.map Gd.nm).Nodup → x ∈ st → ∃ j, At st x j
  | [], _, h => nomatch h
  | g :: st, nd, h => by
    rw [List.map_cons] at nd
    obtain ⟨n1, n2⟩ := List.nodup_cons.mp nd
    by_cases e : g.nm = x.nm
    · rcases List.mem_cons.mp h with h | h
      · subst h
        exact ⟨0, by unfold keysG; rw [List.map_cons, List.findIdx?_cons, if_pos (by simp)], rfl⟩
      · exact absurd (List.mem_map.mpr ⟨x, h, e.symm⟩) n1
    · rcases List.mem_cons.mp h with h | h
      · exact absurd (by rw [h]) e
      · obtain ⟨j, a, b⟩ := at_of n2 h
        refine ⟨j + 1, ?_, by simpa using b⟩
        unfold keysG at a ⊢
        rw [List.map_cons, List.findIdx?_cons, if_neg (by simpa using e), a]
        rfl
@[simp] theorem step_tab {f : Fl} {v : Gd → D} {st : List Gd} {n : Str} : stepP (tabD f v st) (.str n) = (keysG st).findIdx? (fun q => decide (q = .inr n)) := rfl
@[simp] theorem fldP_cr {f : Fl} {st : List Gd} : fldP ["Goods"] (gD f st) "crowd" = some 0 := rfl
@[simp] theorem fldP_si {f : Fl} {st : List Gd} : fldP ["Goods"] (gD f st) "signs" = some 1 := rfl
@[simp] theorem fldP_sz {f : Fl} {st : List Gd} : fldP ["Goods"] (gD f st) "sizes" = some 2 := rfl
@[simp] theorem getP_g0 {f : Fl} {st : List Gd} : getP (gD f st) [0] = some (crD f st) := rfl
@[simp] theorem getP_g1 {f : Fl} {st : List Gd} : getP (gD f st) [1] = some (tabD f (maE f) st) := rfl
@[simp] theorem getP_g2 {f : Fl} {st : List Gd} : getP (gD f st) [2] = some (tabD f (szE f) st) := rfl
theorem getP_tab {f : Fl} {v : Gd → D} {st : List Gd} {x : Gd} {j : Nat} (h : st[j]? = some x) : getP (tabD f v st) [j] = some (v x) := by
  unfold tabD
  rw [getP_one, List.getElem?_map, h]; rfl
theorem getP_g2j {f : Fl} {st : List Gd} {x : Gd} {j : Nat} (h : st[j]? = some x) : getP (gD f st) [2, j] = some (szE f x) := (getP_app [2] [j] _ _ getP_g2).trans (getP_tab h)
theorem getP_o2j {f : Fl} {st : List Gd} {x : Gd} {j : Nat} (h : st[j]? = some x) : getP (oD f st) [2, j] = some (shE f x) := (getP_app [2] [j] _ _ rfl).trans (getP_tab h)
theorem putP_tab {f : Fl} {v : Gd → D} {st : List Gd} {x : Gd} {j : Nat} {e : D} (h : st[j]? = some x) : putP (tabD f v st) [j] e = .nd (.dct f (keysG st)) ((st.map v).set j e) := by
  unfold tabD
  rw [putP_one (dj := v x) (by rw [List.getElem?_map, h]; rfl)]
theorem set_nm {st : List Gd} {x x' : Gd} {j : Nat} (h : st[j]? = some x) (e : x'.nm = x.nm) : (st.set j x').map Gd.nm = st.map Gd.nm := by
  rw [List.map_set, e]
  obtain ⟨hl, h⟩ := List.getElem?_eq_some_iff.mp h
  have : (st.map Gd.nm)[j]'(by simpa using hl) = x.nm := by simp [h]
  rw [← this, List.set_getElem_self]
theorem set_keys {st : List Gd} {x x' : Gd} {j : Nat} (h : st[j]? = some x) (e : x'.nm = x.nm) : keysG (st.set j x') = keysG st := by
  have := congrArg (List.map fun n => (.inr n : Key)) (set_nm h e)
  rw [List.map_map, List.map_map] at this
  exact this
theorem set_map {v : Gd → D} {st : List Gd} {x x' : Gd} {j : Nat} (h : st[j]? = some x) (e : v x' = v x) : (st.set j x').map v = st.map v := by
  rw [List.map_set, e]
  obtain ⟨hl, h⟩ := List.getElem?_eq_some_iff.mp h
  have : (st.map v)[j]'(by simpa using hl) = v x := by simp [h]
  rw [← this, List.set_getElem_self]
theorem put_gD {f : Fl} {st : List Gd} {x x' : Gd} {j : Nat} (h : st[j]? = some x) (e : x'.nm = x.nm) (em : x'.marks = x.marks) : putP (gD f st) [2, j] (szE f x') = gD f (st.set j x') := by
  rw [show ([2, j] : List Nat) = [2] ++ [j] from rfl, putP_app [2] [j] _ _ _ getP_g2, putP_tab h]
  unfold gD
  have e1 : crD f (st.set j x') = crD f st := by unfold crD; rw [set_nm h e]
  have e2 : tabD f (maE f) (st.set j x') = tabD f (maE f) st := by
    unfold tabD
    rw [set_keys h e, set_map h (by unfold maE; rw [em])]
  have e3 : tabD f (szE f) (st.set j x') = .nd (.dct f (keysG st)) ((st.map (szE f)).set j (szE f x')) := by
    unfold tabD
    rw [set_keys h e, List.map_set]
  rw [e1, e2, e3]
  rfl
theorem put_oD {f : Fl} {st : List Gd} {x x' : Gd} {j : Nat} (h : st[j]? = some x) (e : x'.nm = x.nm) (em : x'.marks = x.marks) : putP (oD f st) [2, j] (shE f x') = oD f (st.set j x') := by
  rw [show ([2, j] : List Nat) = [2] ++ [j] from rfl, putP_app [2] [j] _ _ _ (show getP (oD f st) [2] = some (tabD f (shE f) st) from rfl), putP_tab h]
  unfold oD
  have e1 : crD f (st.set j x') = crD f st := by unfold crD; rw [set_nm h e]
  have e2 : tabD f (maE f) (st.set j x') = tabD f (maE f) st := by
    unfold tabD
    rw [set_keys h e, set_map h (by unfold maE; rw [em])]
  have e3 : tabD f (shE f) (st.set j x') = .nd (.dct f (keysG st)) ((st.map (shE f)).set j (shE f x')) := by
    unfold tabD
    rw [set_keys h e, List.map_set]
  rw [e1, e2, e3]
  rfl
theorem measures_eq {f : Fl} {st : List Gd} {x : Gd} (ok : StOk st) (h : x ∈ st) : m_Goods_measures_of [gD f st, .str x.nm] = .ok (shE .own x) := by
  have e := need_good_eq (f := f.toTmp.toArg) ok.nd h
  obtain ⟨j, hj, hx⟩ := at_of ok.nd h
  have g := ok.ok x h
  have e2 : cp_Goods_measures_of_1 [some (gD f st), some (.str x.nm), none] = .ok (shE .own x) := by
    have et : tmpE [some (gD f st), some (.str x.nm), none] = [some (gD f.toTmp st), some (.str x.nm), none] := by simp [tmpE]
    have es : subD (tmpE [some (gD f st), some (.str x.nm), none]) 0 (πIx 0 (πFld 0 pHere ["Goods"] "sizes") (eVar 1)) = some (gD f.toTmp st, [2, j], szE f.toTmp x) := by
      rw [et]
      have := getP_g2j (f := f.toTmp) hx
      simp [hj, this]
    have ec := compL_map (tg := tgName 2) (f := ce_Goods_measures_of_1) (ρ := wipeE (tmpE [some (gD f st), some (.str x.nm), none]) [2]) (fun d => match d with | .str s => .nd .tup [.str s, (look (x.sizes.map fun p => (.inr p.1 : Key)) (x.sizes.map fun p => ratD p.2.1 p.2.2) (.inr s)).getD .non] | _ => .non)
      ((x.sizes.map fun p => (.inr p.1 : Key)).map keyDat) fun d hd => by
      rw [List.map_map] at hd
      obtain ⟨p, hp, rfl⟩ := List.mem_map.mp hd
      refine ⟨_, rfl, ?_⟩
      have i1 := ix_tab (f := f.toTmp) (v := szE f.toTmp) ok.nd h
      have i2 := ix_szE (f := f.toTmp) (n := p.1) (a := p.2.1) (b := p.2.2) g.sd hp
      have i3 := look_s (n := p.1) (a := p.2.1) (b := p.2.2) g.sd hp
      have tt : f.toTmp.toTmp = f.toTmp := by cases f <;> rfl
      rw [et]
      unfold ce_Goods_measures_of_1
      simp (decide := true) [tt, i1, i2, i3, keyDat]
    unfold cp_Goods_measures_of_1 eCompK
    rw [es]
    show (match compL (tgName 2) cYes ce_Goods_measures_of_1 (wipeE (tmpE [some (gD f st), some (.str x.nm), none]) [2]) ((x.sizes.map fun p => (.inr p.1 : Key)).map keyDat) with
      | some ys => if ys.length ≤ sizeLine then Ot.ok (D.nd (.lst .own) ys) else Ot.no
      | none => Ot.no) = _
    rw [ec]
    have hl := g.sl
    have hz : (6 : Nat) ≤ sizeLine := by decide
    dsimp only
    rw [if_pos (by simp; omega), List.map_map, List.map_map]
    unfold shE
    congr 2
    apply List.map_congr_left
    intro p hp
    have i3 := look_s (n := p.1) (a := p.2.1) (b := p.2.2) g.sd hp
    simp [keyDat, i3]
  have nt : noT (shE .own x) = true := allF_sh rfl
  unfold m_Goods_measures_of g_Goods_measures_of
  simp (decide := true) [e, e2, nt]
theorem own_eq {f : Fl} {st : List Gd} {x : Gd} {m : Str} {a b p q : Int} (ok : StOk st) (h : x ∈ st) (hm : (m, a, b) ∈ x.sizes) (r : Rt p q 3000) (hp : 0 ≤ p) : m_Goods_own_amount [gD f st, .str x.nm, .str m, ratD p q] = .ok (ratD (loN (p * a) (q * b)) (loD (p * a) (q * b))) := by
  have g := ok.ok x h
  have e := need_good_eq (f := f.toTmp.toArg) ok.nd h
  have i1 := ix_tab (f := f.toTmp) (v := szE f.toTmp) ok.nd h
  have i2 := ix_szE (f := f.toTmp) g.sd hm
  have i3 := notIn_szE (f := f.toTmp) g.sd hm
  have er := is_ratio_rt r
  have et := times_eq r ((g.sa _ hm).rt.mono (m := 3000) (by decide))
  have hp2 : ¬ p < 0 := by omega
  unfold m_Goods_own_amount g_Goods_own_amount
  simp (decide := true) [e, i1, i2, i3, er, et, hp2, isiD, tyN, nbTy]
end OB

namespace OB
open PySem PySem.Spec PyProof.Rows L2 PySem.NumText PySem.StrLaws Builtin.Str
theorem find_no {n : Str} {st : List Gd} (h : n ∉ st.map Gd.nm) : (keysG st).findIdx? (fun q => decide (q = (.inr n : Key))) = none := by
  rw [List.findIdx?_eq_none_iff]
  intro k hk
  obtain ⟨g, hg, rfl⟩ := List.mem_map.mp hk
  have : ¬ g.nm = n := fun e => h (List.mem_map.mpr ⟨g, hg, e⟩)
  simpa using this
@[simp] theorem fldG1 {f : Fl} {c s z : D} : fldP ["Goods"] (G3 f c s z) "signs" = some 1 := rfl
@[simp] theorem fldG2 {f : Fl} {c s z : D} : fldP ["Goods"] (G3 f c s z) "sizes" = some 2 := rfl
@[simp] theorem getG1 {f : Fl} {c s z : D} : getP (G3 f c s z) [1] = some s := by simp [getP]
@[simp] theorem getG2 {f : Fl} {c s z : D} : getP (G3 f c s z) [2] = some z := by simp [getP]
@[simp] theorem putG1 {f : Fl} {c s z e : D} : putP (G3 f c s z) [1] e = G3 f c e z := by simp [putP]
@[simp] theorem putG2 {f : Fl} {c s z e : D} : putP (G3 f c s z) [2] e = G3 f c s e := by simp [putP]
theorem putg0 {f : Fl} {st : List Gd} {e : D} : putP (gD f st) [0] e = G3 f e (tabD f (maE f) st) (tabD f (szE f) st) := by
  unfold gD
  simp [putP]
theorem put_new {v : Gd → D} {st : List Gd} {n : Str} {e : D} (h : n ∉ st.map Gd.nm) (hl : st.length < 16777216) : putD2 (.dct .own (keysG st)) (st.map v) (.str n) e = some (.dct .own (keysG st ++ [.inr n]), st.map v ++ [e]) := by
  have f := find_no h
  unfold putD2
  show (some (Sum.inr n : Key)).bind _ = _
  rw [Option.bind_some, f]
  have hk : (keysG st).length < sizeLine := by
    unfold keysG
    rw [List.length_map]
    exact hl
  dsimp only
  rw [if_pos hk]
theorem snoc_gD {f : Fl} {st : List Gd} {x : Gd} : gD f (st ++ [x]) = G3 f (.nd (.lst f) ((st.map Gd.nm).map D.str ++ [.str x.nm])) (.nd (.dct f (keysG st ++ [.inr x.nm])) (st.map (maE f) ++ [maE f x])) (.nd (.dct f (keysG st ++ [.inr x.nm])) (st.map (szE f) ++ [szE f x])) := by
  simp [gD, crD, tabD, keysG]
theorem snoc_oD {f : Fl} {st : List Gd} {x : Gd} : oD f (st ++ [x]) = O3 f (.nd (.lst f) ((st.map Gd.nm).map D.str ++ [.str x.nm])) (.nd (.dct f (keysG st ++ [.inr x.nm])) (st.map (maE f) ++ [maE f x])) (.nd (.dct f (keysG st ++ [.inr x.nm])) (st.map (shE f) ++ [shE f x])) := by
  simp [oD, crD, tabD, keysG]
section
variable {st : List Gd} {x : Str} {ms : List Str} (ok : StOk st) (hl : st.length < 10) (hx : Nm x) (hn : x ∉ st.map Gd.nm)
include ok hl hx hn
/-- behind the checks -/
theorem put_tail {d2 : D} {f : Fl} (hf : f ≠ .tmp) (hm : ∀ m ∈ ms, Nm m) (hmn : ms.Nodup) (hml : ms.length ≤ 6) : (sSeq (sExpr (eCall m_need_names [] [eVar 3])) (sSeq st_Goods_put_good_5 (sSeq st_Goods_put_good_6 st_Goods_put_good_7))) [some (gD .own st), some (.str x), some d2, some (.nd (.lst f) (ms.map D.str))] =
    some (.nx, [some (gD .own (st ++ [⟨x, ms, []⟩])), some (.str x), some d2, some (.nd (.lst f) (ms.map D.str))]) := by
  have en := need_names_eq (f := f.toTmp.toArg) hm hmn hml
  have hz : ((st.map Gd.nm).map D.str).length < 16777216 := by simp; omega
  have c0 : getP (gD .own st) [0] = some (.nd (.lst .own) ((st.map Gd.nm).map D.str)) := rfl
  have t1 : tabD .own (maE .own) st = .nd (.dct .own (keysG st)) (st.map (maE .own)) := rfl
  have t2 : tabD .own (szE .own) st = .nd (.dct .own (keysG st)) (st.map (szE .own)) := rfl
  have p1 := put_new (v := maE .own) (e := .nd (.lst .own) (ms.map D.str)) hn (by omega)
  have p2 := put_new (v := szE .own) (e := .nd (.dct .own []) []) hn (by omega)
  have a0 := oApp_eq (es := (st.map Gd.nm).map D.str) (d := .str x) hz
  rw [snoc_gD]
  unfold st_Goods_put_good_5 st_Goods_put_good_6 st_Goods_put_good_7
  generalize (st.map Gd.nm).map D.str = L at c0 a0 ⊢
  simp (decide := true) [-getP_g0, -getP_g1, -getP_g2, en, c0, a0, putg0, t1, t2, p1, p2, Kd.isOwn, Kd.fl]
  exact ⟨rfl, rfl⟩
theorem put_good0 : m_Goods_put_good [gD .own st, .str x, .non] = some (.ok .non, [gD .own (st ++ [⟨x, [], []⟩])]) := by
  have e1 := is_name_eq hx
  have e2 := in_tab0 (f := .tmp) (v := maE .tmp) hn
  have e3 : ¬ (st.length : Int) = 10 := by omega
  have e4 := put_tail (d2 := .non) (f := .own) (ms := []) ok hl hx hn (by decide) (fun _ h => nomatch h) List.nodup_nil (by decide)
  rw [List.map_nil] at e4
  have eg : g_Goods_put_good [some (gD .own st), some (.str x), some .non, none] = some (.nx, [some (gD .own (st ++ [⟨x, [], []⟩])), some (.str x), some .non, some (.nd (.lst .own) [])]) := by
    unfold g_Goods_put_good
    rw [sSeq_nx (ρ1 := [some (gD .own st), some (.str x), some .non, none]) (by unfold st_Goods_put_good_1; simp (decide := true) [e1])]
    rw [sSeq_nx (ρ1 := [some (gD .own st), some (.str x), some .non, none]) (by unfold st_Goods_put_good_2; simp (decide := true) [e2])]
    rw [sSeq_nx (ρ1 := [some (gD .own st), some (.str x), some .non, none]) (by unfold st_Goods_put_good_3; simp (decide := true) [e3])]
    rw [sSeq_nx (ρ1 := [some (gD .own st), some (.str x), some .non, some (.nd (.lst .own) [])]) (by unfold st_Goods_put_good_4; simp (decide := true))]
    exact e4
  show bodyMM 4 [0] g_Goods_put_good _ = _
  rw [bodyMM_eq]
  have ei : initE 4 [gD .own st, .str x, .non] = [some (gD .own st), some (.str x), some .non, none] := rfl
  rw [ei, eg]
  rfl
theorem put_good1 {f : Fl} (hf : f = .bor ∨ f = .frz) (hm : ∀ m ∈ ms, Nm m) (hmn : ms.Nodup) (hml : ms.length ≤ 6) : m_Goods_put_good [gD .own st, .str x, .nd (.lst f) (ms.map D.str)] = some (.ok .non, [gD .own (st ++ [⟨x, ms, []⟩])]) := by
  have e1 := is_name_eq hx
  have e2 := in_tab0 (f := .tmp) (v := maE .tmp) hn
  have e3 : ¬ (st.length : Int) = 10 := by omega
  have hft : f.toTmp = f := by rcases hf with rfl | rfl <;> rfl
  have hfn : f ≠ .tmp := by rcases hf with rfl | rfl <;> decide
  have e4 := put_tail (d2 := .nd (.lst f) (ms.map D.str)) (f := f) (ms := ms) ok hl hx hn hfn hm hmn hml
  have eg : g_Goods_put_good [some (gD .own st), some (.str x), some (.nd (.lst f) (ms.map D.str)), none] = some (.nx, [some (gD .own (st ++ [⟨x, ms, []⟩])), some (.str x), some (.nd (.lst f) (ms.map D.str)), some (.nd (.lst f) (ms.map D.str))]) := by
    unfold g_Goods_put_good
    rw [sSeq_nx (ρ1 := [some (gD .own st), some (.str x), some (.nd (.lst f) (ms.map D.str)), none]) (by unfold st_Goods_put_good_1; simp (decide := true) [e1])]
    rw [sSeq_nx (ρ1 := [some (gD .own st), some (.str x), some (.nd (.lst f) (ms.map D.str)), none]) (by unfold st_Goods_put_good_2; simp (decide := true) [e2])]
    rw [sSeq_nx (ρ1 := [some (gD .own st), some (.str x), some (.nd (.lst f) (ms.map D.str)), none]) (by unfold st_Goods_put_good_3; simp (decide := true) [e3])]
    rw [sSeq_nx (ρ1 := [some (gD .own st), some (.str x), some (.nd (.lst f) (ms.map D.str)), some (.nd (.lst f) (ms.map D.str))]) (by unfold st_Goods_put_good_4; simp (decide := true) [hft, hfn])]
    exact e4
  show bodyMM 4 [0] g_Goods_put_good _ = _
  rw [bodyMM_eq]
  have ei : initE 4 [gD .own st, .str x, .nd (.lst f) (ms.map D.str)] = [some (gD .own st), some (.str x), some (.nd (.lst f) (ms.map D.str)), none] := rfl
  rw [ei, eg]
  rfl
end
theorem put_measure_eq {st : List Gd} {x : Gd} {m : Str} {a b : Int} {j : Nat} (ok : StOk st) (hj : At st x j) (hm : Nm m) (hn : m ∉ x.sizes.map (·.1)) (hl : x.sizes.length < 6) (am : Am a b) :
    m_Goods_put_measure [gD .own st, .str x.nm, .str m, ratD a b] = some (.ok .non, [gD .own (st.set j ⟨x.nm, x.marks, x.sizes ++ [(m, a, b)]⟩)]) := by
  obtain ⟨hj, hx⟩ := hj
  have hmem : x ∈ st := List.mem_of_getElem? hx
  have e1 := need_good_eq (f := .bor) ok.nd hmem
  have e2 := is_name_eq hm
  have i1 := ix_tab (f := .tmp) (v := szE .tmp) ok.nd hmem
  have i2 := in_szE0 (f := .tmp) (g := x) hn
  have e3 := is_amount_rt am.rt 1
  have l1 : pLen [szE .tmp x] = some (.int x.sizes.length) := by
    show some (D.int ((x.sizes.map fun p => (.inr p.1 : Key)).length : Nat)) = _
    rw [List.length_map]
  have l2 : ¬ (x.sizes.length : Int) = 6 := by omega
  have h1 := am.lo
  have h2 := am.hi
  have h3 := am.bt
  let ρ : En := [some (gD .own st), some (.str x.nm), some (.str m), some (ratD a b)]
  have g2 := getP_g2j (f := .own) hx
  have sz : szE .own x = .nd (.dct .own (x.sizes.map fun p => .inr p.1)) (x.sizes.map fun p => ratD p.2.1 p.2.2) := rfl
  rw [sz] at g2
  have fn : (x.sizes.map fun p => (.inr p.1 : Key)).findIdx? (fun q => decide (q = (.inr m : Key))) = none := by
    rw [List.findIdx?_eq_none_iff]
    intro k hk
    obtain ⟨p, hp, rfl⟩ := List.mem_map.mp hk
    have : ¬ p.1 = m := fun e => hn (List.mem_map.mpr ⟨p, hp, e⟩)
    simpa using this
  have pd : putD2 (.dct .own (x.sizes.map fun p => .inr p.1)) (x.sizes.map fun p => ratD p.2.1 p.2.2) (.str m) (ratD a b) = some (.dct .own ((x.sizes.map fun p => .inr p.1) ++ [.inr m]), (x.sizes.map fun p => ratD p.2.1 p.2.2) ++ [ratD a b]) := by
    unfold putD2
    show (some (Sum.inr m : Key)).bind _ = _
    rw [Option.bind_some, fn]
    dsimp only
    rw [if_pos]
    rw [List.length_map]
    exact Nat.lt_trans hl (by decide)
  have pg := put_gD (f := .own) (x' := ⟨x.nm, x.marks, x.sizes ++ [(m, a, b)]⟩) hx rfl rfl
  have sz2 : szE .own ⟨x.nm, x.marks, x.sizes ++ [(m, a, b)]⟩ = .nd (.dct .own ((x.sizes.map fun p => .inr p.1) ++ [.inr m])) ((x.sizes.map fun p => ratD p.2.1 p.2.2) ++ [ratD a b]) := by
    simp [szE]
  rw [sz2] at pg
  have e6 : st_Goods_put_measure_6 ρ = some (.nx, [some (gD .own (st.set j ⟨x.nm, x.marks, x.sizes ++ [(m, a, b)]⟩)), some (.str x.nm), some (.str m), some (ratD a b)]) := by
    unfold st_Goods_put_measure_6
    have sd : subD ρ 0 (πIx 0 (πFld 0 pHere ["Goods"] "sizes") (eVar 1)) = some (gD .own st, [2, j], .nd (.dct .own (x.sizes.map fun p => .inr p.1)) (x.sizes.map fun p => ratD p.2.1 p.2.2)) := by
      simp [ρ, hj, g2]
    rw [sPut2_eq, sd]
    simp (decide := true) [-subD_row, ρ, Kd.isOwn, Kd.fl, pd, pg]
  have eg : g_Goods_put_measure ρ = some (.nx, [some (gD .own (st.set j ⟨x.nm, x.marks, x.sizes ++ [(m, a, b)]⟩)), some (.str x.nm), some (.str m), some (ratD a b)]) := by
    unfold g_Goods_put_measure
    rw [sSeq_nx (ρ1 := ρ) (by unfold st_Goods_put_measure_1; simp (decide := true) [ρ, e1])]
    rw [sSeq_nx (ρ1 := ρ) (by unfold st_Goods_put_measure_2; simp (decide := true) [ρ, e2])]
    rw [sSeq_nx (ρ1 := ρ) (by unfold st_Goods_put_measure_3; simp (decide := true) [ρ, i1, i2])]
    rw [sSeq_nx (ρ1 := ρ) (by unfold st_Goods_put_measure_4; simp (decide := true) [ρ, e3, h1, h2, h3])]
    rw [sSeq_nx (ρ1 := ρ) (by unfold st_Goods_put_measure_5; simp (decide := true) [ρ, i1, l1, l2])]
    exact e6
  show bodyMM 4 [0] g_Goods_put_measure _ = _
  rw [bodyMM_eq]
  have ei : initE 4 [gD .own st, .str x.nm, .str m, ratD a b] = ρ := rfl
  rw [ei, eg]
  rfl
end OB

namespace OB
open PySem PySem.Spec PyProof.Rows L2 PySem.NumText PySem.StrLaws Builtin.Str
theorem init_eq : m_Goods___init__ [.nd (.obj .own "Goods" []) []] = some (.ok .non, [gD .own []]) := by
  unfold m_Goods___init__ g_Goods___init__
  simp (decide := true) [putFD]
  rfl
theorem make_eq {ρ : En} : eMake "Goods" m_Goods___init__ [] [] ρ = .ok (gD .own []) := by
  rw [eMake_eq, eL_nil, Ot.bind_ok]
  show mkBack (m_Goods___init__ [.nd (.obj .own "Goods" []) []]) = _
  rw [init_eq, mkBack_ok, if_pos noB_gD]
theorem StOk.take {st : List Gd} (h : StOk st) (j : Nat) : StOk (st.take j) := ⟨by rw [List.map_take]; exact h.nd.sublist (List.take_sublist _ _), by rw [List.length_take]; have := h.len; omega, fun g hg => h.ok g (List.mem_of_mem_take hg)⟩
theorem items_cr {f : Fl} (hf : f ≠ .tmp) {st : List Gd} : itemsD (crD f st) = some ((st.map Gd.nm).map D.str, true) := by
  unfold crD itemsD
  simp [hf]
theorem items_crt {f : Fl} {st : List Gd} : ∃ b, itemsD (crD f st) = some ((st.map Gd.nm).map D.str, b) := by
  unfold crD itemsD
  simp
theorem put_old {v : Gd → D} {st : List Gd} {x : Gd} {j : Nat} {e : D} (nd : (st.map Gd.nm).Nodup) (h : At st x j) (hl : st.length < 16777216) : putD2 (.dct .own (keysG st)) (st.map v) (.str x.nm) e = some (.dct .own (keysG st), (st.map v).set j e) := by
  unfold putD2
  show (some (Sum.inr x.nm : Key)).bind _ = _
  rw [Option.bind_some, h.1]
  dsimp only
  rw [if_pos]
  refine ⟨?_, ?_⟩
  · unfold keysG; rw [List.length_map]; exact hl
  · have : keysG st = (st.map Gd.nm).map fun n => (.inr n : Key) := by unfold keysG; rw [List.map_map]; rfl
    rw [this]
    exact List.Pairwise.map _ (fun a b h e => h (by injection e)) nd
theorem keys_nodup {st : List Gd} (nd : (st.map Gd.nm).Nodup) : (keysG st).Nodup := by
  have : keysG st = (st.map Gd.nm).map fun n => (.inr n : Key) := by unfold keysG; rw [List.map_map]; rfl
  rw [this]
  exact List.Pairwise.map _ (fun a b h e => h (by injection e)) nd
theorem at_snoc {st : List Gd} {x : Gd} (h : x.nm ∉ st.map Gd.nm) : At (st ++ [x]) x st.length := by
  have f := find_no h
  refine ⟨?_, by simp⟩
  have : keysG (st ++ [x]) = keysG st ++ [.inr x.nm] := by simp [keysG]
  rw [this, List.findIdx?_append, f]
  simp [List.findIdx?_cons]
  unfold keysG
  rw [List.length_map]
theorem copied_eq {f : Fl} (hf : f = .bor ∨ f = .frz) {st : List Gd} (ok : StOk st) : m_Goods_copied [gD f st] = .ok (gD .own st) := by
  have hft : f.toTmp = f := by rcases hf with rfl | rfl <;> rfl
  have hfn : f ≠ .tmp := by rcases hf with rfl | rfl <;> decide
  have hfa : f.toArg = f := by rcases hf with rfl | rfl <;> rfl
  have ei : itV (ePr (pFld ["Goods"] "crowd") [eVar 0]) [some (gD f st), some (gD .own []), none] = .ok ((st.map Gd.nm).map D.str, true) := by
    have := items_cr hfn (st := st)
    simp [hft, this]
  have lp : ∃ y, lp_Goods_copied_1 [some (gD f st), some (gD .own []), none] = some (.nx, [some (gD f st), some (gD .own st), y]) := by
    obtain ⟨ρ', e, y, hy⟩ := sFor_ok (tg := tgName 2) (b := lb_Goods_copied_1) ei (fun j ρ => ∃ y, ρ = [some (gD f st), some (gD .own (st.take j)), y]) ⟨none, by simp⟩ fun j d ρ hd ⟨y, hρ⟩ => by
      subst hρ
      rw [List.map_map, List.getElem?_map] at hd
      cases hx : st[j]? with
      | none => rw [hx] at hd; cases hd
      | some x =>
        rw [hx] at hd
        cases hd
        have hmem : x ∈ st := List.mem_of_getElem? hx
        have hjl := (List.getElem?_eq_some_iff.mp hx).1
        have g := ok.ok x hmem
        have tk : st.take (j + 1) = st.take j ++ [x] := by rw [List.take_succ, hx]; rfl
        have hnin : x.nm ∉ (st.take j).map Gd.nm := by
          have := ok.nd
          rw [← List.take_append_drop (j + 1) st, tk, List.map_append, List.map_append] at this
          have := (List.nodup_append.mp this).1
          exact fun q => (List.nodup_append.mp this).2.2 _ q _ (by simp) rfl
        have hlen : (st.take j).length < 10 := by rw [List.length_take]; have := ok.len; omega
        have e1 := put_good1 (ok.take j) hlen g.nm hnin (f := f) hf g.mk0 g.mkn g.mkl
        have i1 := ix_tab (f := f) (v := maE f) ok.nd hmem
        have i2 := ix_tab (f := f) (v := szE f) ok.nd hmem
        have ma : maE f x = .nd (.lst f) (x.marks.map D.str) := rfl
        let st1 := st.take j ++ [(⟨x.nm, x.marks, []⟩ : Gd)]
        have hat : At st1 ⟨x.nm, x.marks, []⟩ (st.take j).length := at_snoc hnin
        have nd1 : (st1.map Gd.nm).Nodup := by
          have := (ok.take (j + 1)).nd
          rw [tk] at this
          simpa [st1] using this
        have hl1 : st1.length < 16777216 := by simp only [st1, List.length_append, List.length_singleton]; omega
        have po := put_old (v := szE .own) (e := szE .own x) nd1 hat hl1
        have pg := put_gD (f := .own) (x' := x) hat.2 rfl rfl
        have set1 : st1.set (st.take j).length x = st.take (j + 1) := by
          rw [tk]
          simp [st1]
        rw [set1] at pg
        have hdict : pDictD [szE f x] = some (szE .own x) := rfl
        have sd : subD [some (gD f st), some (gD .own st1), some (.str x.nm)] 1 (πFld 1 pHere ["Goods"] "sizes") = some (gD .own st1, [2], .nd (.dct .own (keysG st1)) (st1.map (szE .own))) := by
          simp
          rfl
        have pg2 : putP (gD .own st1) [2] (.nd (.dct .own (keysG st1)) ((st1.map (szE .own)).set (st.take j).length (szE .own x))) = gD .own (st.take (j + 1)) := by
          rw [← pg, show ([2, (st.take j).length] : List Nat) = [2] ++ [(st.take j).length] from rfl, putP_app [2] _ _ _ _ getP_g2, putP_tab hat.2]
        have nsz : noT (szE .own x) = true := allF_sz rfl
        refine ⟨_, [some (gD f st), some (gD .own (st.take (j + 1))), some (.str x.nm)], rfl, ?_, some (.str x.nm), rfl⟩
        show lb_Goods_copied_1 [some (gD f st), some (gD .own (st.take j)), some (.str x.nm)] = _
        unfold lb_Goods_copied_1
        rw [sSeq_nx (ρ1 := [some (gD f st), some (gD .own st1), some (.str x.nm)])]
        · rw [sPut2_eq, sd]
          simp (decide := true) [-subD_row, -List.length_take, Kd.isOwn, Kd.fl, hft, i2, hdict, po, pg2, nsz]
        · have oh : objHas "Goods" "put_good" (gD .own (st.take j)) = true := objHas_gD (by decide)
          simp (decide := true) [hft, hfa, i1, ma, oh, e1]
          rfl
    subst hy
    refine ⟨y, ?_⟩
    rw [List.length_map, List.length_map, List.take_length] at e
    exact e
  obtain ⟨y, lp⟩ := lp
  unfold m_Goods_copied g_Goods_copied
  have em : ∀ ρ, eMake "Goods" m_Goods___init__ [] [] ρ = .ok (gD .own []) := fun ρ => make_eq
  simp (decide := true) [-eMake_eq, em, lp]
end OB

namespace OB
open PySem PySem.Spec PyProof.Rows L2 PySem.NumText PySem.StrLaws Builtin.Str
theorem pairs_st {v : Gd → D} : ∀ st : List Gd, pairsD (st.map fun g => D.nd .tup [.str g.nm, v g]) = some (keysG st, st.map v)
  | [] => rfl
  | g :: st => by
    rw [List.map_cons, pairsD]
    show (some (Sum.inr g.nm : Key)).bind _ = _
    rw [Option.bind_some, pairs_st st]
    rfl
theorem dictP_st {f : Fl} {v : Gd → D} {st : List Gd} (nd : (st.map Gd.nm).Nodup) : pDictP [.nd (.lst f) (st.map fun g => D.nd .tup [.str g.nm, v g])] = some (tabD .own v st) := by
  show (pairsD (st.map fun g => D.nd .tup [.str g.nm, v g])).bind _ = _
  rw [pairs_st, Option.bind_some]
  exact if_pos (keys_nodup nd)
section
variable {f : Fl} {st : List Gd} (ok : StOk st)
include ok
theorem kept_cp1 {x1 x2 x3 : Option D} : cp__law_kept_1 [some (oD f st), x1, x2, x3] = .ok (.nd (.lst .own) (st.map fun g => D.nd .tup [.str g.nm, shE .own g])) := by
  obtain ⟨b, hb⟩ := items_crt (f := f.toTmp) (st := st)
  have ei : itV (ePr pIx [eVar 0, eC (.str "order")]) [some (oD f st), x1, x2, x3] = .ok ((st.map Gd.nm).map D.str, b) := by simp [hb]
  have ec := compL_map (tg := tgName 3) (f := ce__law_kept_1) (ρ := wipeE [some (oD f st), x1, x2, x3] [3]) (fun d => match d with | .str s => .nd .tup [.str s, (look (keysG st) (st.map (shE .own)) (.inr s)).getD .non] | _ => .non) ((st.map Gd.nm).map D.str) fun d hd => by
    rw [List.map_map] at hd
    obtain ⟨g, hg, rfl⟩ := List.mem_map.mp hd
    refine ⟨_, rfl, ?_⟩
    have i1 := ix_tab (f := f.toTmp) (v := shE f.toTmp) ok.nd hg
    have i2 := look_at (v := shE .own) ok.nd hg
    unfold ce__law_kept_1
    simp (decide := true) [i1, i2]
  unfold cp__law_kept_1
  refine eComp_ok ei (ec.trans ?_) ?_
  · rw [List.map_map, List.map_map]
    congr 1
    apply List.map_congr_left
    intro g hg
    have i2 := look_at (v := shE .own) ok.nd hg
    simp [i2]
  · rw [List.length_map]
    exact Nat.le_trans ok.len (by decide)
theorem kept_cp2 {x1 x2 x3 : Option D} : cp__law_kept_2 [some (oD f st), x1, x2, x3] = .ok (.nd (.lst .own) (st.map fun g => D.nd .tup [.str g.nm, maE .own g])) := by
  obtain ⟨b, hb⟩ := items_crt (f := f.toTmp) (st := st)
  have ei : itV (ePr pIx [eVar 0, eC (.str "order")]) [some (oD f st), x1, x2, x3] = .ok ((st.map Gd.nm).map D.str, b) := by simp [hb]
  have ec := compL_map (tg := tgName 3) (f := ce__law_kept_2) (ρ := wipeE [some (oD f st), x1, x2, x3] [3]) (fun d => match d with | .str s => .nd .tup [.str s, (look (keysG st) (st.map (maE .own)) (.inr s)).getD .non] | _ => .non) ((st.map Gd.nm).map D.str) fun d hd => by
    rw [List.map_map] at hd
    obtain ⟨g, hg, rfl⟩ := List.mem_map.mp hd
    refine ⟨_, rfl, ?_⟩
    have i1 := ix_tab (f := f.toTmp) (v := maE f.toTmp) ok.nd hg
    have i2 := look_at (v := maE .own) ok.nd hg
    unfold ce__law_kept_2
    simp (decide := true) [i1, i2]
  unfold cp__law_kept_2
  refine eComp_ok ei (ec.trans ?_) ?_
  · rw [List.map_map, List.map_map]
    congr 1
    apply List.map_congr_left
    intro g hg
    have i2 := look_at (v := maE .own) ok.nd hg
    simp [i2]
  · rw [List.length_map]
    exact Nat.le_trans ok.len (by decide)
theorem kept_eq : m__law_kept [oD f st] = .ok (oD .frz st) := by
  have e1 := fun x1 x2 x3 => kept_cp1 (f := f) ok (x1 := x1) (x2 := x2) (x3 := x3)
  have e2 := fun x1 x2 x3 => kept_cp2 (f := f) ok (x1 := x1) (x2 := x2) (x3 := x3)
  have d1 := dictP_st (f := .own) (v := shE .own) ok.nd
  have d2 := dictP_st (f := .own) (v := maE .own) ok.nd
  have t1 : noT (tabD .own (shE .own) st) = true := allF_tab rfl fun x => allF_sh rfl
  have t2 : noT (tabD .own (maE .own) st) = true := allF_tab rfl fun x => allF_ma rfl
  have m1 : mapF Fl.toTmp (tabD .own (shE .own) st) = tabD .tmp (shE .tmp) st := mapF_tab (v := shE) fun x => mapF_sh
  have m2 : mapF Fl.toTmp (tabD .own (maE .own) st) = tabD .tmp (maE .tmp) st := mapF_tab (v := maE) fun x => mapF_ma
  have m3 : mapF Fl.tmpFrz (tabD .tmp (shE .tmp) st) = tabD .frz (shE .frz) st := mapF_tab (v := shE) fun x => mapF_sh
  have m4 : mapF Fl.tmpFrz (tabD .tmp (maE .tmp) st) = tabD .frz (maE .frz) st := mapF_tab (v := maE) fun x => mapF_ma
  unfold m__law_kept g__law_kept
  simp (decide := true) [e1, e2, d1, d2, t1, t2, m1, m2, m3, m4]
  rfl
end
end OB

namespace OB
open PySem PySem.Spec PyProof.Rows L2 PySem.NumText PySem.StrLaws Builtin.Str
abbrev frees (names L : List Str) : List Str := names.filter fun x => !decide (x ∈ L)
theorem comp_free {a i : Nat} {g : En → Ot D} {ρ : En} {names L : List Str} {b : Bool} {lf : Fl} (hi : i < ρ.length) (e : itV (eVar a) ρ = .ok (names.map D.str, b)) (hg : ∀ d, g ((ρ.set i none).set i (some d)) = .ok (.nd (.lst lf) (L.map D.str))) (hl : names.length ≤ 1000) :
    eComp (itV (eVar a)) (tgName i) (eT (ePr pNotIn [eVar i, g])) (eVar i) [i] ρ = .ok (.nd (.lst .own) ((frees names L).map D.str)) := by
  have ec := compL_filter (tg := tgName i) (c := eT (ePr pNotIn [eVar i, g])) (f := eVar i) (ρ := wipeE ρ [i]) (fun d => match d with | .str s => !decide (s ∈ L) | _ => false) id (names.map D.str) fun d hd => by
    obtain ⟨s, hs, rfl⟩ := List.mem_map.mp hd
    have gi : eVar i ((ρ.set i none).set i (some (.str s))) = .ok (.str s) := by
      unfold eVar getV
      rw [List.getElem?_set_self (by simpa using hi)]
      rfl
    refine ⟨(ρ.set i none).set i (some (.str s)), rfl, ?_, fun _ => gi⟩
    simp only [eT, ePr, eL, gi, hg, Ot.bind_ok, notIn_lstS, Ot.of_some, asB]
  refine eComp_ok e (ec.trans ?_) ?_
  · rw [List.map_id, List.filter_map]
    rfl
  · rw [List.length_map]
    exact Nat.le_trans (List.length_filter_le _ _) (Nat.le_trans hl (by decide))
theorem frees_pos {names L : List Str} (nd : names.Nodup) (h : L.length < names.length) : 0 < (frees names L).length := by
  refine Nat.pos_of_ne_zero fun h0 => ?_
  have : ∀ x ∈ names, x ∈ L := fun x hx => by
    refine Classical.byContradiction fun q => ?_
    have : x ∈ frees names L := List.mem_filter.mpr ⟨hx, by simpa using q⟩
    rw [List.eq_nil_of_length_eq_zero h0] at this
    cases this
  have := sub_len nd this
  omega
theorem pix_names {f : Fl} {names : List Str} {k : Int} (h0 : 0 ≤ k) (h1 : k < names.length) : pIx [.nd (.lst f) (names.map D.str), .int k] = some (.str (names.getD k.toNat ⟨#[]⟩)) := by
  obtain ⟨q, rfl⟩ := Int.eq_ofNat_of_zero_le h0
  have hq : q < names.length := by omega
  exact ixL (k := q) (by rw [List.getElem?_map, List.getElem?_eq_getElem hq]; simp [hq])
theorem getD_mem {names : List Str} {k : Nat} (h : k < names.length) : names.getD k ⟨#[]⟩ ∈ names := by
  rw [List.getD_eq_getElem?_getD, List.getElem?_eq_getElem h]
  exact List.getElem_mem h
@[simp] theorem stepO0 {f : Fl} {o m z : D} : stepP (O3 f o m z) (.str "order") = some 0 := rfl
@[simp] theorem stepO1 {f : Fl} {o m z : D} : stepP (O3 f o m z) (.str "marks") = some 1 := rfl
@[simp] theorem stepO2 {f : Fl} {o m z : D} : stepP (O3 f o m z) (.str "sizes") = some 2 := rfl
@[simp] theorem stepQ0 {f : Fl} {st : List Gd} : stepP (oD f st) (.str "order") = some 0 := rfl
@[simp] theorem stepQ2 {f : Fl} {st : List Gd} : stepP (oD f st) (.str "sizes") = some 2 := rfl
@[simp] theorem getO1 {f : Fl} {c s z : D} : getP (O3 f c s z) [1] = some s := by simp [getP]
@[simp] theorem getO2 {f : Fl} {c s z : D} : getP (O3 f c s z) [2] = some z := by simp [getP]
@[simp] theorem putO1 {f : Fl} {c s z e : D} : putP (O3 f c s z) [1] e = O3 f c e z := by simp [putP]
@[simp] theorem putO2 {f : Fl} {c s z e : D} : putP (O3 f c s z) [2] e = O3 f c s e := by simp [putP]
theorem puto0 {f : Fl} {st : List Gd} {e : D} : putP (oD f st) [0] e = O3 f e (tabD f (maE f) st) (tabD f (shE f) st) := by
  unfold oD
  simp [putP]
/-- the names that the marks are taken from, before doubles go -/
def mks (names : List Str) (n : Int) : List Str := (List.range (n / 300 % 7).toNat).map fun (j : Nat) => names.getD ((n / 16 + 3 * (j : Int)) % 16).toNat ⟨#[]⟩
theorem mks_ok {names : List Str} (p : Pool names) (n : Int) : (∀ m ∈ dd (mks names n), Nm m) ∧ (dd (mks names n)).Nodup ∧ (dd (mks names n)).length ≤ 6 ∧ (mks names n).length ≤ 6 := by
  have hl : (mks names n).length ≤ 6 := by
    unfold mks
    rw [List.length_map, List.length_range]
    have := Int.emod_lt_of_pos (n / 300) (show (0 : Int) < 7 by decide)
    omega
  refine ⟨fun m hm => ?_, dd_nodup _, ?_, hl⟩
  · obtain ⟨j, _, rfl⟩ := List.mem_map.mp (dd_mem.mp hm)
    refine p.nm _ (getD_mem ?_)
    rw [p.len]
    have := Int.emod_lt_of_pos (n / 16 + 3 * (j : Int)) (show (0 : Int) < 16 by decide)
    have := Int.emod_nonneg (n / 16 + 3 * (j : Int)) (show (16 : Int) ≠ 0 by decide)
    omega
  · have := List.length_filterMap_le (fun j => if (mks names n).getD j ⟨#[]⟩ ∈ (mks names n).take j then none else some ((mks names n).getD j ⟨#[]⟩)) (List.range (mks names n).length)
    rw [List.length_range] at this
    exact Nat.le_trans this hl
theorem StOk.snoc {st : List Gd} (ok : StOk st) (hl : st.length < 10) {x : Gd} (g : GdOk x) (hn : x.nm ∉ st.map Gd.nm) : StOk (st ++ [x]) := by
  refine ⟨?_, by rw [List.length_append, List.length_singleton]; omega, fun y hy => ?_⟩
  · rw [List.map_append, List.nodup_append]
    refine ⟨ok.nd, by simp, fun a ha b hb e => ?_⟩
    have : b = x.nm := by simpa using hb
    subst this; subst e
    exact hn ha
  · rcases List.mem_append.mp hy with h | h
    · exact ok.ok y h
    · have : y = x := by simpa using h
      rw [this]; exact g
end OB

namespace OB
open PySem PySem.Spec PyProof.Rows L2 PySem.NumText PySem.StrLaws Builtin.Str
/-- the slots of _law_put -/
abbrev PE12 (g o p : D) (c k : Int) (f n x m h : Option D) : En := [some g, some o, some p, some (.int c), some (.int k), f, n, x, m, h, none, none]
abbrev sl (l : List Str) : D := .nd (.lst .own) (l.map D.str)
section
variable {st : List Gd} {names F M ms : List Str} {pf : Fl} {c k n : Int} {x : Str} {G P : D}
theorem put_c1 (hpt : pf.toTmp = pf) (hpn : pf ≠ .tmp) (hl : names.length ≤ 1000) : cp__law_put_1 (PE12 G (oD .own st) (.nd (.lst pf) (names.map D.str)) c k none none none none none) = .ok (sl (frees names (st.map Gd.nm))) := by
  unfold cp__law_put_1 cc__law_put_1
  refine comp_free (ρ := PE12 G (oD .own st) (.nd (.lst pf) (names.map D.str)) c k none none none none none) (names := names) (L := st.map Gd.nm) (b := true) (lf := .tmp) (by simp) ?_ (fun d => ?_) hl
  · simp [itemsD, hpt, hpn]
  · simp [crD]
theorem put_c2a {O : D} {f x : Option D} {q : Nat} (hq : n / 300 % 7 = q) (hq7 : q < 7) [Bd n 30] : itR1 [ePr pMod [ePr pDiv [eVar 6, eC (.int 300)], eC (.int 7)]] (PE12 G O P c k f (some (.int n)) x none none) = .ok (rngD 0 q, true) := by
  have hr := rng_nat (n := q) (by omega)
  have h1 : pDiv [.int n, .int 300] = some (.int (n / 300)) := divI (by decide) (by decide)
  have h2 : pMod [.int (n / 300), .int 7] = some (.int (n / 300 % 7)) := modI (by decide)
  have e : eL [ePr pMod [ePr pDiv [eVar 6, eC (.int 300)], eC (.int 7)]] (PE12 G O P c k f (some (.int n)) x none none) = .ok [.int q] := by
    simp [h1, h2, hq]
  unfold itR1
  rw [e, Ot.bind_ok]
  dsimp only
  rw [if_pos hr]
theorem put_c2b {O : D} {f x : Option D} {j : Nat} (p : Pool names) (hpt : pf.toTmp = pf) (hj : j < 7) [Bd n 30] : ce__law_put_1 ((wipeE (PE12 G O (.nd (.lst pf) (names.map D.str)) c k f (some (.int n)) x none none) [10]).set 10 (some (.int j))) = .ok (D.str (names.getD ((n / 16 + 3 * (j : Int)) % 16).toNat ⟨#[]⟩)) := by
  haveI : Bd (j : Int) 20 := bd_range (c := 1000) (by omega) (by decide)
  have ep := pix_names (f := pf) (names := names) (k := (n / 16 + 3 * (j : Int)) % 16) (Int.emod_nonneg _ (by decide)) (by rw [p.len]; exact Int.emod_lt_of_pos _ (by decide))
  have l16' : names.length = 16 := p.len
  simp at ep
  unfold ce__law_put_1
  simp (decide := true) [hpt, l16', ep]
theorem put_c2 {O : D} {f x : Option D} (p : Pool names) (hpt : pf.toTmp = pf) (h0 : 0 ≤ n) (h1 : n < 1073741824) : cp__law_put_2 (PE12 G O (.nd (.lst pf) (names.map D.str)) c k f (some (.int n)) x none none) = .ok (sl (mks names n)) := by
  haveI : Bd n 30 := bd_range (c := 1073741823) (by omega) (by decide)
  obtain ⟨q, hq⟩ : ∃ q : Nat, n / 300 % 7 = q := ⟨(n / 300 % 7).toNat, by have := Int.emod_nonneg (n / 300) (show (7 : Int) ≠ 0 by decide); omega⟩
  have hq7 : q < 7 := by have := Int.emod_lt_of_pos (n / 300) (show (0 : Int) < 7 by decide); omega
  have hl : ((mks names n).map D.str).length ≤ sizeLine := by
    rw [List.length_map]
    exact Nat.le_trans (mks_ok p n).2.2.2 (by decide)
  have e := comp_rngD (f := ce__law_put_1) (ρ := wipeE (PE12 G O (.nd (.lst pf) (names.map D.str)) c k f (some (.int n)) x none none) [10]) (i := 10) (n := q) (fun j => D.str (names.getD ((n / 16 + 3 * (j : Int)) % 16).toNat ⟨#[]⟩)) fun j hj => put_c2b p hpt (by omega)
  have em : (mks names n).map D.str = (List.range q).map fun (j : Nat) => D.str (names.getD ((n / 16 + 3 * (j : Int)) % 16).toNat ⟨#[]⟩) := by
    unfold mks
    rw [List.map_map, hq, Int.toNat_natCast]
    rfl
  unfold cp__law_put_2
  rw [← em] at e
  exact eComp_ok (put_c2a hq hq7) e hl
theorem put_c3 {O : D} {f n x : Option D} (hM : M.length ≤ 6) : cp__law_put_3 (PE12 G O P c k f n x (some (sl M)) none) = .ok (sl (dd M)) := by
  unfold cp__law_put_3 cc__law_put_2
  have ei : itEnum [eVar 8] (PE12 G O P c k f n x (some (sl M)) none) = .ok (enumD (M.map D.str), false) := by
    unfold itEnum
    simp [listOf]
    rfl
  have hd : (dd M).length ≤ M.length := by
    have := List.length_filterMap_le (fun j => if M.getD j ⟨#[]⟩ ∈ M.take j then none else some (M.getD j ⟨#[]⟩)) (List.range M.length)
    rw [List.length_range] at this
    exact this
  exact eComp_ok ei (comp_dd (ρ := PE12 G O P c k f n x (some (sl M)) none) (i := 10) (j := 11) (k := 8) (by decide) (by decide) (by decide) (by simp) (by simp) rfl (by omega) (by decide)) (by rw [List.length_map]; exact Nat.le_trans hd (Nat.le_trans hM (by decide)))
theorem put_s3 {f n m : Option D} (hl : st.length < 10) : st__law_put_3 (PE12 G (oD .own st) P c k f n (some (.str x)) m none) = some (.nx, PE12 G (O3 .own (.nd (.lst .own) ((st.map Gd.nm).map D.str ++ [.str x])) (tabD .own (maE .own) st) (tabD .own (shE .own) st)) P c k f n (some (.str x)) m none) := by
  have c0 : getP (oD .own st) [0] = some (.nd (.lst .own) ((st.map Gd.nm).map D.str)) := rfl
  have a0 := oApp_eq (es := (st.map Gd.nm).map D.str) (d := .str x) (by simp; omega)
  unfold st__law_put_3
  generalize (st.map Gd.nm).map D.str = LL at c0 a0 ⊢
  simp (decide := true) [c0, a0, puto0]
theorem put_s4 {f n : Option D} {o z : D} (hl : st.length < 10) (hx : x ∉ st.map Gd.nm) : st__law_put_4 (PE12 G (O3 .own o (tabD .own (maE .own) st) z) P c k f n (some (.str x)) (some (sl ms)) none) =
    some (.nx, PE12 G (O3 .own o (.nd (.dct .own (keysG st ++ [.inr x])) (st.map (maE .own) ++ [sl ms])) z) P c k f n (some (.str x)) (some (sl ms)) none) := by
  have p1 := put_new (v := maE .own) (e := sl ms) hx (by omega)
  have t1 : tabD .own (maE .own) st = .nd (.dct .own (keysG st)) (st.map (maE .own)) := rfl
  unfold st__law_put_4
  simp (decide := true) [t1, p1, Kd.isOwn, Kd.fl]
theorem put_s5 {f n m : Option D} {o z : D} (hl : st.length < 10) (hx : x ∉ st.map Gd.nm) : st__law_put_5 (PE12 G (O3 .own o z (tabD .own (shE .own) st)) P c k f n (some (.str x)) m none) =
    some (.nx, PE12 G (O3 .own o z (.nd (.dct .own (keysG st ++ [.inr x])) (st.map (shE .own) ++ [.nd (.lst .own) []]))) P c k f n (some (.str x)) m none) := by
  have p1 := put_new (v := shE .own) (e := .nd (.lst .own) []) hx (by omega)
  have t1 : tabD .own (shE .own) st = .nd (.dct .own (keysG st)) (st.map (shE .own)) := rfl
  unfold st__law_put_5
  simp (decide := true) [t1, p1, Kd.isOwn, Kd.fl]
end
end OB

namespace OB
open PySem PySem.Spec PyProof.Rows L2 PySem.NumText PySem.StrLaws Builtin.Str
section
variable {st : List Gd} {names F ms : List Str} {pf : Fl} {c k n : Int} {x : Str} {G P : D}
/-- the slots behind the choice -/
abbrev PE2 (G O P : D) (c k n : Int) (F ms : List Str) (x : Str) (h : Option D) : En := PE12 G O P c k (some (sl F)) (some (.int n)) (some (.str x)) (some (sl ms)) h
theorem put_head (p : Pool names) (hpt : pf.toTmp = pf) (hpn : pf ≠ .tmp) (hl : st.length < 10) (ed : m__law_draw [.int c, .int k, .int 1] = .ok (.int n)) (h0 : 0 ≤ n) (h1 : n < 1073741824)
    (eF : frees names (st.map Gd.nm) = F) (em : dd (mks names n) = ms) (ex : pIx [.nd (.lst .tmp) (F.map D.str), .int (n % F.length)] = some (.str x)) (hF : 0 < F.length) (hx : x ∉ st.map Gd.nm) {r : Mst} :
    sSeq (sSet 5 cp__law_put_1) (sSeq st__law_put_1 (sSeq st__law_put_2 (sSeq (sSet 8 cp__law_put_2) (sSeq (sSet 8 cp__law_put_3) (sSeq st__law_put_3 (sSeq st__law_put_4 (sSeq st__law_put_5 r))))))) (PE12 G (oD .own st) (.nd (.lst pf) (names.map D.str)) c k none none none none none) =
    r (PE2 G (oD .own (st ++ [⟨x, ms, []⟩])) (.nd (.lst pf) (names.map D.str)) c k n F ms x none) := by
  have c1 := put_c1 (st := st) (names := names) (c := c) (k := k) (G := G) hpt hpn (by rw [p.len]; decide)
  rw [eF] at c1
  have c2 := put_c2 (c := c) (k := k) (G := G) (O := oD .own st) (f := some (sl F)) (x := some (.str x)) p hpt h0 h1
  have c3 := put_c3 (c := c) (k := k) (G := G) (O := oD .own st) (P := .nd (.lst pf) (names.map D.str)) (f := some (sl F)) (n := some (.int n)) (x := some (.str x)) (mks_ok p n).2.2.2
  rw [em] at c3
  have hF' : (0 : Int) < F.length := by omega
  have so : oD .own (st ++ [⟨x, ms, []⟩]) = O3 .own (.nd (.lst .own) ((st.map Gd.nm).map D.str ++ [.str x])) (.nd (.dct .own (keysG st ++ [.inr x])) (st.map (maE .own) ++ [sl ms])) (.nd (.dct .own (keysG st ++ [.inr x])) (st.map (shE .own) ++ [.nd (.lst .own) []])) := snoc_oD
  have q2 : st__law_put_2 (PE12 G (oD .own st) (.nd (.lst pf) (names.map D.str)) c k (some (sl F)) (some (.int n)) none none none) = some (.nx, PE12 G (oD .own st) (.nd (.lst pf) (names.map D.str)) c k (some (sl F)) (some (.int n)) (some (.str x)) none none) := by
    have hm : pMod [.int n, .int F.length] = some (.int (n % F.length)) := modI hF'
    have el : pLen [.nd (.lst .tmp) (F.map D.str)] = some (.int F.length) := by rw [lenL, List.length_map]
    have e : ePr pIx [eVar 5, ePr pMod [eVar 6, ePr pLen [eVar 5]]] (PE12 G (oD .own st) (.nd (.lst pf) (names.map D.str)) c k (some (sl F)) (some (.int n)) none none none) = .ok (.str x) := by
      have v5 : eVar 5 (PE12 G (oD .own st) (.nd (.lst pf) (names.map D.str)) c k (some (sl F)) (some (.int n)) none none none) = .ok (.nd (.lst .tmp) (F.map D.str)) := by simp
      have v6 : eVar 6 (PE12 G (oD .own st) (.nd (.lst pf) (names.map D.str)) c k (some (sl F)) (some (.int n)) none none none) = .ok (.int n) := by simp
      simp only [ePr, eL, v5, v6, Ot.bind_ok, el, hm, Ot.of_some, ex]
    unfold st__law_put_2
    rw [sSet_ok e rfl]
    rfl
  rw [sSeq_nx (ρ1 := PE12 G (oD .own st) (.nd (.lst pf) (names.map D.str)) c k (some (sl F)) none none none none) (by rw [sSet_ok c1 (by simp)]; rfl)]
  rw [sSeq_nx (ρ1 := PE12 G (oD .own st) (.nd (.lst pf) (names.map D.str)) c k (some (sl F)) (some (.int n)) none none none) (by unfold st__law_put_1; simp (decide := true) [ed])]
  rw [sSeq_nx q2]
  rw [sSeq_nx (ρ1 := PE12 G (oD .own st) (.nd (.lst pf) (names.map D.str)) c k (some (sl F)) (some (.int n)) (some (.str x)) (some (sl (mks names n))) none) (by rw [sSet_ok c2 (by simp)]; rfl)]
  rw [sSeq_nx (ρ1 := PE12 G (oD .own st) (.nd (.lst pf) (names.map D.str)) c k (some (sl F)) (some (.int n)) (some (.str x)) (some (sl ms)) none) (by rw [sSet_ok c3 (by simp)]; rfl)]
  rw [sSeq_nx (put_s3 hl), sSeq_nx (put_s4 hl hx), sSeq_nx (put_s5 hl hx), so]
end
end OB

namespace OB
open PySem PySem.Spec PyProof.Rows L2 PySem.NumText PySem.StrLaws Builtin.Str
@[simp] theorem oh_put {f : Fl} {st : List Gd} : objHas "Goods" "put_good" (gD f st) = true := objHas_gD (by decide)
@[simp] theorem oh_putm {f : Fl} {st : List Gd} : objHas "Goods" "put_measure" (gD f st) = true := objHas_gD (by decide)
section
variable {st : List Gd} {names F ms : List Str} {pf : Fl} {c k n : Int} {x : Str} {O P : D}
theorem put_x0 (hms : ms = []) (pg : m_Goods_put_good [gD .own st, .str x, .non] = some (.ok .non, [gD .own (st ++ [⟨x, [], []⟩])])) :
    xL pIs (xMeth "Goods" "put_good" m_Goods_put_good [.pl 0 pHere, .hd (eVar 7)] [.non]) (eC .non) (PE2 (gD .own st) O P c k n F ms x none) = some (.ok (.bl true), PE2 (gD .own (st ++ [⟨x, ms, []⟩])) O P c k n F ms x none) := by
  subst hms
  simp (decide := true) [pg]
theorem put_x1 (pg : m_Goods_put_good [gD .own st, .str x, .nd (.lst .bor) (ms.map D.str)] = some (.ok .non, [gD .own (st ++ [⟨x, ms, []⟩])])) :
    xL pIsN (xMeth "Goods" "put_good" m_Goods_put_good [.pl 0 pHere, .hd (eVar 7), .hd (eVar 9)] []) (eC .non) (PE2 (gD .own st) O P c k n F ms x (some (sl ms))) = some (.ok (.bl false), PE2 (gD .own (st ++ [⟨x, ms, []⟩])) O P c k n F ms x (some (sl ms))) := by
  simp (decide := true) [pg]
theorem law_put_eq (ok : StOk st) (hl : st.length < 10) (p : Pool names) (hp : pf = .bor ∨ pf = .frz) (hk : 0 ≤ k ∧ k ≤ 1000) :
    ∃ x ms, GdOk ⟨x, ms, []⟩ ∧ x ∉ st.map Gd.nm ∧ m__law_put [gD .own st, oD .own st, .nd (.lst pf) (names.map D.str), .int c, .int k] = some (.ok (.bl true), [gD .own (st ++ [⟨x, ms, []⟩]), oD .own (st ++ [⟨x, ms, []⟩])]) := by
  haveI : Bd k 20 := bd_range (c := 1000) (by omega) (by decide)
  haveI : Bd (1 : Int) 20 := ⟨by decide⟩
  have hpt : pf.toTmp = pf := by rcases hp with rfl | rfl <;> rfl
  have hpn : pf ≠ .tmp := by rcases hp with rfl | rfl <;> decide
  have ed := draw_eq (c := c) (k := k) (j := 1)
  obtain ⟨n0, n1⟩ := dr_range c k 1
  generalize dr c k 1 = n at ed n0 n1
  haveI : Bd n 30 := bd_range (c := 1073741823) (by omega) (by decide)
  obtain ⟨F, eF⟩ : ∃ F, frees names (st.map Gd.nm) = F := ⟨_, rfl⟩
  obtain ⟨ms, em⟩ : ∃ ms, dd (mks names n) = ms := ⟨_, rfl⟩
  have hF : 0 < F.length := by rw [← eF]; exact frees_pos p.nd (by rw [p.len, List.length_map]; omega)
  obtain ⟨x, hxF, ex⟩ := pick_str (f := .tmp) (vs := F) (k := n % F.length) (Int.emod_nonneg _ (by omega)) (Int.emod_lt_of_pos _ (by omega))
  have hx : x ∈ names ∧ x ∉ st.map Gd.nm := by
    rw [← eF] at hxF
    have := List.mem_filter.mp hxF
    exact ⟨this.1, by simpa using this.2⟩
  obtain ⟨m1, m2, m3, _⟩ := mks_ok p n
  rw [em] at m1 m2 m3
  have g : GdOk ⟨x, ms, []⟩ := ⟨p.nm x hx.1, m1, m2, m3, (fun _ h => nomatch h), List.nodup_nil, by simp, (fun _ h => nomatch h)⟩
  refine ⟨x, ms, g, hx.2, ?_⟩
  have okS : ∀ s ∈ ms, OkS s 12 := fun s hs => (m1 s hs).ok
  have hh := fun r : Mst => put_head (st := st) (G := gD .own st) p hpt hpn hl ed n0 n1 eF em ex hF hx.2 (r := r)
  show bodyMM 12 [0, 1] g__law_put _ = _
  rw [bodyMM_eq]
  have ei : initE 12 [gD .own st, oD .own st, .nd (.lst pf) (names.map D.str), .int c, .int k] = PE12 (gD .own st) (oD .own st) (.nd (.lst pf) (names.map D.str)) c k none none none none none := rfl
  rw [ei]
  have eg : g__law_put (PE12 (gD .own st) (oD .own st) (.nd (.lst pf) (names.map D.str)) c k none none none none none) = sSeq st__law_put_6 (sSeq (sSet 9 (ePr pList3 [eVar 8])) (sSeq st__law_put_7 (sSeq (sMut 9 pHere mApp (eL [eC (.str "more")])) (sRet (eC (.bl true)))))) (PE2 (gD .own st) (oD .own (st ++ [⟨x, ms, []⟩])) (.nd (.lst pf) (names.map D.str)) c k n F ms x none) := hh _
  rw [eg]
  have q1 := pEq_nil (f := .tmp) (g := .own) okS
  have q2 := pNe_refl (f := .tmp) (g := .tmp) okS
  by_cases hc : ms = [] ∧ n % 2 = 1
  · have pg := put_good0 ok hl g.nm hx.2
    have e0 := put_x0 (O := oD .own (st ++ [⟨x, ms, []⟩])) (P := .nd (.lst pf) (names.map D.str)) (c := c) (k := k) (n := n) (F := F) hc.1 pg
    have e6 : st__law_put_6 (PE2 (gD .own st) (oD .own (st ++ [⟨x, ms, []⟩])) (.nd (.lst pf) (names.map D.str)) c k n F ms x none) = some (.ret (.bl true), PE2 (gD .own (st ++ [⟨x, ms, []⟩])) (oD .own (st ++ [⟨x, ms, []⟩])) (.nd (.lst pf) (names.map D.str)) c k n F ms x none) := by
      unfold st__law_put_6
      rw [sIf_t]
      · rw [xOn_eq, e0]
      · rw [hc.1]
        simp (decide := true) [hc.2]
    rw [sSeq_ret e6]
    rfl
  · have pg := put_good1 ok hl g.nm hx.2 (f := .bor) (.inl rfl) m1 m2 m3
    have e1 := put_x1 (O := oD .own (st ++ [⟨x, ms, []⟩])) (P := .nd (.lst pf) (names.map D.str)) (c := c) (k := k) (n := n) (F := F) pg
    have e6 : st__law_put_6 (PE2 (gD .own st) (oD .own (st ++ [⟨x, ms, []⟩])) (.nd (.lst pf) (names.map D.str)) c k n F ms x none) = some (.nx, PE2 (gD .own st) (oD .own (st ++ [⟨x, ms, []⟩])) (.nd (.lst pf) (names.map D.str)) c k n F ms x none) := by
      unfold st__law_put_6
      rw [sIf_f]
      · rfl
      · by_cases h1 : ms.isEmpty = true
        · have h2 : ¬ n % 2 = 1 := fun q => hc ⟨List.isEmpty_iff.mp h1, q⟩
          simp (decide := true) [q1, h1, h2]
        · simp (decide := true) [q1, h1]
    rw [sSeq_nx e6]
    rw [sSeq_nx (ρ1 := PE2 (gD .own st) (oD .own (st ++ [⟨x, ms, []⟩])) (.nd (.lst pf) (names.map D.str)) c k n F ms x (some (sl ms))) (by simp (decide := true))]
    rw [sSeq_nx (ρ1 := PE2 (gD .own (st ++ [⟨x, ms, []⟩])) (oD .own (st ++ [⟨x, ms, []⟩])) (.nd (.lst pf) (names.map D.str)) c k n F ms x (some (sl ms))) (by
      unfold st__law_put_7
      rw [sIfX_eq, xOrT_eq, xTr_eq, e1]
      simp (decide := true) [q2])]
    have e9 : sMut 9 pHere mApp (eL [eC (.str "more")]) (PE2 (gD .own (st ++ [⟨x, ms, []⟩])) (oD .own (st ++ [⟨x, ms, []⟩])) (.nd (.lst pf) (names.map D.str)) c k n F ms x (some (sl ms))) = some (.nx, PE2 (gD .own (st ++ [⟨x, ms, []⟩])) (oD .own (st ++ [⟨x, ms, []⟩])) (.nd (.lst pf) (names.map D.str)) c k n F ms x (some (.nd (.lst .own) (ms.map D.str ++ [.str "more"])))) := by
      have hz : ms.length < sizeLine := Nat.lt_of_le_of_lt m3 (by decide)
      simp (decide := true) [sMut, placeOf, Kd.isOwn, Kd.fl, mApp, putAt, hz]
    rw [sSeq_nx e9]
    rfl
end
end OB

namespace OB
open PySem PySem.Spec PyProof.Rows L2 PySem.NumText PySem.StrLaws Builtin.Str
theorem am_ok {t s : Int} (h : 1 ≤ t ∧ t ≤ 1000000000000 ∧ 1 ≤ s ∧ s ≤ 1000000) : Am (loN t s) (loD t s) := by
  have hg : 0 < Int.gcd t s := gcd_pos (by omega)
  have e1 : sgn s = 1 := by unfold sgn; rw [if_pos (by omega)]
  obtain ⟨u, hu⟩ := Int.gcd_dvd_left (a := t) (b := s)
  obtain ⟨v, hv⟩ := Int.gcd_dvd_right (a := t) (b := s)
  have hgi : ((Int.gcd t s : Nat) : Int) ≠ 0 := by omega
  have n1 : loN t s = u := by
    unfold loN
    rw [e1, Int.one_mul]
    conv => lhs; lhs; rw [hu]
    exact Int.mul_ediv_cancel_left _ hgi
  have n2 : loD t s = v := by
    unfold loD
    rw [e1, Int.one_mul]
    conv => lhs; lhs; rw [hv]
    exact Int.mul_ediv_cancel_left _ hgi
  have r := am_rt h
  have hgp : (1 : Int) ≤ (Int.gcd t s : Nat) := by omega
  have u1 : 1 ≤ u := by
    refine Int.pos_of_mul_pos_right (a := ((Int.gcd t s : Nat) : Int)) ?_ (by omega) 
    rw [← hu]; omega
  have v1 : 1 ≤ v := by
    refine Int.pos_of_mul_pos_right (a := ((Int.gcd t s : Nat) : Int)) ?_ (by omega)
    rw [← hv]; omega
  have u2 : u ≤ t := by
    have := Int.mul_le_mul_of_nonneg_right hgp (show 0 ≤ u by omega)
    rw [Int.one_mul, ← hu] at this
    exact this
  have v2 : v ≤ s := by
    have := Int.mul_le_mul_of_nonneg_right hgp (show 0 ≤ v by omega)
    rw [Int.one_mul, ← hv] at this
    exact this
  exact ⟨r, by rw [n1]; exact u1, by rw [n1]; omega, by rw [n2]; omega⟩
theorem StOk.set {st : List Gd} (ok : StOk st) {x x' : Gd} {j : Nat} (h : st[j]? = some x) (e : x'.nm = x.nm) (g : GdOk x') : StOk (st.set j x') := by
  refine ⟨by rw [set_nm h e]; exact ok.nd, by rw [List.length_set]; exact ok.len, fun y hy => ?_⟩
  rcases List.mem_or_eq_of_mem_set hy with q | q
  · exact ok.ok y q
  · rw [q]; exact g
abbrev DE (G O P : D) (c k : Int) (n x kn fr pr : Option D) : En := [some G, some O, some P, some (.int c), some (.int k), n, x, kn, fr, pr, none]
section
variable {st : List Gd} {names : List Str} {pf : Fl} {c k n : Int} {x : Gd} {G P : D}
theorem deed_known {nn fr pr : Option D} (ok : StOk st) (h : x ∈ st) : cp__law_deed_1 (DE G (oD .own st) P c k nn (some (.str x.nm)) fr pr none) = .ok (sl (x.sizes.map (·.1))) := by
  have i1 := ix_tab (f := .tmp) (v := shE .tmp) ok.nd h
  have g := ok.ok x h
  have ei : ∃ b, itV (ePr pIx [ePr pIx [eVar 1, eC (.str "sizes")], eVar 6]) (DE G (oD .own st) P c k nn (some (.str x.nm)) fr pr none) = .ok (x.sizes.map fun p => D.nd .tup [.str p.1, ratD p.2.1 p.2.2], b) := by
    refine ⟨false && (x.sizes.map fun p => D.nd .tup [.str p.1, ratD p.2.1 p.2.2]).all noT, ?_⟩
    simp [i1]
    unfold shE itemsD
    simp
  obtain ⟨b, ei⟩ := ei
  have ec := compL_map (tg := tgName 9) (f := ce__law_deed_1) (ρ := wipeE (DE G (oD .own st) P c k nn (some (.str x.nm)) fr pr none) [9]) (fun d => match d with | .nd .tup (a :: _) => a | _ => .non) (x.sizes.map fun p => D.nd .tup [.str p.1, ratD p.2.1 p.2.2]) fun d hd => by
    obtain ⟨p, hp, rfl⟩ := List.mem_map.mp hd
    refine ⟨_, rfl, ?_⟩
    unfold ce__law_deed_1
    simp
  unfold cp__law_deed_1
  refine eComp_ok ei (ec.trans ?_) (by rw [List.length_map, List.length_map]; exact Nat.le_trans g.sl (by decide))
  rw [List.map_map, List.map_map]
  rfl
theorem deed_free {O : D} {nn xx pr : Option D} {K : List Str} (hpt : pf.toTmp = pf) (hpn : pf ≠ .tmp) (hl : names.length ≤ 1000) : cp__law_deed_2 (DE G O (.nd (.lst pf) (names.map D.str)) c k nn xx (some (sl K)) pr none) = .ok (sl (frees names K)) := by
  unfold cp__law_deed_2 cc__law_deed_1
  refine comp_free (ρ := DE G O (.nd (.lst pf) (names.map D.str)) c k nn xx (some (sl K)) pr none) (names := names) (L := K) (b := true) (lf := .tmp) (by simp) ?_ (fun d => ?_) hl
  · simp [itemsD, hpt, hpn]
  · simp
end
end OB

namespace OB
open PySem PySem.Spec PyProof.Rows L2 PySem.NumText PySem.StrLaws Builtin.Str
section
variable {st : List Gd} {names : List Str} {pf : Fl} {c k n : Int} {x : Gd} {G P : D}
theorem deed_put {r : Ot D × List D} {g2 o2 : D} (hpt : pf.toTmp = pf) (hpa : pf.toArg = pf) (e : m__law_put [gD .own st, oD .own st, .nd (.lst pf) (names.map D.str), .int c, .int k] = some (.ok (.bl true), [g2, o2])) (h1 : noB g2 = true) (h2 : noB o2 = true) {nn : Option D} :
    xCall m__law_put [.pl 0 pHere, .pl 1 pHere, .hd (eVar 2), .hd (eVar 3), .hd (eVar 4)] [] (DE (gD .own st) (oD .own st) (.nd (.lst pf) (names.map D.str)) c k nn none none none none) = some (.ok (.bl true), DE g2 o2 (.nd (.lst pf) (names.map D.str)) c k nn none none none none) := by
  simp (decide := true) [hpt, hpa, e, h1, h2]
theorem shE_snoc {f : Fl} {m : Str} {a b : Int} : shE f ⟨x.nm, x.marks, x.sizes ++ [(m, a, b)]⟩ = .nd (.lst f) ((x.sizes.map fun p => D.nd .tup [.str p.1, ratD p.2.1 p.2.2]) ++ [D.nd .tup [.str m, ratD a b]]) := by
  simp [shE]
theorem deed_6 {nn kn fr : Option D} {m : Str} {a b : Int} {j : Nat} (hj : At st x j) (hl : x.sizes.length < 6) : st__law_deed_6 (DE G (oD .own st) P c k nn (some (.str x.nm)) kn fr (some (.nd .tup [.str m, ratD a b]))) =
    some (.nx, DE G (oD .own (st.set j ⟨x.nm, x.marks, x.sizes ++ [(m, a, b)]⟩)) P c k nn (some (.str x.nm)) kn fr (some (.nd .tup [.str m, ratD a b]))) := by
  have g2 := getP_o2j (f := .own) hj.2
  have e1 := hj.1
  have po := put_oD (f := .own) (x' := ⟨x.nm, x.marks, x.sizes ++ [(m, a, b)]⟩) hj.2 rfl rfl
  rw [shE_snoc] at po
  have sh : shE .own x = .nd (.lst .own) (x.sizes.map fun p => D.nd .tup [.str p.1, ratD p.2.1 p.2.2]) := rfl
  rw [sh] at g2
  have a0 := oApp_eq (es := x.sizes.map fun p => D.nd .tup [.str p.1, ratD p.2.1 p.2.2]) (d := .nd .tup [.str m, ratD a b]) (by rw [List.length_map]; omega)
  have sd : subD (DE G (oD .own st) P c k nn (some (.str x.nm)) kn fr (some (.nd .tup [.str m, ratD a b]))) 1 (πIx 1 (πIx 1 pHere (eC (.str "sizes"))) (eVar 6)) = some (oD .own st, [2, j], .nd (.lst .own) (x.sizes.map fun p => D.nd .tup [.str p.1, ratD p.2.1 p.2.2])) := by
    have g0 : getP (oD .own st) [2] = some (tabD .own (shE .own) st) := rfl
    simp [e1, g2, g0]
  unfold st__law_deed_6
  rw [xOn_eq, xBm_eq, sd]
  simp (decide := true) [-subD_row, a0, po]
theorem deed_7 {O : D} {nn kn fr : Option D} {m : Str} {a b : Int} {st' : List Gd} (pm : m_Goods_put_measure [gD .own st, .str x.nm, .str m, ratD a b] = some (.ok .non, [gD .own st'])) : st__law_deed_7 (DE (gD .own st) O P c k nn (some (.str x.nm)) kn fr (some (.nd .tup [.str m, ratD a b]))) =
    some (.ret (.bl true), DE (gD .own st') O P c k nn (some (.str x.nm)) kn fr (some (.nd .tup [.str m, ratD a b]))) := by
  unfold st__law_deed_7
  simp (decide := true) [pm]
theorem order_nil {f : Fl} (ok : StOk st) : pEq [crD f st, .nd (.lst .own) []] = some (.bl st.isEmpty) := by
  have := pEq_nil (f := f) (g := .own) (n := 12) (ss := st.map Gd.nm) fun s hs => by
    obtain ⟨g, hg, rfl⟩ := List.mem_map.mp hs
    exact (ok.ok g hg).nm.ok
  have e : (st.map Gd.nm).isEmpty = st.isEmpty := by cases st <;> rfl
  rw [e] at this
  exact this
theorem law_deed_eq (ok : StOk st) (p : Pool names) (hp : pf = .bor ∨ pf = .frz) (hk : 0 ≤ k ∧ k ≤ 1000) :
    ∃ st', StOk st' ∧ m__law_deed [gD .own st, oD .own st, .nd (.lst pf) (names.map D.str), .int c, .int k] = some (.ok (.bl true), [gD .own st', oD .own st']) := by
  haveI : Bd k 20 := bd_range (c := 1000) (by omega) (by decide)
  haveI : Bd (0 : Int) 20 := ⟨by decide⟩
  haveI : Bd (2 : Int) 20 := ⟨by decide⟩
  have hpt : pf.toTmp = pf := by rcases hp with rfl | rfl <;> rfl
  have hpa : pf.toArg = pf := by rcases hp with rfl | rfl <;> rfl
  have hpn : pf ≠ .tmp := by rcases hp with rfl | rfl <;> decide
  have ed := draw_eq (c := c) (k := k) (j := 0)
  obtain ⟨n0, n1⟩ := dr_range c k 0
  generalize dr c k 0 = n at ed n0 n1
  haveI : Bd n 30 := bd_range (c := 1073741823) (by omega) (by decide)
  have on := order_nil (f := .tmp) ok
  have ei : initE 11 [gD .own st, oD .own st, .nd (.lst pf) (names.map D.str), .int c, .int k] = DE (gD .own st) (oD .own st) (.nd (.lst pf) (names.map D.str)) c k none none none none none := rfl
  have s1 : st__law_deed_1 (DE (gD .own st) (oD .own st) (.nd (.lst pf) (names.map D.str)) c k none none none none none) = some (.nx, DE (gD .own st) (oD .own st) (.nd (.lst pf) (names.map D.str)) c k (some (.int n)) none none none none) := by
    unfold st__law_deed_1
    simp (decide := true) [ed]
  by_cases hc : st = [] ∨ (n % 3 = 0 ∧ st.length < 10)
  · have hl : st.length < 10 := by
      rcases hc with h | h
      · rw [h]; decide
      · exact h.2
    obtain ⟨x, ms, g, hx, e⟩ := law_put_eq (c := c) ok hl p hp hk
    refine ⟨_, ok.snoc hl g hx, ?_⟩
    have ep := deed_put (r := (.ok (.bl true), [])) hpt hpa e noB_gD noB_oD (nn := some (.int n))
    have s2 : st__law_deed_2 (DE (gD .own st) (oD .own st) (.nd (.lst pf) (names.map D.str)) c k (some (.int n)) none none none none) = some (.ret (.bl true), DE (gD .own (st ++ [⟨x, ms, []⟩])) (oD .own (st ++ [⟨x, ms, []⟩])) (.nd (.lst pf) (names.map D.str)) c k (some (.int n)) none none none none) := by
      unfold st__law_deed_2
      rw [sIf_t]
      · rw [xOn_eq, ep]
      · rcases hc with h | h
        · have h1 : st.isEmpty = true := by rw [h]; rfl
          simp (decide := true) [on, h1]
        · have h1 : (st.length : Int) < 10 := by omega
          by_cases h2 : st.isEmpty = true
          · simp (decide := true) [on, h2]
          · simp (decide := true) [on, h2, h.1, h1]
    show bodyMM 11 [0, 1] g__law_deed _ = _
    rw [bodyMM_eq, ei]
    unfold g__law_deed
    rw [sSeq_nx s1, sSeq_ret s2]
    rfl
  · have hne : st ≠ [] := fun q => hc (.inl q)
    have s2 : st__law_deed_2 (DE (gD .own st) (oD .own st) (.nd (.lst pf) (names.map D.str)) c k (some (.int n)) none none none none) = some (.nx, DE (gD .own st) (oD .own st) (.nd (.lst pf) (names.map D.str)) c k (some (.int n)) none none none none) := by
      unfold st__law_deed_2
      rw [sIf_f]
      · rfl
      · have h1 : st.isEmpty = false := by cases st with
          | nil => exact absurd rfl hne
          | cons _ _ => rfl
        by_cases h2 : n % 3 = 0
        · have h3 : ¬ (st.length : Int) < 10 := fun q => hc (.inr ⟨h2, by omega⟩)
          simp (decide := true) [on, h1, h2, h3]
        · simp (decide := true) [on, h1, h2]
    have hpos : 0 < st.length := List.length_pos_iff.mpr hne
    obtain ⟨v, hv, ex⟩ := pick_str (f := .tmp) (vs := st.map Gd.nm) (k := n / 3 % st.length) (Int.emod_nonneg _ (by omega)) (by rw [List.length_map]; exact Int.emod_lt_of_pos _ (by omega))
    obtain ⟨x, hx, rfl⟩ := List.mem_map.mp hv
    obtain ⟨j, hj⟩ := at_of ok.nd hx
    have g := ok.ok x hx
    have s3 : st__law_deed_3 (DE (gD .own st) (oD .own st) (.nd (.lst pf) (names.map D.str)) c k (some (.int n)) none none none none) = some (.nx, DE (gD .own st) (oD .own st) (.nd (.lst pf) (names.map D.str)) c k (some (.int n)) (some (.str x.nm)) none none none) := by
      have ex2 : pIx [crD .tmp st, .int (n / 3 % st.length)] = some (.str x.nm) := ex
      have hp' : (0 : Int) < st.length := by omega
      unfold st__law_deed_3
      have hm : pMod [.int (n / 3), .int st.length] = some (.int (n / 3 % st.length)) := modI hp'
      simp (decide := true) [ex2, hm]
    have k1 := deed_known (G := gD .own st) (P := .nd (.lst pf) (names.map D.str)) (c := c) (k := k) (nn := some (.int n)) (fr := none) (pr := none) ok hx
    have k2 := deed_free (G := gD .own st) (O := oD .own st) (names := names) (c := c) (k := k) (nn := some (.int n)) (xx := some (.str x.nm)) (pr := none) (K := x.sizes.map (·.1)) hpt hpn (by rw [p.len]; decide)
    obtain ⟨K, eK⟩ : ∃ K, x.sizes.map (·.1) = K := ⟨_, rfl⟩
    obtain ⟨F, eF⟩ : ∃ F, frees names K = F := ⟨_, rfl⟩
    rw [eK] at k1 k2
    rw [eF] at k2
    have hKl : K.length = x.sizes.length := by rw [← eK, List.length_map]
    have s45 : sSeq (sSet 7 cp__law_deed_1) (sSet 8 cp__law_deed_2) (DE (gD .own st) (oD .own st) (.nd (.lst pf) (names.map D.str)) c k (some (.int n)) (some (.str x.nm)) none none none) = some (.nx, DE (gD .own st) (oD .own st) (.nd (.lst pf) (names.map D.str)) c k (some (.int n)) (some (.str x.nm)) (some (sl K)) (some (sl F)) none) := by
      rw [sSeq_nx (ρ1 := DE (gD .own st) (oD .own st) (.nd (.lst pf) (names.map D.str)) c k (some (.int n)) (some (.str x.nm)) (some (sl K)) none none) (by rw [sSet_ok k1 (by simp)]; rfl)]
      rw [sSet_ok k2 (by simp)]; rfl
    by_cases h6 : K.length = 6
    · refine ⟨st, ok, ?_⟩
      have s6 : st__law_deed_4 (DE (gD .own st) (oD .own st) (.nd (.lst pf) (names.map D.str)) c k (some (.int n)) (some (.str x.nm)) (some (sl K)) (some (sl F)) none) = some (.ret (.bl true), DE (gD .own st) (oD .own st) (.nd (.lst pf) (names.map D.str)) c k (some (.int n)) (some (.str x.nm)) (some (sl K)) (some (sl F)) none) := by
        unfold st__law_deed_4
        simp (decide := true) [h6]
      show bodyMM 11 [0, 1] g__law_deed _ = _
      rw [bodyMM_eq, ei]
      unfold g__law_deed
      rw [sSeq_nx s1, sSeq_nx s2, sSeq_nx s3, sSeq_assoc, sSeq_nx s45, sSeq_ret s6]
      rfl
    · have hKm : K.length < 6 := by have := g.sl; omega
      have hF : 0 < F.length := by rw [← eF]; exact frees_pos p.nd (by rw [p.len]; omega)
      obtain ⟨m, hm, em⟩ := pick_str (f := .tmp) (vs := F) (k := n / 60 % F.length) (Int.emod_nonneg _ (by omega)) (Int.emod_lt_of_pos _ (by omega))
      have hm2 : m ∈ names ∧ m ∉ K := by
        rw [← eF] at hm
        have := List.mem_filter.mp hm
        exact ⟨this.1, by simpa using this.2⟩
      obtain ⟨t, s, ea, ht⟩ := amount_eq (c := c) (a := k) (b := 2)
      have am := am_ok ht
      generalize loN t s = a at ea am
      generalize loD t s = b at ea am
      have hs6 : x.sizes.length < 6 := by omega
      have hnK : m ∉ x.sizes.map (·.1) := by rw [eK]; exact hm2.2
      have g' : GdOk ⟨x.nm, x.marks, x.sizes ++ [(m, a, b)]⟩ := by
        refine ⟨g.nm, g.mk0, g.mkn, g.mkl, fun q hq => ?_, ?_, by simp; omega, fun q hq => ?_⟩
        · rcases List.mem_append.mp hq with h | h
          · exact g.sn q h
          · have : q = (m, a, b) := by simpa using h
            rw [this]; exact p.nm m hm2.1
        · rw [List.map_append, List.nodup_append]
          refine ⟨g.sd, by simp, fun u hu v hv e => ?_⟩
          have : v = m := by simpa using hv
          subst this; subst e
          exact hnK hu
        · rcases List.mem_append.mp hq with h | h
          · exact g.sa q h
          · have : q = (m, a, b) := by simpa using h
            rw [this]; exact am
      refine ⟨st.set j ⟨x.nm, x.marks, x.sizes ++ [(m, a, b)]⟩, ok.set hj.2 rfl g', ?_⟩
      have pm := put_measure_eq ok hj (p.nm m hm2.1) hnK hs6 am
      have s6 : st__law_deed_4 (DE (gD .own st) (oD .own st) (.nd (.lst pf) (names.map D.str)) c k (some (.int n)) (some (.str x.nm)) (some (sl K)) (some (sl F)) none) = some (.nx, DE (gD .own st) (oD .own st) (.nd (.lst pf) (names.map D.str)) c k (some (.int n)) (some (.str x.nm)) (some (sl K)) (some (sl F)) none) := by
        have h6' : ¬ (K.length : Int) = 6 := by omega
        unfold st__law_deed_4
        simp (decide := true) [h6, h6']
      have s7 : st__law_deed_5 (DE (gD .own st) (oD .own st) (.nd (.lst pf) (names.map D.str)) c k (some (.int n)) (some (.str x.nm)) (some (sl K)) (some (sl F)) none) = some (.nx, DE (gD .own st) (oD .own st) (.nd (.lst pf) (names.map D.str)) c k (some (.int n)) (some (.str x.nm)) (some (sl K)) (some (sl F)) (some (.nd .tup [.str m, ratD a b]))) := by
        have hF' : (0 : Int) < F.length := by omega
        have hmm : pMod [.int (n / 60), .int F.length] = some (.int (n / 60 % F.length)) := modI hF'
        unfold st__law_deed_5
        simp (decide := true) [hmm, em, ea]
      show bodyMM 11 [0, 1] g__law_deed _ = _
      rw [bodyMM_eq, ei]
      unfold g__law_deed
      rw [sSeq_nx s1, sSeq_nx s2, sSeq_nx s3, sSeq_assoc, sSeq_nx s45, sSeq_nx s6, sSeq_nx s7, sSeq_nx (deed_6 hj hs6), deed_7 pm]
      rfl
end
end OB

namespace OB
open PySem PySem.Spec PyProof.Rows L2 PySem.NumText PySem.StrLaws Builtin.Str
abbrev pyP (p : Str × Int × Int) : PyData := .tuple [.str p.1, .tuple [.int p.2.1, .int p.2.2]]
theorem toPyL_sh : ∀ l : List (Str × Int × Int), toPyL (l.map fun p => D.nd .tup [.str p.1, ratD p.2.1 p.2.2]) = some (l.map pyP)
  | [] => rfl
  | p :: l => by rw [List.map_cons, toPyL, toPyL_sh l]; rfl
theorem canLay_sh : ∀ l : List (Str × Int × Int), (∀ p ∈ l, Nm p.1) → PyData.canLayAll0 (l.map pyP) = true
  | [], _ => rfl
  | p :: l, h => by
    have := (h p List.mem_cons_self).ok.str
    rw [List.map_cons, PyData.canLayAll0, canLay_sh l fun q hq => h q (List.mem_cons_of_mem _ hq), Bool.and_true]
    simp [pyP, PyData.canLay0, PyData.canLayAll0, this]
theorem depth_sh : ∀ l : List (Str × Int × Int), PyData.depthAll (l.map pyP) ≤ 4
  | [] => by simp [PyData.depthAll]
  | p :: l => by
    have := depth_sh l
    rw [List.map_cons, PyData.depthAll]
    simp [pyP, PyData.depth, PyData.depthAll]
    omega
theorem eqv_sh : ∀ l : List (Str × Int × Int), PyData.eqvAll (l.map pyP) (l.map pyP) = true
  | [] => by simp [PyData.eqvAll]
  | p :: l => by
    rw [List.map_cons, PyData.eqvAll, eqv_sh l]
    simp [pyP, PyData.eqv, PyData.eqvAll]
theorem ne_sh {f g : Fl} {x : Gd} (h : GdOk x) : pNe [shE f x, shE g x] = some (.bl false) := by
  have c := canLay_sh x.sizes h.sn
  have d := depth_sh x.sizes
  have e := eqv_sh x.sizes
  have hs : SeqAt.shaped (.list (x.sizes.map pyP)) = true := by
    unfold SeqAt.shaped
    rw [PyData.canLay0, c, PyData.depth, decide_eq_true (by omega)]
    rfl
  have dq : deepEq (shE f x) (shE g x) = some true := by
    unfold deepEq shE
    rw [toPy, toPy, toPyL_sh]
    simp only [Option.map_some, Option.bind_some, hs, Bool.and_self, if_true, PyData.eqv, e]
  have ha : atEq (shE f x) (shE g x) = none := rfl
  unfold pNe
  simp only [ha, Option.none_or, dq]
  rfl
abbrev NE (G O : D) (nm : Str) (n : Int) (ma sz me am mu du : Option D) : En := [some G, some O, some (.str nm), some (.int n), ma, sz, me, am, mu, du, none]
section
variable {f f2 : Fl} {st : List Gd} {x : Gd} {n : Int} {G O : D}
theorem nr_cp1 {ma : Option D} {me am mu du : Option D} (g : GdOk x) {nm : Str} : cp__law_named_right_1 (NE G O nm n ma (some (shE .own x)) me am mu du) = .ok (.nd (.lst .own) (x.sizes.map fun _ => D.bl true)) := by
  have ei : ∃ b, itV (eVar 5) (NE G O nm n ma (some (shE .own x)) me am mu du) = .ok (x.sizes.map fun p => D.nd .tup [.str p.1, ratD p.2.1 p.2.2], b) := by
    refine ⟨false && (x.sizes.map fun p => D.nd .tup [.str p.1, ratD p.2.1 p.2.2]).all noT, ?_⟩
    simp
    unfold shE itemsD
    simp
  obtain ⟨b, ei⟩ := ei
  have ec := compL_map (tg := tgName 10) (f := ce__law_named_right_1) (ρ := wipeE (NE G O nm n ma (some (shE .own x)) me am mu du) [10]) (fun _ => .bl true) (x.sizes.map fun p => D.nd .tup [.str p.1, ratD p.2.1 p.2.2]) fun d hd => by
    obtain ⟨p, hp, rfl⟩ := List.mem_map.mp hd
    refine ⟨_, rfl, ?_⟩
    unfold ce__law_named_right_1
    simp [isiD, tyN, nbTy]
  unfold cp__law_named_right_1
  refine eComp_ok ei (ec.trans ?_) (by rw [List.length_map]; exact Nat.le_trans g.sl (by decide))
  rw [List.map_map]
  rfl
theorem nr_cp2 {ma : Option D} {me am mu du : Option D} (g : GdOk x) {nm : Str} : cp__law_named_right_2 (NE G O nm n ma (some (shE .own x)) me am mu du) = .ok (.nd (.lst .own) (x.sizes.map fun _ => D.bl true)) := by
  have ei : ∃ b, itV (eVar 5) (NE G O nm n ma (some (shE .own x)) me am mu du) = .ok (x.sizes.map fun p => D.nd .tup [.str p.1, ratD p.2.1 p.2.2], b) := by
    refine ⟨false && (x.sizes.map fun p => D.nd .tup [.str p.1, ratD p.2.1 p.2.2]).all noT, ?_⟩
    simp
    unfold shE itemsD
    simp
  obtain ⟨b, ei⟩ := ei
  have ec := compL_map (tg := tgName 10) (f := ce__law_named_right_2) (ρ := wipeE (NE G O nm n ma (some (shE .own x)) me am mu du) [10]) (fun _ => .bl true) (x.sizes.map fun p => D.nd .tup [.str p.1, ratD p.2.1 p.2.2]) fun d hd => by
    obtain ⟨p, hp, rfl⟩ := List.mem_map.mp hd
    refine ⟨_, rfl, ?_⟩
    have e := law_is_ratio_eq (a := p.2.1) (b := p.2.2)
    unfold ce__law_named_right_2
    simp [e]
  unfold cp__law_named_right_2
  refine eComp_ok ei (ec.trans ?_) (by rw [List.length_map]; exact Nat.le_trans g.sl (by decide))
  rw [List.map_map]
  rfl
end
end OB

namespace OB
open PySem PySem.Spec PyProof.Rows L2 PySem.NumText PySem.StrLaws Builtin.Str
section
variable {f f2 : Fl} {st : List Gd} {x : Gd} {n : Int}
/-- how much is asked: a ratio from 0 on -/
theorem much_eq {G O : D} {nm : Str} {ma sz me am mu du : Option D} (h0 : 0 ≤ n) (h1 : n < 1073741824) : ∃ p q : Int, Rt p q 100 ∧ 0 ≤ p ∧ ∀ mu du, sSet 8 (ePr pIx [ePr pLst [ePr pTup [eC (.int 0), eC (.int 1)], eCall m__law_amount [] [eVar 3, eC (.int 3), eC (.int 8)], eCall m__law_lowest [] [ePr pAdd [eC (.int 1), ePr pMod [eVar 3, ePr pPow [eC (.int 10), eC (.int 9)]]], ePr pAdd [ePr pPow [eC (.int 10), eC (.int 9)], eC (.int 7)]]], ePr pMod [eVar 3, eC (.int 3)]]) (NE G O nm n ma sz me am mu du) = some (.nx, NE G O nm n ma sz me am (some (ratD p q)) du) := by
  haveI : Bd n 30 := bd_range (c := 1073741823) (by omega) (by decide)
  haveI : Bd (3 : Int) 20 := ⟨by decide⟩
  haveI : Bd (8 : Int) 20 := ⟨by decide⟩
  obtain ⟨t, s, ea, ht⟩ := amount_eq (c := n) (a := 3) (b := 8)
  have am' := am_ok ht
  generalize loN t s = a at ea am'
  generalize loD t s = b at ea am'
  have m9 : 0 ≤ n % 1000000000 := Int.emod_nonneg _ (by decide)
  have m9' : n % 1000000000 < 1000000000 := Int.emod_lt_of_pos _ (by decide)
  haveI b1 : Bd (1 + n % 1000000000) 40 := bd_range (c := 1000000000) (by omega) (by decide)
  haveI b2 : Bd (1000000007 : Int) 40 := ⟨by decide⟩
  have el := lowest_eq (a := 1 + n % 1000000000) (b := 1000000007) (by decide)
  have rl : Rt (loN (1 + n % 1000000000) 1000000007) (loD (1 + n % 1000000000) 1000000007) 40 := Rt.lo (by decide) b1 b2
  have pl : 0 ≤ loN (1 + n % 1000000000) 1000000007 := by
    unfold loN
    refine Int.ediv_nonneg ?_ (by omega)
    have : sgn 1000000007 = 1 := rfl
    rw [this]; omega
  generalize loN (1 + n % 1000000000) 1000000007 = p at el rl pl
  generalize loD (1 + n % 1000000000) 1000000007 = q at el rl
  have h3 : n % 3 = 0 ∨ n % 3 = 1 ∨ n % 3 = 2 := by omega
  rcases h3 with h | h | h
  · refine ⟨0, 1, rt01, by omega, fun mu du => ?_⟩
    simp (decide := true) [ea, el, h]
  · refine ⟨a, b, am'.rt.mono (by decide), by have := am'.lo; omega, fun mu du => ?_⟩
    simp (decide := true) [ea, el, h]
  · refine ⟨p, q, rl.mono (by decide), pl, fun mu du => ?_⟩
    have ix2 : ∀ (z : Fl) (u v w : D), pIx [.nd (.lst z) [u, v, w], .int 2] = some w := fun z u v w => ixL (k := 2) rfl
    simp (decide := true) [ea, el, h, ix2]
end
end OB

namespace OB
open PySem PySem.Spec PyProof.Rows L2 PySem.NumText PySem.StrLaws Builtin.Str
section
variable {f f2 : Fl} {st : List Gd} {x : Gd} {n : Int}
theorem nr_body {ma sz mu du : Option D} {O : D} {m : Str} {a b : Int} (hft : f.toTmp = f) (hfa : f.toArg = f) (ok : StOk st) (hx : x ∈ st) (hm : (m, a, b) ∈ x.sizes) (h0 : 0 ≤ n) (h1 : n < 1073741824) : ∃ mu' du', lb__law_named_right_1 (NE (gD f st) O x.nm n ma sz (some (.str m)) (some (ratD a b)) mu du) = some (.nx, NE (gD f st) O x.nm n ma sz (some (.str m)) (some (ratD a b)) mu' du') := by
  obtain ⟨p, q, rp, pp, es⟩ := much_eq (G := gD f st) (O := O) (nm := x.nm) (ma := ma) (sz := sz) (me := some (.str m)) (am := some (ratD a b)) (mu := mu) (du := du) h0 h1
  have ra := ((ok.ok x hx).sa _ hm).rt
  have eo := own_eq (f := f) ok hx hm (rp.mono (m := 3000) (by decide)) pp
  haveI := rp.ba.mono (m := 3000) (by decide)
  haveI := rp.bb.mono (m := 3000) (by decide)
  haveI := ra.ba.mono (m := 3000) (by decide)
  haveI := ra.bb.mono (m := 3000) (by decide)
  have el := lowest_eq (a := p * a) (b := q * b) (ne_mul rp.pos ra.pos)
  have er := law_is_ratio_eq (a := loN (p * a) (q * b)) (b := loD (p * a) (q * b))
  refine ⟨some (ratD p q), some (ratD (loN (p * a) (q * b)) (loD (p * a) (q * b))), ?_⟩
  unfold lb__law_named_right_1
  rw [sSeq_nx (es mu du)]
  generalize loN (p * a) (q * b) = u at eo el er ⊢
  generalize loD (p * a) (q * b) = v at eo el er ⊢
  rw [sSeq_nx (ρ1 := NE (gD f st) O x.nm n ma sz (some (.str m)) (some (ratD a b)) (some (ratD p q)) (some (ratD u v))) (by simp (decide := true) [el])]
  simp (decide := true) [hft, hfa, eo, er]
theorem nr_loop {ma sz : Option D} (hft : f.toTmp = f) (hfa : f.toArg = f) (hf2t : f2.toTmp = f2) (hf2 : f2 ≠ .tmp) (ok : StOk st) (hx : x ∈ st) (h0 : 0 ≤ n) (h1 : n < 1073741824) : ∃ me am mu du, lp__law_named_right_1 (NE (gD f st) (oD f2 st) x.nm n ma sz none none none none) = some (.nx, NE (gD f st) (oD f2 st) x.nm n ma sz me am mu du) := by
  have i1 := ix_tab (f := f2) (v := shE f2) ok.nd hx
  have ei : itV (ePr pIx [ePr pIx [eVar 1, eC (.str "sizes")], eVar 2]) (NE (gD f st) (oD f2 st) x.nm n ma sz none none none none) = .ok (x.sizes.map fun p => D.nd .tup [.str p.1, ratD p.2.1 p.2.2], true) := by
    simp [hf2t, i1]
    unfold shE itemsD
    simp [hf2]
  obtain ⟨ρ', e, me, am, mu, du, h⟩ := sFor_ok (tg := tgTup [tgName 6, tgName 7]) (b := lb__law_named_right_1) ei (fun j ρ => ∃ me am mu du, ρ = NE (gD f st) (oD f2 st) x.nm n ma sz me am mu du) ⟨none, none, none, none, rfl⟩ fun j d ρ hd ⟨me, am, mu, du, hρ⟩ => by
    subst hρ
    rw [List.getElem?_map] at hd
    cases hp : x.sizes[j]? with
    | none => rw [hp] at hd; cases hd
    | some p =>
      rw [hp] at hd
      cases hd
      obtain ⟨mu', du', eb⟩ := nr_body (ma := ma) (sz := sz) (mu := mu) (du := du) (O := oD f2 st) (m := p.1) (a := p.2.1) (b := p.2.2) hft hfa ok hx (List.mem_of_getElem? hp) h0 h1
      exact ⟨_, _, rfl, eb, _, _, _, _, rfl⟩
  subst h
  exact ⟨me, am, mu, du, e⟩
theorem named_right_eq (hf : f = .bor ∨ f = .frz) (hf2' : f2 = .bor ∨ f2 = .frz) (ok : StOk st) (hx : x ∈ st) (h0 : 0 ≤ n) (h1 : n < 1073741824) : m__law_named_right [gD f st, oD f2 st, .str x.nm, .int n] = .ok (.bl true) := by
  have hft : f.toTmp = f := by rcases hf with rfl | rfl <;> rfl
  have hfa : f.toArg = f := by rcases hf with rfl | rfl <;> rfl
  have hf2t : f2.toTmp = f2 := by rcases hf2' with rfl | rfl <;> rfl
  have hf2 : f2 ≠ .tmp := by rcases hf2' with rfl | rfl <;> decide
  have g := ok.ok x hx
  have e1 := marks_eq (f := f) ok.nd hx
  have e2 := measures_eq (f := f) ok hx
  have e3 := need_good_eq (f := f) ok.nd hx
  have i1 := ix_tab (f := f2) (v := maE f2) ok.nd hx
  have i2 := ix_tab (f := f2) (v := shE f2) ok.nd hx
  have q1 : pNe [maE .tmp x, maE f2 x] = some (.bl false) := pNe_refl (fun s hs => (g.mk0 s hs).ok)
  have q2 := ne_sh (f := .tmp) (g := f2) g
  have c1 := fun nm me am mu du => nr_cp1 (G := gD f st) (O := oD f2 st) (n := n) (ma := some (maE .own x)) (nm := nm) (me := me) (am := am) (mu := mu) (du := du) g
  have c2 := fun nm me am mu du => nr_cp2 (G := gD f st) (O := oD f2 st) (n := n) (ma := some (maE .own x)) (nm := nm) (me := me) (am := am) (mu := mu) (du := du) g
  have a1 := all_bls x.sizes
  have nb1 : noB (maE .own x) = true := allF_ma rfl
  have nb2 : noB (shE .own x) = true := allF_sh rfl
  have nt1 : noT (maE .own x) = true := allF_ma rfl
  have nt2 : noT (shE .own x) = true := allF_sh rfl
  have s1 : st__law_named_right_1 (NE (gD f st) (oD f2 st) x.nm n none none none none none none) = some (.nx, NE (gD f st) (oD f2 st) x.nm n (some (maE .own x)) (some (shE .own x)) none none none none) := by
    unfold st__law_named_right_1
    simp (decide := true) [hft, hfa, e1, e2, nb1, nb2, nt1, nt2]
  have l1 : isiD (nbTy "list") (fun _ => none) (maE .tmp x) = some true := rfl
  have l2 : isiD (nbTy "list") (fun _ => none) (shE .tmp x) = some true := rfl
  have s2 : st__law_named_right_2 (NE (gD f st) (oD f2 st) x.nm n (some (maE .own x)) (some (shE .own x)) none none none none) = some (.nx, NE (gD f st) (oD f2 st) x.nm n (some (maE .own x)) (some (shE .own x)) none none none none) := by
    unfold st__law_named_right_2
    simp (decide := true) [hf2t, i1, q1, l1, l2]
  have s3 : st__law_named_right_3 (NE (gD f st) (oD f2 st) x.nm n (some (maE .own x)) (some (shE .own x)) none none none none) = some (.nx, NE (gD f st) (oD f2 st) x.nm n (some (maE .own x)) (some (shE .own x)) none none none none) := by
    unfold st__law_named_right_3
    simp (decide := true) [hf2t, i2, q2, c1, a1]
  have s4 : st__law_named_right_4 (NE (gD f st) (oD f2 st) x.nm n (some (maE .own x)) (some (shE .own x)) none none none none) = some (.nx, NE (gD f st) (oD f2 st) x.nm n (some (maE .own x)) (some (shE .own x)) none none none none) := by
    unfold st__law_named_right_4
    simp (decide := true) [hft, hfa, c2, a1, e3]
  have s5 : ∃ ma', sMut 4 pHere mApp (eL [eC (.str "more")]) (NE (gD f st) (oD f2 st) x.nm n (some (maE .own x)) (some (shE .own x)) none none none none) = some (.nx, NE (gD f st) (oD f2 st) x.nm n (some ma') (some (shE .own x)) none none none none) := by
    have hz : x.marks.length < sizeLine := Nat.lt_of_le_of_lt g.mkl (by decide)
    refine ⟨.nd (.lst .own) (x.marks.map D.str ++ [.str "more"]), ?_⟩
    simp (decide := true) [sMut, placeOf, maE, Kd.isOwn, Kd.fl, mApp, putAt, hz]
  obtain ⟨ma', s5⟩ := s5
  have s6 : ∃ sz', sMut 5 pHere mApp (eL [eC (.str "more")]) (NE (gD f st) (oD f2 st) x.nm n (some ma') (some (shE .own x)) none none none none) = some (.nx, NE (gD f st) (oD f2 st) x.nm n (some ma') (some sz') none none none none) := by
    have hz : x.sizes.length < sizeLine := Nat.lt_of_le_of_lt g.sl (by decide)
    refine ⟨.nd (.lst .own) ((x.sizes.map fun p => D.nd .tup [.str p.1, ratD p.2.1 p.2.2]) ++ [.str "more"]), ?_⟩
    simp (decide := true) [sMut, placeOf, shE, Kd.isOwn, Kd.fl, mApp, putAt, hz]
  obtain ⟨sz', s6⟩ := s6
  obtain ⟨me, am, mu, du, s7⟩ := nr_loop (ma := some ma') (sz := some sz') hft hfa hf2t hf2 ok hx h0 h1
  unfold m__law_named_right
  rw [bodyM_eq]
  have ei : initE 11 [gD f st, oD f2 st, .str x.nm, .int n] = NE (gD f st) (oD f2 st) x.nm n none none none none none none := rfl
  rw [ei]
  unfold g__law_named_right
  rw [sSeq_nx s1, sSeq_nx s2, sSeq_nx s3, sSeq_nx s4, sSeq_nx s5, sSeq_nx s6, sSeq_nx s7]
  rfl
end
end OB

namespace OB
open PySem PySem.Spec PyProof.Rows L2 PySem.NumText PySem.StrLaws Builtin.Str
abbrev RE (G O : D) (n : Int) (t fo nm : Option D) : En := [some G, some O, some (.int n), t, fo, nm]
section
variable {f f2 : Fl} {st : List Gd} {n : Int}
theorem right_loop {t fo nm : Option D} (hf : f = .bor ∨ f = .frz) (hf2' : f2 = .bor ∨ f2 = .frz) (ok : StOk st) (h0 : 0 ≤ n) (h1 : n < 1073741824) : ∃ nm', lp__law_right_1 (RE (gD f st) (oD f2 st) n t fo nm) = some (.nx, RE (gD f st) (oD f2 st) n t fo nm') := by
  have hft : f.toTmp = f := by rcases hf with rfl | rfl <;> rfl
  have hfa : f.toArg = f := by rcases hf with rfl | rfl <;> rfl
  have hf2t : f2.toTmp = f2 := by rcases hf2' with rfl | rfl <;> rfl
  have hf2a : f2.toArg = f2 := by rcases hf2' with rfl | rfl <;> rfl
  have hf2 : f2 ≠ .tmp := by rcases hf2' with rfl | rfl <;> decide
  have ei : itV (ePr pIx [eVar 1, eC (.str "order")]) (RE (gD f st) (oD f2 st) n t fo nm) = .ok ((st.map Gd.nm).map D.str, true) := by
    have := items_cr hf2 (st := st)
    simp [hf2t, this]
  obtain ⟨ρ', e, nm', h⟩ := sFor_ok (tg := tgName 5) (b := lb__law_right_1) ei (fun j ρ => ∃ nm', ρ = RE (gD f st) (oD f2 st) n t fo nm') ⟨nm, rfl⟩ fun j d ρ hd ⟨nm', hρ⟩ => by
    subst hρ
    rw [List.map_map, List.getElem?_map] at hd
    cases hx : st[j]? with
    | none => rw [hx] at hd; cases hd
    | some x =>
      rw [hx] at hd
      cases hd
      haveI : Bd n 30 := bd_range (c := 1073741823) (by omega) (by decide)
      have en := named_right_eq (n := n / 2) hf hf2' ok (List.mem_of_getElem? hx) (by omega) (by omega)
      refine ⟨_, RE (gD f st) (oD f2 st) n t fo (some (.str x.nm)), rfl, ?_, some (.str x.nm), rfl⟩
      show lb__law_right_1 (RE (gD f st) (oD f2 st) n t fo (some (.str x.nm))) = _
      unfold lb__law_right_1
      simp (decide := true) [hft, hfa, hf2t, hf2a, en]
  subst h
  exact ⟨nm', e⟩
theorem right_found {t fo nm : Option D} (hf : f = .bor ∨ f = .frz) (hf2' : f2 = .bor ∨ f2 = .frz) (ok : StOk st) : ∃ fo', sSeq (sSet 4 (eMeth "Goods" "called_goods" m_Goods_called_goods [] (eVar 0) [])) (sSeq (sIf (bOr (bNot (eT (eIsi (nbTy "list") (fun _ => none) (eVar 4)))) (eT (ePr pNe [eVar 4, ePr pIx [eVar 1, eC (.str "order")]]))) (sRet (eC (.bl false))) sNil) (sMut 4 pHere mApp (eL [eC (.str "more")]))) (RE (gD f st) (oD f2 st) n t fo nm) = some (.nx, RE (gD f st) (oD f2 st) n t fo' nm) := by
  have hft : f.toTmp = f := by rcases hf with rfl | rfl <;> rfl
  have hfa : f.toArg = f := by rcases hf with rfl | rfl <;> rfl
  have hf2t : f2.toTmp = f2 := by rcases hf2' with rfl | rfl <;> rfl
  have e1 := called_eq (f := f) (st := st)
  have nb : noB (crD .own st) = true := allF_cr rfl
  have nt : noT (crD .own st) = true := allF_cr rfl
  have q1 : pNe [crD .tmp st, crD f2 st] = some (.bl false) := pNe_refl (n := 12) (fun s hs => by
    obtain ⟨g, hg, rfl⟩ := List.mem_map.mp hs
    exact (ok.ok g hg).nm.ok)
  have l1 : isiD (nbTy "list") (fun _ => none) (crD .tmp st) = some true := rfl
  refine ⟨some (.nd (.lst .own) ((st.map Gd.nm).map D.str ++ [.str "more"])), ?_⟩
  rw [sSeq_nx (ρ1 := RE (gD f st) (oD f2 st) n t (some (crD .own st)) nm) (by simp (decide := true) [hft, hfa, e1, nb, nt])]
  rw [sSeq_nx (ρ1 := RE (gD f st) (oD f2 st) n t (some (crD .own st)) nm) (by simp (decide := true) [hf2t, q1, l1])]
  have hz : st.length < sizeLine := Nat.lt_of_le_of_lt ok.len (by decide)
  simp (decide := true) [sMut, placeOf, crD, Kd.isOwn, Kd.fl, mApp, putAt, hz]
theorem right_eq (hf : f = .bor ∨ f = .frz) (hf2' : f2 = .bor ∨ f2 = .frz) (ok : StOk st) (h0 : 0 ≤ n) (h1 : n < 1073741824) : m__law_right [gD f st, oD f2 st, .int n] = .ok (.bl true) := by
  haveI : Bd n 30 := bd_range (c := 1073741823) (by omega) (by decide)
  have ei : itR1 [eC (.int 2)] (RE (gD f st) (oD f2 st) n none none none) = .ok (rngD 0 2, true) := rfl
  have lp : ∃ t fo nm, lp__law_right_2 (RE (gD f st) (oD f2 st) n none none none) = some (.nx, RE (gD f st) (oD f2 st) n t fo nm) := by
    obtain ⟨ρ', e, t, fo, nm, h⟩ := sFor_ok (tg := tgName 3) (b := lb__law_right_2) ei (fun j ρ => ∃ t fo nm, ρ = RE (gD f st) (oD f2 st) n t fo nm) ⟨none, none, none, rfl⟩ fun j d ρ hd ⟨t, fo, nm, hρ⟩ => by
      subst hρ
      obtain ⟨hj, rfl⟩ := range8 (n := 2) hd
      haveI : Bd (j : Int) 20 := bd_range (c := 1000) (by omega) (by decide)
      by_cases hc : (n + j) % 2 = 0
      · obtain ⟨fo', e⟩ := right_found (n := n) (t := some (.int j)) (fo := fo) (nm := nm) hf hf2' ok
        refine ⟨_, RE (gD f st) (oD f2 st) n (some (.int j)) fo' nm, rfl, ?_, _, _, _, rfl⟩
        show lb__law_right_2 (RE (gD f st) (oD f2 st) n (some (.int j)) fo nm) = _
        unfold lb__law_right_2
        rw [sIf_t (by simp (decide := true) [hc])]
        exact e
      · obtain ⟨nm', e⟩ := right_loop (t := some (.int j)) (fo := fo) (nm := nm) hf hf2' ok h0 h1
        refine ⟨_, RE (gD f st) (oD f2 st) n (some (.int j)) fo nm', rfl, ?_, _, _, _, rfl⟩
        show lb__law_right_2 (RE (gD f st) (oD f2 st) n (some (.int j)) fo nm) = _
        unfold lb__law_right_2
        rw [sIf_f (by simp (decide := true) [hc])]
        exact e
    subst h
    exact ⟨t, fo, nm, e⟩
  obtain ⟨t, fo, nm, lp⟩ := lp
  unfold m__law_right
  rw [bodyM_eq]
  have ee : initE 6 [gD f st, oD f2 st, .int n] = RE (gD f st) (oD f2 st) n none none none := rfl
  rw [ee]
  unfold g__law_right
  rw [sSeq_nx lp]
  rfl
end
end OB

namespace OB
open PySem PySem.Spec PyProof.Rows L2 PySem.NumText PySem.StrLaws Builtin.Str
/-- the slots of law -/
abbrev LE (s cs P S O T : D) (a b c d e g : Option D) : En := [some s, some cs, some P, some S, some O, some T, a, b, c, d, e, g]
abbrev two (a b : D) : D := .nd (.lst .own) [a, b]
/-- a state kept for later: a pair, frozen -/
def paE (s : List Gd) : D := .nd .tup [gD .frz s, oD .frz s]
def pastD (l : List (List Gd)) : D := .nd (.lst .own) (l.map paE)
@[simp] theorem step20 {f : Fl} {a b : D} : stepP (.nd (.lst f) [a, b]) (.int 0) = some 0 := rfl
@[simp] theorem step21 {f : Fl} {a b : D} : stepP (.nd (.lst f) [a, b]) (.int 1) = some 1 := rfl
@[simp] theorem get20 {f : Fl} {a b : D} : getP (.nd (.lst f) [a, b]) [0] = some a := by simp [getP]
@[simp] theorem get21 {f : Fl} {a b : D} : getP (.nd (.lst f) [a, b]) [1] = some b := by simp [getP]
@[simp] theorem put20 {f : Fl} {a b e : D} : putP (.nd (.lst f) [a, b]) [0] e = .nd (.lst f) [e, b] := by simp [putP]
@[simp] theorem put21 {f : Fl} {a b e : D} : putP (.nd (.lst f) [a, b]) [1] e = .nd (.lst f) [a, e] := by simp [putP]
@[simp] theorem putD20 {a b e : D} : putD2 (.lst .own) [a, b] (.int 0) e = some (.lst .own, [e, b]) := rfl
@[simp] theorem putD21 {a b e : D} : putD2 (.lst .own) [a, b] (.int 1) e = some (.lst .own, [a, e]) := rfl
@[simp] theorem noT_oDf {st : List Gd} : noT (oD .frz st) = true := allF_oD rfl
@[simp] theorem noB_oDf {st : List Gd} : noB (oD .frz st) = true := allF_oD rfl
@[simp] theorem noB_gDf {st : List Gd} : noB (gD .frz st) = true := allF_gD rfl
theorem past_snoc {l : List (List Gd)} {s : List Gd} : pastD (l ++ [s]) = .nd (.lst .own) (l.map paE ++ [paE s]) := by simp [pastD]
section
variable {s cs P : D} {a b : List Gd} {l : List (List Gd)} {x6 x7 x8 x10 x11 : Option D}
theorem keep0 (oka : StOk a) (hl : l.length ≤ 1000) : sSeq (sFzP 3 (πIx 3 pHere (eVar 9)) (sMut 5 pHere mApp (eL [ePr pTup [ePr pIx [eVar 3, eVar 9], eCall m__law_kept [] [ePr pIx [eVar 4, eVar 9]]]]))) (sPut2 3 pHere (eMeth "Goods" "copied" m_Goods_copied [] (ePr pIx [eVar 3, eVar 9]) []) (eVar 9)) (LE s cs P (two (gD .own a) (gD .own b)) (two (oD .own a) (oD .own b)) (pastD l) x6 x7 x8 (some (.int 0)) x10 x11) =
    some (.nx, LE s cs P (two (gD .own a) (gD .own b)) (two (oD .own a) (oD .own b)) (pastD (l ++ [a])) x6 x7 x8 (some (.int 0)) x10 x11) := by
  have e1 := kept_eq (f := .bor) oka
  have e2 := copied_eq (f := .frz) (.inr rfl) oka
  have hz : l.length < sizeLine := Nat.lt_of_le_of_lt hl (by decide)
  have ps := past_snoc (l := l) (s := a)
  rw [sSeq_nx (ρ1 := LE s cs P (two (gD .frz a) (gD .own b)) (two (oD .own a) (oD .own b)) (pastD (l ++ [a])) x6 x7 x8 (some (.int 0)) x10 x11)]
  · simp (decide := true) [e2, Kd.isOwn, Kd.fl]
  · rw [ps]
    simp (decide := true) [e1, sMut, placeOf, pastD, Kd.isOwn, Kd.fl, mApp, putAt, hz, paE]
theorem keep1 (okb : StOk b) (hl : l.length ≤ 1000) : sSeq (sFzP 3 (πIx 3 pHere (eVar 9)) (sMut 5 pHere mApp (eL [ePr pTup [ePr pIx [eVar 3, eVar 9], eCall m__law_kept [] [ePr pIx [eVar 4, eVar 9]]]]))) (sPut2 3 pHere (eMeth "Goods" "copied" m_Goods_copied [] (ePr pIx [eVar 3, eVar 9]) []) (eVar 9)) (LE s cs P (two (gD .own a) (gD .own b)) (two (oD .own a) (oD .own b)) (pastD l) x6 x7 x8 (some (.int 1)) x10 x11) =
    some (.nx, LE s cs P (two (gD .own a) (gD .own b)) (two (oD .own a) (oD .own b)) (pastD (l ++ [b])) x6 x7 x8 (some (.int 1)) x10 x11) := by
  have e1 := kept_eq (f := .bor) okb
  have e2 := copied_eq (f := .frz) (.inr rfl) okb
  have hz : l.length < sizeLine := Nat.lt_of_le_of_lt hl (by decide)
  have ps := past_snoc (l := l) (s := b)
  rw [sSeq_nx (ρ1 := LE s cs P (two (gD .own a) (gD .frz b)) (two (oD .own a) (oD .own b)) (pastD (l ++ [b])) x6 x7 x8 (some (.int 1)) x10 x11)]
  · simp (decide := true) [e2, Kd.isOwn, Kd.fl]
  · rw [ps]
    simp (decide := true) [e1, sMut, placeOf, pastD, Kd.isOwn, Kd.fl, mApp, putAt, hz, paE]
end
end OB

namespace OB
open PySem PySem.Spec PyProof.Rows L2 PySem.NumText PySem.StrLaws Builtin.Str
section
variable {s cs : D} {a b : List Gd} {l : List (List Gd)} {names : List Str} {pf : Fl} {x10 x11 : Option D} {j c n : Int}
@[simp] theorem isi_gD {f : Fl} {st : List Gd} : isiD (fun _ => none) (obC "Goods") (gD f st) = some true := rfl
theorem deed0 (oka : StOk a) (p : Pool names) (hp : pf = .own ∨ pf = .frz) (hk : 0 ≤ j ∧ j ≤ 1000) : ∃ a', StOk a' ∧ st_law_5 (LE s cs (.nd (.lst pf) (names.map D.str)) (two (gD .own a) (gD .own b)) (two (oD .own a) (oD .own b)) (pastD l) (some (.int j)) (some (.int c)) (some (.int n)) (some (.int 0)) x10 x11) =
    some (.nx, LE s cs (.nd (.lst pf) (names.map D.str)) (two (gD .own a') (gD .own b)) (two (oD .own a') (oD .own b)) (pastD l) (some (.int j)) (some (.int c)) (some (.int n)) (some (.int 0)) x10 x11) := by
  rcases hp with rfl | rfl
  · obtain ⟨a', ok', e⟩ := law_deed_eq (c := c) (k := j) oka p (pf := .bor) (.inl rfl) hk
    refine ⟨a', ok', ?_⟩
    unfold st_law_5
    simp (decide := true) [e]
  · obtain ⟨a', ok', e⟩ := law_deed_eq (c := c) (k := j) oka p (pf := .frz) (.inr rfl) hk
    refine ⟨a', ok', ?_⟩
    unfold st_law_5
    simp (decide := true) [e]
theorem deed1 (okb : StOk b) (p : Pool names) (hp : pf = .own ∨ pf = .frz) (hk : 0 ≤ j ∧ j ≤ 1000) : ∃ b', StOk b' ∧ st_law_5 (LE s cs (.nd (.lst pf) (names.map D.str)) (two (gD .own a) (gD .own b)) (two (oD .own a) (oD .own b)) (pastD l) (some (.int j)) (some (.int c)) (some (.int n)) (some (.int 1)) x10 x11) =
    some (.nx, LE s cs (.nd (.lst pf) (names.map D.str)) (two (gD .own a) (gD .own b')) (two (oD .own a) (oD .own b')) (pastD l) (some (.int j)) (some (.int c)) (some (.int n)) (some (.int 1)) x10 x11) := by
  rcases hp with rfl | rfl
  · obtain ⟨b', ok', e⟩ := law_deed_eq (c := c) (k := j) okb p (pf := .bor) (.inl rfl) hk
    refine ⟨b', ok', ?_⟩
    unfold st_law_5
    simp (decide := true) [e]
  · obtain ⟨b', ok', e⟩ := law_deed_eq (c := c) (k := j) okb p (pf := .frz) (.inr rfl) hk
    refine ⟨b', ok', ?_⟩
    unfold st_law_5
    simp (decide := true) [e]
theorem rights {P : D} {x6 x7 x10 : Option D} {i : Int} (hi : i = 0 ∨ i = 1) (oka : StOk a) (okb : StOk b) (h0 : 0 ≤ n) (h1 : n < 1073741824) : ∃ x10', lp_law_1 (LE s cs P (two (gD .own a) (gD .own b)) (two (oD .own a) (oD .own b)) (pastD l) x6 x7 (some (.int n)) (some (.int i)) x10 x11) =
    some (.nx, LE s cs P (two (gD .own a) (gD .own b)) (two (oD .own a) (oD .own b)) (pastD l) x6 x7 (some (.int n)) (some (.int i)) x10' x11) := by
  haveI : Bd n 30 := bd_range (c := 1073741823) (by omega) (by decide)
  have ea := right_eq (n := n / 35) (f := .bor) (f2 := .bor) (.inl rfl) (.inl rfl) oka (by omega) (by omega)
  have eb := right_eq (n := n / 35) (f := .bor) (f2 := .bor) (.inl rfl) (.inl rfl) okb (by omega) (by omega)
  have body : ∀ v : Int, (v = 0 ∨ v = 1) → lb_law_1 (LE s cs P (two (gD .own a) (gD .own b)) (two (oD .own a) (oD .own b)) (pastD l) x6 x7 (some (.int n)) (some (.int i)) (some (.int v)) x11) = some (.nx, LE s cs P (two (gD .own a) (gD .own b)) (two (oD .own a) (oD .own b)) (pastD l) x6 x7 (some (.int n)) (some (.int i)) (some (.int v)) x11) := fun v hv => by
    unfold lb_law_1
    rcases hv with rfl | rfl
    · simp (decide := true) [ea]
    · simp (decide := true) [eb]
  have ei : itV (ePr pTup [eVar 9, ePr pSub [eC (.int 1), eVar 9]]) (LE s cs P (two (gD .own a) (gD .own b)) (two (oD .own a) (oD .own b)) (pastD l) x6 x7 (some (.int n)) (some (.int i)) x10 x11) = .ok ([.int i, .int (1 - i)], true) := by
    simp [itemsD]
  obtain ⟨ρ', e, x10', h⟩ := sFor_ok (tg := tgName 10) (b := lb_law_1) ei (fun _ ρ => ∃ x10', ρ = LE s cs P (two (gD .own a) (gD .own b)) (two (oD .own a) (oD .own b)) (pastD l) x6 x7 (some (.int n)) (some (.int i)) x10' x11) ⟨x10, rfl⟩ fun k d ρ hd ⟨x10', hρ⟩ => by
    subst hρ
    have hv : ∃ v : Int, d = .int v ∧ (v = 0 ∨ v = 1) := by
      have := List.mem_of_getElem? hd
      rcases List.mem_cons.mp this with h | h
      · exact ⟨i, h, hi⟩
      · have : d = .int (1 - i) := by simpa using h
        exact ⟨1 - i, this, by omega⟩
    obtain ⟨v, rfl, hv⟩ := hv
    exact ⟨_, _, rfl, body v hv, some (.int v), rfl⟩
  subst h
  exact ⟨x10', e⟩
end
end OB

namespace OB
open PySem PySem.Spec PyProof.Rows L2 PySem.NumText PySem.StrLaws Builtin.Str
section
variable {s cs : D} {a b : List Gd} {l : List (List Gd)} {names : List Str} {pf : Fl} {x8 x9 x10 x11 : Option D} {j c : Int}
theorem turn_eq (oka : StOk a) (okb : StOk b) (okl : ∀ s ∈ l, StOk s) (hl : l.length ≤ 900) (p : Pool names) (hp : pf = .own ∨ pf = .frz) (hk : 0 ≤ j ∧ j ≤ 1000) :
    ∃ a' b' l' y8 y9 y10, StOk a' ∧ StOk b' ∧ (∀ s ∈ l', StOk s) ∧ l'.length ≤ l.length + 1 ∧ lb_law_2 (LE s cs (.nd (.lst pf) (names.map D.str)) (two (gD .own a) (gD .own b)) (two (oD .own a) (oD .own b)) (pastD l) (some (.int j)) (some (.int c)) x8 x9 x10 x11) =
      some (.nx, LE s cs (.nd (.lst pf) (names.map D.str)) (two (gD .own a') (gD .own b')) (two (oD .own a') (oD .own b')) (pastD l') (some (.int j)) (some (.int c)) y8 y9 y10 x11) := by
  haveI : Bd j 20 := bd_range (c := 1000) (by omega) (by decide)
  haveI : Bd (20 : Int) 20 := ⟨by decide⟩
  have ed := draw_eq (c := c) (k := j) (j := 20)
  obtain ⟨n0, n1⟩ := dr_range c j 20
  generalize dr c j 20 = n at ed n0 n1
  haveI : Bd n 30 := bd_range (c := 1073741823) (by omega) (by decide)
  have s1 : ∀ S O T, st_law_1 (LE s cs (.nd (.lst pf) (names.map D.str)) S O T (some (.int j)) (some (.int c)) x8 x9 x10 x11) = some (.nx, LE s cs (.nd (.lst pf) (names.map D.str)) S O T (some (.int j)) (some (.int c)) (some (.int n)) x9 x10 x11) := fun S O T => by
    unfold st_law_1
    simp (decide := true) [ed]
  by_cases h5 : n % 5 = 1
  · -- the second
    have s2 : ∀ S O T, st_law_2 (LE s cs (.nd (.lst pf) (names.map D.str)) S O T (some (.int j)) (some (.int c)) (some (.int n)) x9 x10 x11) = some (.nx, LE s cs (.nd (.lst pf) (names.map D.str)) S O T (some (.int j)) (some (.int c)) (some (.int n)) (some (.int 1)) x10 x11) := fun S O T => by
      unfold st_law_2
      simp (decide := true) [h5]
    have s3 : ∃ l', (∀ s ∈ l', StOk s) ∧ l'.length ≤ l.length + 1 ∧ st_law_3 (LE s cs (.nd (.lst pf) (names.map D.str)) (two (gD .own a) (gD .own b)) (two (oD .own a) (oD .own b)) (pastD l) (some (.int j)) (some (.int c)) (some (.int n)) (some (.int 1)) x10 x11) = some (.nx, LE s cs (.nd (.lst pf) (names.map D.str)) (two (gD .own a) (gD .own b)) (two (oD .own a) (oD .own b)) (pastD l') (some (.int j)) (some (.int c)) (some (.int n)) (some (.int 1)) x10 x11) := by
      unfold st_law_3
      by_cases h7 : n / 5 % 7 = 1
      · refine ⟨l ++ [b], fun s hs => ?_, by simp, ?_⟩
        · rcases List.mem_append.mp hs with h | h
          · exact okl s h
          · have : s = b := by simpa using h
            rw [this]; exact okb
        · rw [sIf_t (by simp (decide := true) [h7])]
          exact keep1 okb (by omega)
      · refine ⟨l, okl, by omega, ?_⟩
        rw [sIf_f (by simp (decide := true) [h7])]
        rfl
    obtain ⟨l', okl', hl', s3⟩ := s3
    have s4 : st_law_4 (LE s cs (.nd (.lst pf) (names.map D.str)) (two (gD .own a) (gD .own b)) (two (oD .own a) (oD .own b)) (pastD l') (some (.int j)) (some (.int c)) (some (.int n)) (some (.int 1)) x10 x11) = some (.nx, LE s cs (.nd (.lst pf) (names.map D.str)) (two (gD .own a) (gD .own b)) (two (oD .own a) (oD .own b)) (pastD l') (some (.int j)) (some (.int c)) (some (.int n)) (some (.int 1)) x10 x11) := by
      unfold st_law_4
      simp (decide := true)
    obtain ⟨b', okb', s5⟩ := deed1 (s := s) (cs := cs) (a := a) (b := b) (l := l') (x10 := x10) (x11 := x11) (c := c) (n := n) okb p hp hk
    obtain ⟨y10, s6⟩ := rights (s := s) (cs := cs) (a := a) (b := b') (l := l') (x10 := x10) (x11 := x11) (P := .nd (.lst pf) (names.map D.str)) (x6 := some (.int j)) (x7 := some (.int c)) (i := 1) (.inr rfl) oka okb' n0 n1
    refine ⟨a, b', l', some (.int n), some (.int 1), y10, oka, okb', okl', hl', ?_⟩
    unfold lb_law_2
    rw [sSeq_nx (s1 _ _ _), sSeq_nx (s2 _ _ _), sSeq_nx s3, sSeq_nx s4, sSeq_nx s5, s6]
  · have s2 : ∀ S O T, st_law_2 (LE s cs (.nd (.lst pf) (names.map D.str)) S O T (some (.int j)) (some (.int c)) (some (.int n)) x9 x10 x11) = some (.nx, LE s cs (.nd (.lst pf) (names.map D.str)) S O T (some (.int j)) (some (.int c)) (some (.int n)) (some (.int 0)) x10 x11) := fun S O T => by
      unfold st_law_2
      simp (decide := true) [h5]
    have s3 : ∃ l', (∀ s ∈ l', StOk s) ∧ l'.length ≤ l.length + 1 ∧ st_law_3 (LE s cs (.nd (.lst pf) (names.map D.str)) (two (gD .own a) (gD .own b)) (two (oD .own a) (oD .own b)) (pastD l) (some (.int j)) (some (.int c)) (some (.int n)) (some (.int 0)) x10 x11) = some (.nx, LE s cs (.nd (.lst pf) (names.map D.str)) (two (gD .own a) (gD .own b)) (two (oD .own a) (oD .own b)) (pastD l') (some (.int j)) (some (.int c)) (some (.int n)) (some (.int 0)) x10 x11) := by
      unfold st_law_3
      by_cases h7 : n / 5 % 7 = 1
      · refine ⟨l ++ [a], fun s hs => ?_, by simp, ?_⟩
        · rcases List.mem_append.mp hs with h | h
          · exact okl s h
          · have : s = a := by simpa using h
            rw [this]; exact oka
        · rw [sIf_t (by simp (decide := true) [h7])]
          exact keep0 oka (by omega)
      · refine ⟨l, okl, by omega, ?_⟩
        rw [sIf_f (by simp (decide := true) [h7])]
        rfl
    obtain ⟨l', okl', hl', s3⟩ := s3
    have s4 : st_law_4 (LE s cs (.nd (.lst pf) (names.map D.str)) (two (gD .own a) (gD .own b)) (two (oD .own a) (oD .own b)) (pastD l') (some (.int j)) (some (.int c)) (some (.int n)) (some (.int 0)) x10 x11) = some (.nx, LE s cs (.nd (.lst pf) (names.map D.str)) (two (gD .own a) (gD .own b)) (two (oD .own a) (oD .own b)) (pastD l') (some (.int j)) (some (.int c)) (some (.int n)) (some (.int 0)) x10 x11) := by
      unfold st_law_4
      simp (decide := true)
    obtain ⟨a', oka', s5⟩ := deed0 (s := s) (cs := cs) (a := a) (b := b) (l := l') (x10 := x10) (x11 := x11) (c := c) (n := n) oka p hp hk
    obtain ⟨y10, s6⟩ := rights (s := s) (cs := cs) (a := a') (b := b) (l := l') (x10 := x10) (x11 := x11) (P := .nd (.lst pf) (names.map D.str)) (x6 := some (.int j)) (x7 := some (.int c)) (i := 0) (.inl rfl) oka' okb n0 n1
    refine ⟨a', b, l', some (.int n), some (.int 0), y10, oka', okb, okl', hl', ?_⟩
    unfold lb_law_2
    rw [sSeq_nx (s1 _ _ _), sSeq_nx (s2 _ _ _), sSeq_nx s3, sSeq_nx s4, sSeq_nx s5, s6]
end
end OB

namespace OB
open PySem PySem.Spec PyProof.Rows L2 PySem.NumText PySem.StrLaws Builtin.Str
theorem map_int_tmp {g : Fl → Fl} {ns : List Int} : (ns.map D.int).map (mapF g) = ns.map D.int := by
  rw [List.map_map]; rfl
theorem loop_eq {s : D} {ns : List Int} {names : List Str} {pf : Fl} (hn : ns.length ≤ 63) (p : Pool names) (hp : pf = .own ∨ pf = .frz) :
    ∃ S O l y6 y7 y8 y9 y10, (∀ s ∈ l, StOk s) ∧ l.length ≤ 63 ∧ lp_law_2 (LE s (.nd (.lst .own) (ns.map D.int)) (.nd (.lst pf) (names.map D.str)) (two (gD .own []) (gD .own [])) (two (oD .own []) (oD .own [])) (pastD []) none none none none none none) =
      some (.nx, LE s (.nd (.lst .frz) (ns.map D.int)) (.nd (.lst pf) (names.map D.str)) S O (pastD l) y6 y7 y8 y9 y10 none) := by
  have ei : itEnum [eVar 1] (LE s (.nd (.lst .frz) (ns.map D.int)) (.nd (.lst pf) (names.map D.str)) (two (gD .own []) (gD .own [])) (two (oD .own []) (oD .own [])) (pastD []) none none none none none none) = .ok (enumD (ns.map D.int), true) := by
    unfold itEnum
    simp [listOf]
    rfl
  have ok0 : StOk [] := ⟨List.nodup_nil, by decide, fun _ h => nomatch h⟩
  obtain ⟨ρ', e, a, b, l, y6, y7, y8, y9, y10, oka, okb, okl, hl, h⟩ := sFor_ok (tg := tgTup [tgName 6, tgName 7]) (b := lb_law_2) ei
    (fun j ρ => ∃ a b l y6 y7 y8 y9 y10, StOk a ∧ StOk b ∧ (∀ s ∈ l, StOk s) ∧ l.length ≤ j ∧ ρ = LE s (.nd (.lst .frz) (ns.map D.int)) (.nd (.lst pf) (names.map D.str)) (two (gD .own a) (gD .own b)) (two (oD .own a) (oD .own b)) (pastD l) y6 y7 y8 y9 y10 none)
    ⟨[], [], [], none, none, none, none, none, ok0, ok0, (fun _ h => nomatch h), Nat.le_refl _, rfl⟩ fun j d ρ hd ⟨a, b, l, y6, y7, y8, y9, y10, oka, okb, okl, hl, hρ⟩ => by
    subst hρ
    obtain ⟨d', hd', rfl⟩ := enumD_get hd
    rw [List.getElem?_map] at hd'
    cases hc : ns[j]? with
    | none => rw [hc] at hd'; cases hd'
    | some c =>
      rw [hc] at hd'
      cases hd'
      have hj : j < ns.length := (List.getElem?_eq_some_iff.mp hc).1
      obtain ⟨a', b', l', z8, z9, z10, oka', okb', okl', hl', e⟩ := turn_eq (s := s) (cs := .nd (.lst .frz) (ns.map D.int)) (j := (j : Int)) (c := c) (x8 := y8) (x9 := y9) (x10 := y10) (x11 := none) oka okb okl (by omega) p hp (by omega)
      exact ⟨_, _, rfl, e, a', b', l', some (.int j), some (.int c), z8, z9, z10, oka', okb', okl', by omega, rfl⟩
  subst h
  refine ⟨two (gD .own a) (gD .own b), two (oD .own a) (oD .own b), l, y6, y7, y8, y9, y10, okl, ?_, ?_⟩
  · have : (enumD (ns.map D.int)).length ≤ ns.length := by unfold enumD; simp
    omega
  · unfold lp_law_2
    rw [sFz_eq]
    have : fzE 1 (LE s (.nd (.lst .own) (ns.map D.int)) (.nd (.lst pf) (names.map D.str)) (two (gD .own []) (gD .own [])) (two (oD .own []) (oD .own [])) (pastD []) none none none none none none) = LE s (.nd (.lst .frz) (ns.map D.int)) (.nd (.lst pf) (names.map D.str)) (two (gD .own []) (gD .own [])) (two (oD .own []) (oD .own [])) (pastD []) none none none none none none := by simp
    rw [this]
    exact e
theorem last_eq {s cs P S O : D} {l : List (List Gd)} {x6 x7 x8 x9 x10 x11 : Option D} (okl : ∀ s ∈ l, StOk s) (hl : l.length ≤ 63) : cp_law_1 (LE s cs P S O (pastD l) x6 x7 x8 x9 x10 x11) = .ok (.nd (.lst .own) []) := by
  haveI : Bd (4 : Int) 20 := ⟨by decide⟩
  have ei : ∃ q, itV (eVar 5) (LE s cs P S O (pastD l) x6 x7 x8 x9 x10 x11) = .ok (l.map paE, q) := by
    refine ⟨false && (l.map paE).all noT, ?_⟩
    have m : ∀ g : Fl → Fl, g .frz = .frz → (l.map paE).map (mapF g) = l.map paE := fun g hg => by
      rw [List.map_map]
      apply List.map_congr_left
      intro x _
      simp [paE, hg]
    have m1 := m Fl.toTmp rfl
    have m2 : (l.map paE).map toFrz = l.map paE := m Fl.toFrz rfl
    unfold pastD
    generalize l.map paE = L at m1 m2 ⊢
    simp [itemsD, m1, m2]
  obtain ⟨q, ei⟩ := ei
  have ec := compL_filter (tg := tgName 11) (c := cc_law_1) (f := eVar 11) (ρ := wipeE (LE s cs P S O (pastD l) x6 x7 x8 x9 x10 x11) [11]) (fun _ => false) id (l.map paE) fun d hd => by
    obtain ⟨x, hx, rfl⟩ := List.mem_map.mp hd
    have e := right_eq (n := 4) (f := .frz) (f2 := .frz) (.inr rfl) (.inr rfl) (okl x hx) (by decide) (by decide)
    refine ⟨_, rfl, ?_, fun h => nomatch h⟩
    unfold cc_law_1
    simp (decide := true) [paE, e]
  unfold cp_law_1
  refine eComp_ok ei (ec.trans ?_) (by decide)
  rw [List.filter_eq_nil_iff.mpr (fun _ _ => Bool.false_ne_true)]
  rfl
theorem law_is (ns : List Int) (hl : ns.length ≤ 63) (hb : ∀ z ∈ ns, Builtin.Int.intBits z ≤ 1048576) : m_law [.nd (.lst .bor) (ns.map .int)] = .ok (.bl true) := by
  have ec : pSl (.nd (.lst .bor) (ns.map D.int)) none (some 63) = some (.nd (.lst .own) (ns.map D.int)) := by
    rw [sl_lst]
    have := cut_nat (xs := ns.map D.int) (k := 63)
    rw [show ((63 : Nat) : Int) = 63 from rfl] at this
    rw [this, List.take_of_length_le (by rw [List.length_map]; exact hl)]
  have es : ∀ f : Fl, pSl (.nd (.lst f) (ns.map D.int)) none (some 3) = some (.nd (.lst .own) ((ns.take 3).map D.int)) := fun f => by
    rw [sl_lst]
    have := cut_nat (xs := ns.map D.int) (k := 3)
    rw [show ((3 : Nat) : Int) = 3 from rfl] at this
    rw [this, List.map_take]
  have ea : pSum [.nd (.lst .own) ((ns.take 3).map D.int)] = some (.int (ns.take 3).sum) := by
    have : ∀ l : List Int, intsD (l.map .int) = some l := by
      intro l
      induction l with
      | nil => rfl
      | cons a l ih => rw [List.map_cons, intsD, ih]; rfl
    show (intsD _).map _ = _
    rw [this]; rfl
  obtain ⟨pf, names, ep, hpf, p⟩ := pool_eq (ns.take 3).sum
  have nb : noB (.nd (.lst pf) (names.map D.str)) = true := by rcases hpf with rfl | rfl <;> simp
  have nt : noT (.nd (.lst pf) (names.map D.str)) = true := by rcases hpf with rfl | rfl <;> simp
  obtain ⟨s, hs⟩ : ∃ s : D, s = .nd (.lst .bor) (ns.map D.int) := ⟨_, rfl⟩
  obtain ⟨cs, hcs⟩ : ∃ cs : D, cs = .nd (.lst .own) (ns.map D.int) := ⟨_, rfl⟩
  obtain ⟨P, hP⟩ : ∃ P : D, P = .nd (.lst pf) (names.map D.str) := ⟨_, rfl⟩
  have i0 : initE 12 [.nd (.lst .bor) (ns.map D.int)] = [some s, none, none, none, none, none, none, none, none, none, none, none] := by rw [hs]; rfl
  have s6 : st_law_6 [some s, none, none, none, none, none, none, none, none, none, none, none] = some (.nx, [some s, some cs, none, none, none, none, none, none, none, none, none, none]) := by
    unfold st_law_6
    have v0 : eVar 0 [some s, none, none, none, none, none, none, none, none, none, none, none] = .ok (.nd (.lst .bor) (ns.map D.int)) := by rw [hs]; simp [map_int_tmp]
    have e1 : eSl pSl (eVar 0) oNone (oSome (eC (.int 63))) [some s, none, none, none, none, none, none, none, none, none, none, none] = .ok cs := by
      simp only [eSl, oNone, oSome, eC, v0, Ot.bind_ok, asI, ec, Ot.of_some, hcs]
    rw [sSet_ok e1 (by rw [hcs]; simp)]
    rfl
  have s7 : st_law_7 [some s, some cs, none, none, none, none, none, none, none, none, none, none] = some (.nx, [some s, some cs, some P, none, none, none, none, none, none, none, none, none]) := by
    unfold st_law_7
    have e1 : ePr pSum [eSl pSl (eVar 1) oNone (oSome (eC (.int 3)))] [some s, some cs, none, none, none, none, none, none, none, none, none, none] = .ok (.int (ns.take 3).sum) := by
      have v1 : eVar 1 [some s, some cs, none, none, none, none, none, none, none, none, none, none] = .ok (.nd (.lst .tmp) (ns.map D.int)) := by rw [hcs]; simp [map_int_tmp]
      simp only [ePr, eL, eSl, oNone, oSome, eC, v1, Ot.bind_ok, asI, es, Ot.of_some, ea]
    have e2 : eCall m__law_pool [] [ePr pSum [eSl pSl (eVar 1) oNone (oSome (eC (.int 3)))], eC (.int 16)] [some s, some cs, none, none, none, none, none, none, none, none, none, none] = .ok P := by
      unfold eCall
      simp only [eL, e1, eC, Ot.bind_ok]
      show back (m__law_pool [.int (ns.take 3).sum, .int 16]) = _
      rw [ep, back_ok, if_pos nb, hP]
    rw [sSet_ok e2 (by rw [hP]; exact nt)]
    rfl
  have em : ∀ ρ, eMake "Goods" m_Goods___init__ [] [] ρ = .ok (gD .own []) := fun ρ => make_eq
  have s8 : st_law_8 [some s, some cs, some P, none, none, none, none, none, none, none, none, none] = some (.nx, [some s, some cs, some P, some (two (gD .own []) (gD .own [])), none, none, none, none, none, none, none, none]) := by
    unfold st_law_8
    simp (decide := true) [-eMake_eq, em]
  have s9 : st_law_9 [some s, some cs, some P, some (two (gD .own []) (gD .own [])), none, none, none, none, none, none, none, none] = some (.nx, [some s, some cs, some P, some (two (gD .own []) (gD .own [])), some (two (oD .own []) (oD .own [])), none, none, none, none, none, none, none]) := by
    unfold st_law_9
    simp (decide := true)
    rfl
  obtain ⟨S, O, l, y6, y7, y8, y9, y10, okl, hll, e⟩ := loop_eq (s := s) hl p hpf
  have el := last_eq (s := s) (cs := .nd (.lst .frz) (ns.map D.int)) (P := P) (S := S) (O := O) (x6 := y6) (x7 := y7) (x8 := y8) (x9 := y9) (x10 := y10) (x11 := none) okl hll
  unfold m_law
  rw [bodyM_eq, i0]
  unfold g_law
  rw [sSeq_nx s6, sSeq_nx s7, sSeq_nx s8, sSeq_nx s9]
  rw [sSeq_nx (ρ1 := LE s cs P (two (gD .own []) (gD .own [])) (two (oD .own []) (oD .own [])) (pastD []) none none none none none none) (by simp (decide := true); rfl)]
  rw [← hcs, ← hP] at e
  rw [sSeq_nx e]
  simp (decide := true) [el]
end OB

namespace OB
open PySem PySem.Spec PyProof.Rows L2
def d__law_draw : He.DefD := ⟨("_law_draw", none), "_law_draw", "_law_draw", defArgs s__law_draw, defBody s__law_draw, defScope s__law_draw, [], []⟩
def d__law_pool : He.DefD := ⟨("_law_pool", none), "_law_pool", "_law_pool", defArgs s__law_pool, defBody s__law_pool, defScope s__law_pool, [], []⟩
def d_Goods___init__ : He.DefD := ⟨("Goods", some "__init__"), "__init__", "Goods.__init__", defArgs s_Goods___init__, defBody s_Goods___init__, defScope s_Goods___init__, [], []⟩
def d__law_kept : He.DefD := ⟨("_law_kept", none), "_law_kept", "_law_kept", defArgs s__law_kept, defBody s__law_kept, defScope s__law_kept, [], []⟩
def d_are_signs : He.DefD := ⟨("are_signs", none), "are_signs", "are_signs", defArgs s_are_signs, defBody s_are_signs, defScope s_are_signs, [], []⟩
def d_is_name : He.DefD := ⟨("is_name", none), "is_name", "is_name", defArgs s_is_name, defBody s_is_name, defScope s_is_name, [], []⟩
def d_need_names : He.DefD := ⟨("need_names", none), "need_names", "need_names", defArgs s_need_names, defBody s_need_names, defScope s_need_names, [], []⟩
def d_Goods_put_good : He.DefD := ⟨("Goods", some "put_good"), "put_good", "Goods.put_good", defArgs s_Goods_put_good, defBody s_Goods_put_good, defScope s_Goods_put_good, [.non], []⟩
def d_Goods_copied : He.DefD := ⟨("Goods", some "copied"), "copied", "Goods.copied", defArgs s_Goods_copied, defBody s_Goods_copied, defScope s_Goods_copied, [], []⟩
def d__law_put : He.DefD := ⟨("_law_put", none), "_law_put", "_law_put", defArgs s__law_put, defBody s__law_put, defScope s__law_put, [], []⟩
def d__law_lowest : He.DefD := ⟨("_law_lowest", none), "_law_lowest", "_law_lowest", defArgs s__law_lowest, defBody s__law_lowest, defScope s__law_lowest, [], []⟩
def d__law_amount : He.DefD := ⟨("_law_amount", none), "_law_amount", "_law_amount", defArgs s__law_amount, defBody s__law_amount, defScope s__law_amount, [], []⟩
def d_Goods_need_good : He.DefD := ⟨("Goods", some "need_good"), "need_good", "Goods.need_good", defArgs s_Goods_need_good, defBody s_Goods_need_good, defScope s_Goods_need_good, [], []⟩
def d_is_whole : He.DefD := ⟨("is_whole", none), "is_whole", "is_whole", defArgs s_is_whole, defBody s_is_whole, defScope s_is_whole, [], []⟩
def d_common : He.DefD := ⟨("common", none), "common", "common", defArgs s_common, defBody s_common, defScope s_common, [], []⟩
def d_is_ratio : He.DefD := ⟨("is_ratio", none), "is_ratio", "is_ratio", defArgs s_is_ratio, defBody s_is_ratio, defScope s_is_ratio, [], []⟩
def d_is_amount : He.DefD := ⟨("is_amount", none), "is_amount", "is_amount", defArgs s_is_amount, defBody s_is_amount, defScope s_is_amount, [], []⟩
def d_Goods_put_measure : He.DefD := ⟨("Goods", some "put_measure"), "put_measure", "Goods.put_measure", defArgs s_Goods_put_measure, defBody s_Goods_put_measure, defScope s_Goods_put_measure, [], []⟩
def d__law_deed : He.DefD := ⟨("_law_deed", none), "_law_deed", "_law_deed", defArgs s__law_deed, defBody s__law_deed, defScope s__law_deed, [], []⟩
def d_Goods_called_goods : He.DefD := ⟨("Goods", some "called_goods"), "called_goods", "Goods.called_goods", defArgs s_Goods_called_goods, defBody s_Goods_called_goods, defScope s_Goods_called_goods, [], []⟩
def d_Goods_marks_of : He.DefD := ⟨("Goods", some "marks_of"), "marks_of", "Goods.marks_of", defArgs s_Goods_marks_of, defBody s_Goods_marks_of, defScope s_Goods_marks_of, [], []⟩
def d_Goods_measures_of : He.DefD := ⟨("Goods", some "measures_of"), "measures_of", "Goods.measures_of", defArgs s_Goods_measures_of, defBody s_Goods_measures_of, defScope s_Goods_measures_of, [], []⟩
def d__law_is_ratio : He.DefD := ⟨("_law_is_ratio", none), "_law_is_ratio", "_law_is_ratio", defArgs s__law_is_ratio, defBody s__law_is_ratio, defScope s__law_is_ratio, [], []⟩
def d_ratio : He.DefD := ⟨("ratio", none), "ratio", "ratio", defArgs s_ratio, defBody s_ratio, defScope s_ratio, [(.int 1)], []⟩
def d_times : He.DefD := ⟨("times", none), "times", "times", defArgs s_times, defBody s_times, defScope s_times, [], []⟩
def d_Goods_own_amount : He.DefD := ⟨("Goods", some "own_amount"), "own_amount", "Goods.own_amount", defArgs s_Goods_own_amount, defBody s_Goods_own_amount, defScope s_Goods_own_amount, [], []⟩
def d__law_named_right : He.DefD := ⟨("_law_named_right", none), "_law_named_right", "_law_named_right", defArgs s__law_named_right, defBody s__law_named_right, defScope s__law_named_right, [], []⟩
def d__law_right : He.DefD := ⟨("_law_right", none), "_law_right", "_law_right", defArgs s__law_right, defBody s__law_right, defScope s__law_right, [], []⟩
def d_law : He.DefD := ⟨("law", none), "law", "law", defArgs s_law, defBody s_law, defScope s_law, [], []⟩
def fnL : List He.DefD := [d__law_draw, d__law_pool, d_Goods___init__, d__law_kept, d_are_signs, d_is_name, d_need_names, d_Goods_put_good, d_Goods_copied, d__law_put, d__law_lowest, d__law_amount, d_Goods_need_good, d_is_whole, d_common, d_is_ratio, d_is_amount, d_Goods_put_measure, d__law_deed, d_Goods_called_goods, d_Goods_marks_of, d_Goods_measures_of, d__law_is_ratio, d_ratio, d_times, d_Goods_own_amount, d__law_named_right, d__law_right, d_law]
def faL : List He.Fa := [.int "MOST_LETTERS" 12, .str "LETTERS" "abcdefghijklmnopqrstuvwxyz", .int "MOST_MARKS" 6, .int "MOST_GOODS" 10, .int "MOST_TOP" 1000000000000, .int "MOST_BOTTOM" 1000000, .int "MOST_MEASURES" 6, .free "range", .free "enumerate", .free "dict", .free "list", .free "all", .free "isinstance", .free "str", .free "len", .free "set", .free "abs", .free "int", .free "bool", .free "tuple", .free "sum", .cls "Goods", .noat "Goods" "crowd", .noat "Goods" "signs", .noat "Goods" "sizes", .glo "Goods", .glo "law", .glo "_law_draw", .glo "_law_pool", .mkr "Goods", .glo "_law_kept", .glo "are_signs", .glo "is_name", .glo "need_names", .meth "Goods" "put_good", .meth "Goods" "copied", .glo "_law_put", .glo "_law_lowest", .glo "_law_amount", .meth "Goods" "need_good", .glo "is_whole", .glo "common", .glo "is_ratio", .glo "is_amount", .meth "Goods" "put_measure", .glo "_law_deed", .meth "Goods" "called_goods", .meth "Goods" "marks_of", .meth "Goods" "measures_of", .glo "_law_is_ratio", .glo "ratio", .glo "times", .meth "Goods" "own_amount", .glo "_law_named_right", .glo "_law_right"]
def xsL : List (PySem.W.Frag → Bool) := [insB "Goods"]
abbrev RR : PySem.W.OpenRow := PySem.W.OpenLaw.row PySem.Challenge.rw_larderwise_k03_goods_by_deeds
abbrev hk : PySem.W.Hook := hookY 6 xsL faL fnL
def obK (s : PySem.W.SharedT) : He.AlD := obsY 6 xsL faL fnL (HandSHeadRun.getT s)
theorem obK_eq (s : PySem.W.SharedT) : obK s = hk.obs s.abs := obsY_eq (HandSHeadRun.getT_eq s)
def looseL : List PySem.Str := (["LarderError", "BadName", "Twice", "TooMany", "BadAmount", "NoGood", "NoMeasure", "LETTERS", "MOST_LETTERS", "is_whole", "are_signs", "is_name", "MOST_TOP", "MOST_BOTTOM", "common", "ratio", "times", "is_ratio", "is_amount", "MOST_GOODS", "MOST_MARKS", "MOST_MEASURES", "need_names", "Goods", "_law_draw", "_law_pool", "_law_lowest", "_law_amount", "_law_is_ratio", "_law_put"] : List PySem.Str) ++ (["_law_deed", "_law_named_right", "_law_right", "_law_kept"] : List PySem.Str)
theorem runK (w : World) : HandSHeadRun.RunEq RR (PySem.W.view RR.prog [39]) hk obK 4000 looseL w := by
  intro os
  kernel_rfl
theorem factsK {w : World} {K : PySem.W.Frag} {h : Heap} {mg : Str → Option Value} {f : Addr} (X : K.In h) (G : h.Ns mainGlobals mg) (hfa : mg ("law" : Str) = some (.ref f)) (cz : SaysY xsL faL fnL K) :
    ∃ fd : FuncData, (∀ (s : Shared) (v : Value), BindsTo s fd ⟨[v], []⟩ [("_law_script", v)]) ∧ ∀ base : Heap, K.In base → base.Ns mainGlobals mg → FnOk P0 w K mg base (L2.CX P0 w) 7 f fd ["_law_script"] (spP K (He.ga K) 1 m_law) := by
  have c := cz.z.c
  have T : Txt K mg (He.ga K) := ⟨He.int_ok X G (c.fact 0 rfl), He.str_ok X G (c.fact 1 rfl), He.int_ok X G (c.fact 2 rfl), He.int_ok X G (c.fact 3 rfl), He.int_ok X G (c.fact 4 rfl), He.int_ok X G (c.fact 5 rfl), He.int_ok X G (c.fact 6 rfl), He.free_ok X G (c.fact 7 rfl), He.free_ok X G (c.fact 8 rfl), He.free_ok X G (c.fact 9 rfl), He.free_ok X G (c.fact 10 rfl), He.free_ok X G (c.fact 11 rfl), He.free_ok X G (c.fact 12 rfl), He.free_ok X G (c.fact 13 rfl), He.free_ok X G (c.fact 14 rfl), He.free_ok X G (c.fact 15 rfl), He.free_ok X G (c.fact 16 rfl), He.free_ok X G (c.fact 17 rfl), He.free_ok X G (c.fact 18 rfl), He.free_ok X G (c.fact 19 rfl), He.free_ok X G (c.fact 20 rfl), (List.forall_mem_cons.mpr ⟨⟨He.cls_ok (c.fact 21 rfl), He.noat_ok (c.fact 22 rfl)⟩, (fun c h => nomatch h)⟩), (List.forall_mem_cons.mpr ⟨⟨He.cls_ok (c.fact 21 rfl), He.noat_ok (c.fact 23 rfl)⟩, (fun c h => nomatch h)⟩), (List.forall_mem_cons.mpr ⟨⟨He.cls_ok (c.fact 21 rfl), He.noat_ok (c.fact 24 rfl)⟩, (fun c h => nomatch h)⟩), He.glo_ok X G (c.fact 25 rfl), insB_ok (cz.at_ 0 rfl) (He.cls_ok (c.fact 21 rfl)), cz.z.dig⟩
  obtain ⟨fd__law_draw, F__law_draw⟩ := c.def_ 0 (d := d__law_draw) rfl
  have U__law_draw : Fun K "_law_draw" "_law_draw" s__law_draw _ fd__law_draw := He5.fun_of (st := s__law_draw) F__law_draw
  obtain ⟨fd__law_pool, F__law_pool⟩ := c.def_ 1 (d := d__law_pool) rfl
  have U__law_pool : Fun K "_law_pool" "_law_pool" s__law_pool _ fd__law_pool := He5.fun_of (st := s__law_pool) F__law_pool
  obtain ⟨fd_Goods___init__, F_Goods___init__⟩ := c.def_ 2 (d := d_Goods___init__) rfl
  have U_Goods___init__ := F_Goods___init__
  obtain ⟨fd__law_kept, F__law_kept⟩ := c.def_ 3 (d := d__law_kept) rfl
  have U__law_kept : Fun K "_law_kept" "_law_kept" s__law_kept _ fd__law_kept := He5.fun_of (st := s__law_kept) F__law_kept
  obtain ⟨fd_are_signs, F_are_signs⟩ := c.def_ 4 (d := d_are_signs) rfl
  have U_are_signs : Fun K "are_signs" "are_signs" s_are_signs _ fd_are_signs := He5.fun_of (st := s_are_signs) F_are_signs
  obtain ⟨fd_is_name, F_is_name⟩ := c.def_ 5 (d := d_is_name) rfl
  have U_is_name : Fun K "is_name" "is_name" s_is_name _ fd_is_name := He5.fun_of (st := s_is_name) F_is_name
  obtain ⟨fd_need_names, F_need_names⟩ := c.def_ 6 (d := d_need_names) rfl
  have U_need_names : Fun K "need_names" "need_names" s_need_names _ fd_need_names := He5.fun_of (st := s_need_names) F_need_names
  obtain ⟨fd_Goods_put_good, F_Goods_put_good⟩ := c.def_ 7 (d := d_Goods_put_good) rfl
  have U_Goods_put_good := F_Goods_put_good
  obtain ⟨fd_Goods_copied, F_Goods_copied⟩ := c.def_ 8 (d := d_Goods_copied) rfl
  have U_Goods_copied := F_Goods_copied
  obtain ⟨fd__law_put, F__law_put⟩ := c.def_ 9 (d := d__law_put) rfl
  have U__law_put := F__law_put
  obtain ⟨fd__law_lowest, F__law_lowest⟩ := c.def_ 10 (d := d__law_lowest) rfl
  have U__law_lowest : Fun K "_law_lowest" "_law_lowest" s__law_lowest _ fd__law_lowest := He5.fun_of (st := s__law_lowest) F__law_lowest
  obtain ⟨fd__law_amount, F__law_amount⟩ := c.def_ 11 (d := d__law_amount) rfl
  have U__law_amount : Fun K "_law_amount" "_law_amount" s__law_amount _ fd__law_amount := He5.fun_of (st := s__law_amount) F__law_amount
  obtain ⟨fd_Goods_need_good, F_Goods_need_good⟩ := c.def_ 12 (d := d_Goods_need_good) rfl
  have U_Goods_need_good := F_Goods_need_good
  obtain ⟨fd_is_whole, F_is_whole⟩ := c.def_ 13 (d := d_is_whole) rfl
  have U_is_whole : Fun K "is_whole" "is_whole" s_is_whole _ fd_is_whole := He5.fun_of (st := s_is_whole) F_is_whole
  obtain ⟨fd_common, F_common⟩ := c.def_ 14 (d := d_common) rfl
  have U_common : Fun K "common" "common" s_common _ fd_common := He5.fun_of (st := s_common) F_common
  obtain ⟨fd_is_ratio, F_is_ratio⟩ := c.def_ 15 (d := d_is_ratio) rfl
  have U_is_ratio : Fun K "is_ratio" "is_ratio" s_is_ratio _ fd_is_ratio := He5.fun_of (st := s_is_ratio) F_is_ratio
  obtain ⟨fd_is_amount, F_is_amount⟩ := c.def_ 16 (d := d_is_amount) rfl
  have U_is_amount : Fun K "is_amount" "is_amount" s_is_amount _ fd_is_amount := He5.fun_of (st := s_is_amount) F_is_amount
  obtain ⟨fd_Goods_put_measure, F_Goods_put_measure⟩ := c.def_ 17 (d := d_Goods_put_measure) rfl
  have U_Goods_put_measure := F_Goods_put_measure
  obtain ⟨fd__law_deed, F__law_deed⟩ := c.def_ 18 (d := d__law_deed) rfl
  have U__law_deed := F__law_deed
  obtain ⟨fd_Goods_called_goods, F_Goods_called_goods⟩ := c.def_ 19 (d := d_Goods_called_goods) rfl
  have U_Goods_called_goods := F_Goods_called_goods
  obtain ⟨fd_Goods_marks_of, F_Goods_marks_of⟩ := c.def_ 20 (d := d_Goods_marks_of) rfl
  have U_Goods_marks_of := F_Goods_marks_of
  obtain ⟨fd_Goods_measures_of, F_Goods_measures_of⟩ := c.def_ 21 (d := d_Goods_measures_of) rfl
  have U_Goods_measures_of := F_Goods_measures_of
  obtain ⟨fd__law_is_ratio, F__law_is_ratio⟩ := c.def_ 22 (d := d__law_is_ratio) rfl
  have U__law_is_ratio : Fun K "_law_is_ratio" "_law_is_ratio" s__law_is_ratio _ fd__law_is_ratio := He5.fun_of (st := s__law_is_ratio) F__law_is_ratio
  obtain ⟨fd_ratio, F_ratio⟩ := c.def_ 23 (d := d_ratio) rfl
  have U_ratio := F_ratio
  obtain ⟨fd_times, F_times⟩ := c.def_ 24 (d := d_times) rfl
  have U_times : Fun K "times" "times" s_times _ fd_times := He5.fun_of (st := s_times) F_times
  obtain ⟨fd_Goods_own_amount, F_Goods_own_amount⟩ := c.def_ 25 (d := d_Goods_own_amount) rfl
  have U_Goods_own_amount := F_Goods_own_amount
  obtain ⟨fd__law_named_right, F__law_named_right⟩ := c.def_ 26 (d := d__law_named_right) rfl
  have U__law_named_right : Fun K "_law_named_right" "_law_named_right" s__law_named_right _ fd__law_named_right := He5.fun_of (st := s__law_named_right) F__law_named_right
  obtain ⟨fd__law_right, F__law_right⟩ := c.def_ 27 (d := d__law_right) rfl
  have U__law_right : Fun K "_law_right" "_law_right" s__law_right _ fd__law_right := He5.fun_of (st := s__law_right) F__law_right
  obtain ⟨fd_law, F_law⟩ := c.def_ 28 (d := d_law) rfl
  have U_law : Fun K "law" "law" s_law _ fd_law := He5.fun_of (st := s_law) F_law
  have e := hfa.symm.trans (He.glo_ok X G (c.fact 26 (f := .glo "law") rfl))
  cases e
  have b := FunD.bindsA (ps := ["_law_script"]) F_law fun _ _ _ _ _ _ us hl => match us, hl with | [_], _ => rfl
  refine ⟨fd_law, fun s v => b s [v] rfl, fun base _ _ => ?_⟩
  have O__law_draw := ok__law_draw (base := base) (w := w) T U__law_draw
  have G__law_draw : Good P0 w K mg base (He.ga K) "_law_draw" 3 1 m__law_draw := by
    exact ⟨_, fd__law_draw, ["_law_cell", "_law_k", "_law_j"], He.glo_ok X G (c.fact 27 rfl), F__law_draw.kp, (FunD.bindsN F__law_draw fun _ _ _ _ _ _ us hl => match us, hl with | [_, _, _], _ => rfl), O__law_draw⟩
  have O__law_pool := ok__law_pool (base := base) (w := w) T U__law_pool G__law_draw
  have G__law_pool : Good P0 w K mg base (He.ga K) "_law_pool" 2 2 m__law_pool := by
    exact ⟨_, fd__law_pool, ["_law_cell", "_law_many"], He.glo_ok X G (c.fact 28 rfl), F__law_pool.kp, (FunD.bindsN F__law_pool fun _ _ _ _ _ _ us hl => match us, hl with | [_, _], _ => rfl), O__law_pool⟩
  have O_Goods___init__ := ok_Goods___init__ (base := base) (w := w) T U_Goods___init__
  have Mk_Goods : GoodMk P0 w K mg base (He.ga K) "Goods" 1 (spM K (He.ga K) 1 [0] m_Goods___init__) [] := by
    exact ⟨_, fd_Goods___init__, ["self"], [], He.glo_ok X G (c.fact 25 rfl), He.mkr_ok (c.fact 29 rfl), (FunD.bindsN F_Goods___init__ fun _ _ _ _ _ _ us hl => match us, hl with | [_], _ => rfl), .nil, O_Goods___init__⟩
  have O__law_kept := ok__law_kept (base := base) (w := w) T U__law_kept
  have G__law_kept : Good P0 w K mg base (He.ga K) "_law_kept" 1 1 m__law_kept := by
    exact ⟨_, fd__law_kept, ["_law_own"], He.glo_ok X G (c.fact 30 rfl), F__law_kept.kp, (FunD.bindsN F__law_kept fun _ _ _ _ _ _ us hl => match us, hl with | [_], _ => rfl), O__law_kept⟩
  have O_are_signs := ok_are_signs (base := base) (w := w) T U_are_signs
  have G_are_signs : Good P0 w K mg base (He.ga K) "are_signs" 2 1 m_are_signs := by
    exact ⟨_, fd_are_signs, ["text", "signs"], He.glo_ok X G (c.fact 31 rfl), F_are_signs.kp, (FunD.bindsN F_are_signs fun _ _ _ _ _ _ us hl => match us, hl with | [_, _], _ => rfl), O_are_signs⟩
  have O_is_name := ok_is_name (base := base) (w := w) T U_is_name G_are_signs
  have G_is_name : Good P0 w K mg base (He.ga K) "is_name" 1 2 m_is_name := by
    exact ⟨_, fd_is_name, ["thing"], He.glo_ok X G (c.fact 32 rfl), F_is_name.kp, (FunD.bindsN F_is_name fun _ _ _ _ _ _ us hl => match us, hl with | [_], _ => rfl), O_is_name⟩
  have O_need_names := ok_need_names (base := base) (w := w) T U_need_names G_is_name
  have G_need_names : Good P0 w K mg base (He.ga K) "need_names" 1 3 m_need_names := by
    exact ⟨_, fd_need_names, ["things"], He.glo_ok X G (c.fact 33 rfl), F_need_names.kp, (FunD.bindsN F_need_names fun _ _ _ _ _ _ us hl => match us, hl with | [_], _ => rfl), O_need_names⟩
  have O_Goods_put_good := ok_Goods_put_good (base := base) (w := w) T U_Goods_put_good G_is_name G_need_names
  have Mt_Goods_put_good_0 : GoodMt P0 w K mg base (He.ga K) "Goods" "put_good" 4 (spM K (He.ga K) 3 [0] m_Goods_put_good) [] := by
    obtain ⟨ds, hv, hb⟩ := FunD.binds1 (ps := ["self", "name", "marks"]) F_Goods_put_good 3 1 (List.cons_ne_nil _ _) (by rfl) fun _ _ _ _ _ _ _ us its hu hi => match us, its, hu, hi with | [_, _, _], [_], _, _ => ⟨_, rfl, rfl⟩
    exact ⟨_, fd_Goods_put_good, ["self", "name", "marks"], ds, He.cls_ok (c.fact 21 rfl), He.meth_ok (c.fact 34 rfl), hb, hv, O_Goods_put_good⟩
  have Mt_Goods_put_good_1 : GoodMt P0 w K mg base (He.ga K) "Goods" "put_good" 4 (spM K (He.ga K) 3 [0] m_Goods_put_good) [.non] := by
    obtain ⟨ds, hv, hb⟩ := FunD.binds1 (ps := ["self", "name", "marks"]) F_Goods_put_good 2 0 (List.cons_ne_nil _ _) (by rfl) fun _ _ _ _ _ _ _ us its hu hi => match us, its, hu, hi with | [_, _], [_], _, _ => ⟨_, rfl, rfl⟩
    exact ⟨_, fd_Goods_put_good, ["self", "name", "marks"], ds, He.cls_ok (c.fact 21 rfl), He.meth_ok (c.fact 34 rfl), hb, hv, O_Goods_put_good⟩
  have O_Goods_copied := ok_Goods_copied (base := base) (w := w) T U_Goods_copied Mt_Goods_put_good_0 Mk_Goods
  have Mt_Goods_copied_0 : GoodMt P0 w K mg base (He.ga K) "Goods" "copied" 5 (spP K (He.ga K) 1 m_Goods_copied) [] := by
    exact ⟨_, fd_Goods_copied, ["self"], [], He.cls_ok (c.fact 21 rfl), He.meth_ok (c.fact 35 rfl), (FunD.bindsN F_Goods_copied fun _ _ _ _ _ _ us hl => match us, hl with | [_], _ => rfl), .nil, O_Goods_copied⟩
  have O__law_put := ok__law_put (base := base) (w := w) T U__law_put G__law_draw Mt_Goods_put_good_1 Mt_Goods_put_good_0
  have Gf__law_put_0 : GoodF P0 w K mg base "_law_put" 5 (spM K (He.ga K) 5 [0, 1] m__law_put) [] := by
    exact ⟨_, fd__law_put, ["_law_goods", "_law_own", "_law_pool_here", "_law_cell", "_law_k"], [], He.glo_ok X G (c.fact 36 rfl), F__law_put.kp, (FunD.bindsN F__law_put fun _ _ _ _ _ _ us hl => match us, hl with | [_, _, _, _, _], _ => rfl), .nil, O__law_put⟩
  have O__law_lowest := ok__law_lowest (base := base) (w := w) T U__law_lowest
  have G__law_lowest : Good P0 w K mg base (He.ga K) "_law_lowest" 2 1 m__law_lowest := by
    exact ⟨_, fd__law_lowest, ["_law_top", "_law_bottom"], He.glo_ok X G (c.fact 37 rfl), F__law_lowest.kp, (FunD.bindsN F__law_lowest fun _ _ _ _ _ _ us hl => match us, hl with | [_, _], _ => rfl), O__law_lowest⟩
  have O__law_amount := ok__law_amount (base := base) (w := w) T U__law_amount G__law_draw G__law_lowest
  have G__law_amount : Good P0 w K mg base (He.ga K) "_law_amount" 3 2 m__law_amount := by
    exact ⟨_, fd__law_amount, ["_law_cell", "_law_k", "_law_j"], He.glo_ok X G (c.fact 38 rfl), F__law_amount.kp, (FunD.bindsN F__law_amount fun _ _ _ _ _ _ us hl => match us, hl with | [_, _, _], _ => rfl), O__law_amount⟩
  have O_Goods_need_good := ok_Goods_need_good (base := base) (w := w) T U_Goods_need_good
  have Mt_Goods_need_good_0 : GoodMt P0 w K mg base (He.ga K) "Goods" "need_good" 1 (spP K (He.ga K) 2 m_Goods_need_good) [] := by
    exact ⟨_, fd_Goods_need_good, ["self", "name"], [], He.cls_ok (c.fact 21 rfl), He.meth_ok (c.fact 39 rfl), (FunD.bindsN F_Goods_need_good fun _ _ _ _ _ _ us hl => match us, hl with | [_, _], _ => rfl), .nil, O_Goods_need_good⟩
  have O_is_whole := ok_is_whole (base := base) (w := w) T U_is_whole
  have G_is_whole : Good P0 w K mg base (He.ga K) "is_whole" 1 1 m_is_whole := by
    exact ⟨_, fd_is_whole, ["thing"], He.glo_ok X G (c.fact 40 rfl), F_is_whole.kp, (FunD.bindsN F_is_whole fun _ _ _ _ _ _ us hl => match us, hl with | [_], _ => rfl), O_is_whole⟩
  have O_common := ok_common (base := base) (w := w) T U_common
  have G_common : Good P0 w K mg base (He.ga K) "common" 2 1 m_common := by
    exact ⟨_, fd_common, ["one", "other"], He.glo_ok X G (c.fact 41 rfl), F_common.kp, (FunD.bindsN F_common fun _ _ _ _ _ _ us hl => match us, hl with | [_, _], _ => rfl), O_common⟩
  have O_is_ratio := ok_is_ratio (base := base) (w := w) T U_is_ratio G_is_whole G_common
  have G_is_ratio : Good P0 w K mg base (He.ga K) "is_ratio" 1 2 m_is_ratio := by
    exact ⟨_, fd_is_ratio, ["thing"], He.glo_ok X G (c.fact 42 rfl), F_is_ratio.kp, (FunD.bindsN F_is_ratio fun _ _ _ _ _ _ us hl => match us, hl with | [_], _ => rfl), O_is_ratio⟩
  have O_is_amount := ok_is_amount (base := base) (w := w) T U_is_amount G_is_ratio
  have G_is_amount : Good P0 w K mg base (He.ga K) "is_amount" 2 3 m_is_amount := by
    exact ⟨_, fd_is_amount, ["thing", "least"], He.glo_ok X G (c.fact 43 rfl), F_is_amount.kp, (FunD.bindsN F_is_amount fun _ _ _ _ _ _ us hl => match us, hl with | [_, _], _ => rfl), O_is_amount⟩
  have O_Goods_put_measure := ok_Goods_put_measure (base := base) (w := w) T U_Goods_put_measure G_is_name G_is_amount Mt_Goods_need_good_0
  have Mt_Goods_put_measure_0 : GoodMt P0 w K mg base (He.ga K) "Goods" "put_measure" 4 (spM K (He.ga K) 4 [0] m_Goods_put_measure) [] := by
    exact ⟨_, fd_Goods_put_measure, ["self", "good", "measure", "amount"], [], He.cls_ok (c.fact 21 rfl), He.meth_ok (c.fact 44 rfl), (FunD.bindsN F_Goods_put_measure fun _ _ _ _ _ _ us hl => match us, hl with | [_, _, _, _], _ => rfl), .nil, O_Goods_put_measure⟩
  have O__law_deed := ok__law_deed (base := base) (w := w) T U__law_deed G__law_draw G__law_amount Gf__law_put_0 Mt_Goods_put_measure_0
  have Gf__law_deed_0 : GoodF P0 w K mg base "_law_deed" 6 (spM K (He.ga K) 5 [0, 1] m__law_deed) [] := by
    exact ⟨_, fd__law_deed, ["_law_goods", "_law_own", "_law_pool_here", "_law_cell", "_law_k"], [], He.glo_ok X G (c.fact 45 rfl), F__law_deed.kp, (FunD.bindsN F__law_deed fun _ _ _ _ _ _ us hl => match us, hl with | [_, _, _, _, _], _ => rfl), .nil, O__law_deed⟩
  have O_Goods_called_goods := ok_Goods_called_goods (base := base) (w := w) T U_Goods_called_goods
  have Mt_Goods_called_goods_0 : GoodMt P0 w K mg base (He.ga K) "Goods" "called_goods" 1 (spP K (He.ga K) 1 m_Goods_called_goods) [] := by
    exact ⟨_, fd_Goods_called_goods, ["self"], [], He.cls_ok (c.fact 21 rfl), He.meth_ok (c.fact 46 rfl), (FunD.bindsN F_Goods_called_goods fun _ _ _ _ _ _ us hl => match us, hl with | [_], _ => rfl), .nil, O_Goods_called_goods⟩
  have O_Goods_marks_of := ok_Goods_marks_of (base := base) (w := w) T U_Goods_marks_of Mt_Goods_need_good_0
  have Mt_Goods_marks_of_0 : GoodMt P0 w K mg base (He.ga K) "Goods" "marks_of" 2 (spP K (He.ga K) 2 m_Goods_marks_of) [] := by
    exact ⟨_, fd_Goods_marks_of, ["self", "name"], [], He.cls_ok (c.fact 21 rfl), He.meth_ok (c.fact 47 rfl), (FunD.bindsN F_Goods_marks_of fun _ _ _ _ _ _ us hl => match us, hl with | [_, _], _ => rfl), .nil, O_Goods_marks_of⟩
  have O_Goods_measures_of := ok_Goods_measures_of (base := base) (w := w) T U_Goods_measures_of Mt_Goods_need_good_0
  have Mt_Goods_measures_of_0 : GoodMt P0 w K mg base (He.ga K) "Goods" "measures_of" 2 (spP K (He.ga K) 2 m_Goods_measures_of) [] := by
    exact ⟨_, fd_Goods_measures_of, ["self", "name"], [], He.cls_ok (c.fact 21 rfl), He.meth_ok (c.fact 48 rfl), (FunD.bindsN F_Goods_measures_of fun _ _ _ _ _ _ us hl => match us, hl with | [_, _], _ => rfl), .nil, O_Goods_measures_of⟩
  have O__law_is_ratio := ok__law_is_ratio (base := base) (w := w) T U__law_is_ratio
  have G__law_is_ratio : Good P0 w K mg base (He.ga K) "_law_is_ratio" 2 1 m__law_is_ratio := by
    exact ⟨_, fd__law_is_ratio, ["_law_found", "_law_due"], He.glo_ok X G (c.fact 49 rfl), F__law_is_ratio.kp, (FunD.bindsN F__law_is_ratio fun _ _ _ _ _ _ us hl => match us, hl with | [_, _], _ => rfl), O__law_is_ratio⟩
  have O_ratio := ok_ratio (base := base) (w := w) T U_ratio G_common
  have Gd_ratio_0 : GoodD P0 w K mg base (He.ga K) "ratio" 2 2 m_ratio [] := by
    obtain ⟨ds, hv, hb⟩ := FunD.binds1 (ps := ["n", "d"]) F_ratio 2 1 (List.cons_ne_nil _ _) (by rfl) fun _ _ _ _ _ _ _ us its hu hi => match us, its, hu, hi with | [_, _], [_], _, _ => ⟨_, rfl, rfl⟩
    exact ⟨_, fd_ratio, ["n", "d"], ds, He.glo_ok X G (c.fact 50 rfl), F_ratio.kp, hb, hv, O_ratio⟩
  have O_times := ok_times (base := base) (w := w) T U_times Gd_ratio_0
  have G_times : Good P0 w K mg base (He.ga K) "times" 2 3 m_times := by
    exact ⟨_, fd_times, ["one", "other"], He.glo_ok X G (c.fact 51 rfl), F_times.kp, (FunD.bindsN F_times fun _ _ _ _ _ _ us hl => match us, hl with | [_, _], _ => rfl), O_times⟩
  have O_Goods_own_amount := ok_Goods_own_amount (base := base) (w := w) T U_Goods_own_amount G_is_ratio G_times Mt_Goods_need_good_0
  have Mt_Goods_own_amount_0 : GoodMt P0 w K mg base (He.ga K) "Goods" "own_amount" 4 (spP K (He.ga K) 4 m_Goods_own_amount) [] := by
    exact ⟨_, fd_Goods_own_amount, ["self", "good", "measure", "amount"], [], He.cls_ok (c.fact 21 rfl), He.meth_ok (c.fact 52 rfl), (FunD.bindsN F_Goods_own_amount fun _ _ _ _ _ _ us hl => match us, hl with | [_, _, _, _], _ => rfl), .nil, O_Goods_own_amount⟩
  have O__law_named_right := ok__law_named_right (base := base) (w := w) T U__law_named_right G__law_is_ratio G__law_amount G__law_lowest Mt_Goods_marks_of_0 Mt_Goods_measures_of_0 Mt_Goods_need_good_0 Mt_Goods_own_amount_0
  have G__law_named_right : Good P0 w K mg base (He.ga K) "_law_named_right" 4 5 m__law_named_right := by
    exact ⟨_, fd__law_named_right, ["_law_goods", "_law_own", "_law_name", "_law_n"], He.glo_ok X G (c.fact 53 rfl), F__law_named_right.kp, (FunD.bindsN F__law_named_right fun _ _ _ _ _ _ us hl => match us, hl with | [_, _, _, _], _ => rfl), O__law_named_right⟩
  have O__law_right := ok__law_right (base := base) (w := w) T U__law_right G__law_named_right Mt_Goods_called_goods_0
  have G__law_right : Good P0 w K mg base (He.ga K) "_law_right" 3 6 m__law_right := by
    exact ⟨_, fd__law_right, ["_law_goods", "_law_own", "_law_n"], He.glo_ok X G (c.fact 54 rfl), F__law_right.kp, (FunD.bindsN F__law_right fun _ _ _ _ _ _ us hl => match us, hl with | [_, _, _], _ => rfl), O__law_right⟩
  exact ok_law T U_law G__law_pool G__law_draw G__law_kept G__law_right Mt_Goods_copied_0 Gf__law_deed_0 Mk_Goods

end OB
open PySem PySem.W PySem.Calls PyProof.Rows in
theorem PySem.Challenge.cw_larderwise_k03_goods_by_deeds_holds : PySem.Challenge.rw_larderwise_k03_goods_by_deeds.Holds := by
  w_on; o_law
  refine HandSHeadRun.head_any (r := OpenLaw.row PySem.Challenge.rw_larderwise_k03_goods_by_deeds) (q := view (OpenLaw.row PySem.Challenge.rw_larderwise_k03_goods_by_deeds).prog [39]) (H := OB.hk) (ob := OB.obK) (M := 4000) (loose := OB.looseL) (d := HandSHeadRun.topDef (OpenLaw.row PySem.Challenge.rw_larderwise_k03_goods_by_deeds).prog 39) (kwd := []) OB.obK_eq
    (by kernel_rfl) (fun s => by kernel_rfl) OB.runK (by kernel_rfl) (by kernel_rfl) (by kernel_rfl) (by rfl) (by first | assumption | decide +kernel) (by decide +kernel) ⟨rfl, rfl, rfl, rfl, rfl, by decide +kernel⟩ ?hw ?hc
  case hw => w_witness2
  case hc =>
    refine OB.walk_ofEB (l := PySem.Challenge.rw_larderwise_k03_goods_by_deeds) (n := 63) (k := 7) (x := "_law_script") (CX := fun w => L2.CX OB.P0 w) rfl (by decide) (by kernel_rfl) ⟨rfl, by decide, by decide⟩ ?F (fun w => OB.cx_no)
    intro w mg fa h Y G hmg0
    obtain ⟨K, KX, c⟩ := Y
    have hmg : mg ("law" : PySem.Str) = some (.ref fa) := by
      have e : (HandSHeadRun.topDef (OpenLaw.row PySem.Challenge.rw_larderwise_k03_goods_by_deeds).prog 39).name = ("law" : PySem.Str) := by kernel_rfl
      rw [← e]
      exact hmg0
    obtain ⟨fd, hb, hF⟩ := OB.factsK (w := w) KX G hmg c
    exact ⟨K, fd, OB.spP K (He.ga K) 1 OB.m_law, KX, hb, fun H a ns hl hbits _ hS => OB.spP_script c.z.nol hS (OB.law_is ns hl hbits), hF⟩
