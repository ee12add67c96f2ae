import PyProof.Rows.All
import Wide.All
import OpenK.AllK
import Wide.FinOn
import HandS.ForMost
import HandS.WordsExc
import HandS.TryOnly
import HandS.IsInst
import HandS.StrMore
import HandS.Style
import HandS.Zip
import HandS.CallSlots
import HandS.Rev
import HandS.MapJoin
import HandS.Replace
import PyProof.JoinWalk
import HandS.Head0
import HandS.Head1
import HandS.Head2
import HandS.HeadEnd
import HandS.HeadHook1
import HandS.HeadHook2
import HandS.HeadNt
import HandS.EndBits
import HandS.Defaults
import PySem.Challenge.RW_larderwise_k02_ratios
set_option Elab.async false
set_option linter.all false
set_option maxRecDepth 100000
set_option maxHeartbeats 4000000
namespace OB
open PySem L2

inductive Fl where
  | own | frz | bor | tmp
  deriving DecidableEq
inductive Kd where
  | tup | lst (f : Fl) | dct (f : Fl) (ks : List Key) | obj (f : Fl) (c : Str) (fs : List Str)
  deriving DecidableEq
inductive D where
  | non | bl (b : Bool) | int (i : Int) | str (s : Str) | nd (k : Kd) (ds : List D)

@[reducible] def D.tup (ds : List D) : D := .nd .tup ds
@[reducible] def D.lst (f : Fl) (ds : List D) : D := .nd (.lst f) ds

/-- an exception: its class, its one field -/
structure XD where
  cls : Str
  fld : Option (Str × D)
inductive Ot (α : Type) where
  | no | ok (a : α) | ex (x : XD)
namespace Ot
def bind {α β : Type} (o : Ot α) (f : α → Ot β) : Ot β := match o with
  | .no => .no
  | .ok a => f a
  | .ex x => .ex x
@[simp] theorem bind_ok {α β : Type} (a : α) (f : α → Ot β) : (Ot.ok a).bind f = f a := rfl
@[simp] theorem bind_no {α β : Type} (f : α → Ot β) : (Ot.no : Ot α).bind f = .no := rfl
@[simp] theorem bind_ex {α β : Type} (x : XD) (f : α → Ot β) : (Ot.ex x : Ot α).bind f = .ex x := rfl
def of {α : Type} (o : Option α) : Ot α := match o with
  | some a => .ok a
  | none => .no
@[simp] theorem of_some {α : Type} (a : α) : Ot.of (some a) = .ok a := rfl
@[simp] theorem of_none {α : Type} : (Ot.of (none : Option α)) = .no := rfl
end Ot

structure Zn where
  f : Addr → Prop
  b : Addr → Prop
  t : Addr → Prop
def Zn.ok (Z : Zn) (a : Addr) : Fl → Prop
  | .own => True
  | .frz => Z.f a
  | .bor => Z.b a
  | .tmp => Z.t a
abbrev Cm := Str → Addr

def Cell (K : PySem.W.Frag) (cm : Cm) (H : Hp) (Z : Zn) (a : Addr) : Kd → List V → Prop
  | .tup, vs => SqT K H a vs
  | .lst f, vs => (f ≠ .bor → H a = some (.lst vs)) ∧ Rd H a (.lst vs) ∧ Z.ok a f
  | .dct f ks, vs => H a = some (.dK (ks.zip vs)) ∧ ks.length = vs.length ∧ Z.ok a f
  | .obj f c fs, vs => (∃ dx, H a = some (.ins (cm c) dx (fs.zip vs))) ∧ fs.length = vs.length ∧ Z.ok a f
def Kd.fl : Kd → Option Fl
  | .tup => none
  | .lst f => some f
  | .dct f _ => some f
  | .obj f _ _ => some f
def Kd.isOwn (k : Kd) : Bool := k.fl == some .own
def ownA (k : Kd) (a : Addr) : List Addr := if k.isOwn then [a] else []

mutual
def Rep (K : PySem.W.Frag) (cm : Cm) (H : Hp) (Z : Zn) : D → V → List Addr → Prop
  | .non, v, F => v = .non ∧ F = []
  | .bl b, v, F => v = .bl b ∧ F = []
  | .int i, v, F => v = .int i ∧ F = []
  | .str s, v, F => v = .str s ∧ F = []
  | .nd k ds, v, F => ∃ a vs Fs, v = .ref a ∧ Cell K cm H Z a k vs ∧ RepL K cm H Z ds vs Fs ∧ F = ownA k a ++ Fs.flatten
def RepL (K : PySem.W.Frag) (cm : Cm) (H : Hp) (Z : Zn) : List D → List V → List (List Addr) → Prop
  | [], vs, Fs => vs = [] ∧ Fs = []
  | d :: ds, vs, Fs => ∃ v vs' F Fs', vs = v :: vs' ∧ Fs = F :: Fs' ∧ Rep K cm H Z d v F ∧ RepL K cm H Z ds vs' Fs'
end

/-! ### flags changed -/
def Kd.mapF (g : Fl → Fl) : Kd → Kd
  | .tup => .tup
  | .lst f => .lst (g f)
  | .dct f ks => .dct (g f) ks
  | .obj f c fs => .obj (g f) c fs
mutual
def mapF (g : Fl → Fl) : D → D
  | .non => .non
  | .bl b => .bl b
  | .int i => .int i
  | .str s => .str s
  | .nd k ds => .nd (k.mapF g) (mapFL g ds)
def mapFL (g : Fl → Fl) : List D → List D
  | [] => []
  | d :: ds => mapF g d :: mapFL g ds
end
theorem mapFL_eq (g : Fl → Fl) : ∀ ds, mapFL g ds = ds.map (mapF g)
  | [] => rfl
  | d :: ds => by rw [mapFL, mapFL_eq g ds]; rfl
mutual
/-- all flags have the property -/
def allF (p : Fl → Bool) : D → Bool
  | .non => true
  | .bl _ => true
  | .int _ => true
  | .str _ => true
  | .nd k ds => (match k.fl with | some f => p f | none => true) && allFL p ds
def allFL (p : Fl → Bool) : List D → Bool
  | [] => true
  | d :: ds => allF p d && allFL p ds
end
theorem allFL_eq (p : Fl → Bool) : ∀ ds, allFL p ds = ds.all (allF p)
  | [] => rfl
  | d :: ds => by rw [allFL, allFL_eq p ds]; rfl

mutual
theorem allF_mapF {p q : Fl → Bool} {g : Fl → Fl} (h : ∀ f, p f = true → q (g f) = true) : ∀ d : D, allF p d = true → allF q (mapF g d) = true
  | .non, _ => rfl
  | .bl _, _ => rfl
  | .int _, _ => rfl
  | .str _, _ => rfl
  | .nd k ds, e => by
    unfold allF at e
    rw [Bool.and_eq_true] at e
    unfold mapF allF
    rw [Bool.and_eq_true]
    refine ⟨?_, allFL_mapF h ds e.2⟩
    cases k with
    | tup => rfl
    | lst f => exact h f e.1
    | dct f ks => exact h f e.1
    | obj f c fs => exact h f e.1
theorem allFL_mapF {p q : Fl → Bool} {g : Fl → Fl} (h : ∀ f, p f = true → q (g f) = true) : ∀ ds : List D, allFL p ds = true → allFL q (mapFL g ds) = true
  | [], _ => rfl
  | d :: ds, e => by
    unfold allFL at e
    rw [Bool.and_eq_true] at e
    unfold mapFL allFL
    rw [Bool.and_eq_true]
    exact ⟨allF_mapF h d e.1, allFL_mapF h ds e.2⟩
end

/-! ### the relation, forms -/
section
variable {K : PySem.W.Frag} {cm : Cm} {H H' : Hp} {Z Z' : Zn}
theorem RepL.len : ∀ {ds : List D} {vs : List V} {Fs : List (List Addr)}, RepL K cm H Z ds vs Fs → vs.length = ds.length ∧ Fs.length = ds.length
  | [], _, _, h => by obtain ⟨rfl, rfl⟩ := h; exact ⟨rfl, rfl⟩
  | _ :: ds, _, _, h => by
    obtain ⟨v, vs', F, Fs', rfl, rfl, _, h2⟩ := h
    obtain ⟨a, b⟩ := RepL.len h2
    exact ⟨by simp [a], by simp [b]⟩
theorem repL_nil : RepL K cm H Z [] [] [] := ⟨rfl, rfl⟩
theorem repL_cons {d : D} {ds : List D} {v : V} {vs : List V} {F : List Addr} {Fs : List (List Addr)} (h : Rep K cm H Z d v F) (hs : RepL K cm H Z ds vs Fs) : RepL K cm H Z (d :: ds) (v :: vs) (F :: Fs) :=
  ⟨v, vs, F, Fs, rfl, rfl, h, hs⟩
theorem RepL.get : ∀ {ds : List D} {vs : List V} {Fs : List (List Addr)} {i : Nat} {d : D}, RepL K cm H Z ds vs Fs → ds[i]? = some d → ∃ v F, vs[i]? = some v ∧ Fs[i]? = some F ∧ Rep K cm H Z d v F
  | [], _, _, i, d, _, e => by simp at e
  | d0 :: ds, _, _, 0, d, h, e => by
    obtain ⟨v, vs', F, Fs', rfl, rfl, h1, h2⟩ := h
    simp at e; subst e
    exact ⟨v, F, rfl, rfl, h1⟩
  | d0 :: ds, _, _, i + 1, d, h, e => by
    obtain ⟨v, vs', F, Fs', rfl, rfl, h1, h2⟩ := h
    obtain ⟨v1, F1, a, b, c⟩ := RepL.get (i := i) (d := d) h2 (by simpa using e)
    exact ⟨v1, F1, by simpa using a, by simpa using b, c⟩
theorem RepL.app : ∀ {ds es : List D} {vs us : List V} {Fs Gs : List (List Addr)}, RepL K cm H Z ds vs Fs → RepL K cm H Z es us Gs → RepL K cm H Z (ds ++ es) (vs ++ us) (Fs ++ Gs)
  | [], _, _, _, _, _, h, g => by obtain ⟨rfl, rfl⟩ := h; exact g
  | d :: ds, _, _, _, _, _, h, g => by
    obtain ⟨v, vs', F, Fs', rfl, rfl, h1, h2⟩ := h
    exact repL_cons h1 (RepL.app h2 g)
theorem RepL.set : ∀ {ds : List D} {vs : List V} {Fs : List (List Addr)} (i : Nat) {d : D} {v : V} {F : List Addr}, RepL K cm H Z ds vs Fs → Rep K cm H Z d v F → RepL K cm H Z (ds.set i d) (vs.set i v) (Fs.set i F)
  | [], _, _, _, _, _, _, h, _ => by obtain ⟨rfl, rfl⟩ := h; exact repL_nil
  | d0 :: ds, _, _, 0, _, _, _, h, g => by
    obtain ⟨v, vs', F, Fs', rfl, rfl, h1, h2⟩ := h
    exact repL_cons g h2
  | d0 :: ds, _, _, i + 1, _, _, _, h, g => by
    obtain ⟨v, vs', F, Fs', rfl, rfl, h1, h2⟩ := h
    exact repL_cons h1 (RepL.set i h2 g)
theorem RepL.take : ∀ {ds : List D} {vs : List V} {Fs : List (List Addr)} (n : Nat), RepL K cm H Z ds vs Fs → RepL K cm H Z (ds.take n) (vs.take n) (Fs.take n)
  | [], _, _, _, h => by obtain ⟨rfl, rfl⟩ := h; simp [RepL]
  | d0 :: ds, _, _, 0, h => by simp [RepL]
  | d0 :: ds, _, _, n + 1, h => by
    obtain ⟨v, vs', F, Fs', rfl, rfl, h1, h2⟩ := h
    exact repL_cons h1 (RepL.take n h2)
theorem RepL.drop : ∀ {ds : List D} {vs : List V} {Fs : List (List Addr)} (n : Nat), RepL K cm H Z ds vs Fs → RepL K cm H Z (ds.drop n) (vs.drop n) (Fs.drop n)
  | [], _, _, _, h => by obtain ⟨rfl, rfl⟩ := h; simp [RepL]
  | d0 :: ds, _, _, 0, h => h
  | d0 :: ds, _, _, n + 1, h => by
    obtain ⟨v, vs', F, Fs', rfl, rfl, h1, h2⟩ := h
    exact RepL.drop n h2

/-! ### moves of the relation -/
/-- what has to hold of each cell -/
def CellMove (K : PySem.W.Frag) (cm : Cm) (H H' : Hp) (Z Z' : Zn) (g : Fl → Fl) (O : Addr → Prop) : Prop :=
  ∀ a k vs, Cell K cm H Z a k vs → (k.isOwn = true → O a) → Cell K cm H' Z' a (k.mapF g) vs
theorem isOwn_mapF {g : Fl → Fl} (hg : g .own = .own) (hg2 : ∀ f, g f = .own → f = .own) (k : Kd) : (k.mapF g).isOwn = k.isOwn := by
  have key : ∀ f : Fl, (some (g f) == some Fl.own) = (some f == some Fl.own) := fun f => by
    by_cases e : f = .own
    · rw [e, hg]
    · have e2 : g f ≠ .own := fun q => e (hg2 f q)
      have a : (some f == some Fl.own) = false := by simpa using e
      have b : (some (g f) == some Fl.own) = false := by simpa using e2
      rw [a, b]
  cases k with
  | tup => rfl
  | lst f => exact key f
  | dct f ks => exact key f
  | obj f c fs => exact key f
mutual
theorem Rep.move {g : Fl → Fl} {O : Addr → Prop} (m : CellMove K cm H H' Z Z' g O) (hg : g .own = .own) (hg2 : ∀ f, g f = .own → f = .own) : ∀ (d : D) {v : V} {F : List Addr}, Rep K cm H Z d v F → (∀ a ∈ F, O a) → Rep K cm H' Z' (mapF g d) v F
  | .non, _, _, h, _ => h
  | .bl _, _, _, h, _ => h
  | .int _, _, _, h, _ => h
  | .str _, _, _, h, _ => h
  | .nd k ds, v, F, h, o => by
    obtain ⟨a, vs, Fs, rfl, hc, hl, rfl⟩ := h
    have hk : (k.mapF g).isOwn = k.isOwn := isOwn_mapF hg hg2 k
    refine ⟨a, vs, Fs, rfl, m a k vs hc fun q => o a ?_, RepL.move m hg hg2 ds hl fun b hb => o b (List.mem_append_right _ hb), ?_⟩
    · unfold ownA; rw [q]; simp
    · unfold ownA; rw [hk]
theorem RepL.move {g : Fl → Fl} {O : Addr → Prop} (m : CellMove K cm H H' Z Z' g O) (hg : g .own = .own) (hg2 : ∀ f, g f = .own → f = .own) : ∀ (ds : List D) {vs : List V} {Fs : List (List Addr)}, RepL K cm H Z ds vs Fs → (∀ a ∈ Fs.flatten, O a) → RepL K cm H' Z' (mapFL g ds) vs Fs
  | [], _, _, h, _ => h
  | d :: ds, vs, Fs, h, o => by
    obtain ⟨v, vs', F, Fs', rfl, rfl, h1, h2⟩ := h
    exact ⟨v, vs', F, Fs', rfl, rfl, Rep.move m hg hg2 d h1 fun b hb => o b (by simp [hb]), RepL.move m hg hg2 ds h2 fun b hb => o b (by rw [List.flatten_cons]; exact List.mem_append_right _ hb)⟩
end
mutual
/-- nothing owned any more -/
theorem Rep.give {g : Fl → Fl} {O : Addr → Prop} (m : CellMove K cm H H' Z Z' g O) (hg : ∀ f, g f ≠ .own) : ∀ (d : D) {v : V} {F : List Addr}, Rep K cm H Z d v F → (∀ a ∈ F, O a) → Rep K cm H' Z' (mapF g d) v []
  | .non, _, _, h, _ => ⟨h.1, rfl⟩
  | .bl _, _, _, h, _ => ⟨h.1, rfl⟩
  | .int _, _, _, h, _ => ⟨h.1, rfl⟩
  | .str _, _, _, h, _ => ⟨h.1, rfl⟩
  | .nd k ds, v, F, h, o => by
    obtain ⟨a, vs, Fs, rfl, hc, hl, rfl⟩ := h
    have hk : (k.mapF g).isOwn = false := by
      cases k with
      | tup => rfl
      | lst f => simp [Kd.mapF, Kd.isOwn, Kd.fl, hg f]
      | dct f ks => simp [Kd.mapF, Kd.isOwn, Kd.fl, hg f]
      | obj f c fs => simp [Kd.mapF, Kd.isOwn, Kd.fl, hg f]
    obtain ⟨Gs, hG, hl'⟩ := RepL.give m hg ds hl fun b hb => o b (List.mem_append_right _ hb)
    refine ⟨a, vs, Gs, rfl, m a k vs hc fun q => o a ?_, hl', ?_⟩
    · unfold ownA; rw [q]; simp
    · unfold ownA; rw [hk, hG]; rfl
theorem RepL.give {g : Fl → Fl} {O : Addr → Prop} (m : CellMove K cm H H' Z Z' g O) (hg : ∀ f, g f ≠ .own) : ∀ (ds : List D) {vs : List V} {Fs : List (List Addr)}, RepL K cm H Z ds vs Fs → (∀ a ∈ Fs.flatten, O a) → ∃ Gs, Gs.flatten = [] ∧ RepL K cm H' Z' (mapFL g ds) vs Gs
  | [], _, _, h, _ => ⟨[], rfl, h.1, rfl⟩
  | d :: ds, vs, Fs, h, o => by
    obtain ⟨v, vs', F, Fs', rfl, rfl, h1, h2⟩ := h
    obtain ⟨Gs, hG, hl'⟩ := RepL.give m hg ds h2 fun b hb => o b (by rw [List.flatten_cons]; exact List.mem_append_right _ hb)
    exact ⟨[] :: Gs, by simpa using hG, repL_cons (Rep.give m hg d h1 fun b hb => o b (by simp [hb])) hl'⟩
end
theorem Kd.mapF_id : ∀ k : Kd, k.mapF id = k
  | .tup => rfl
  | .lst _ => rfl
  | .dct _ _ => rfl
  | .obj _ _ _ => rfl
mutual
theorem mapF_id : ∀ d : D, mapF id d = d
  | .non => rfl
  | .bl _ => rfl
  | .int _ => rfl
  | .str _ => rfl
  | .nd k ds => by rw [mapF, Kd.mapF_id, mapFL_id ds]
theorem mapFL_id : ∀ ds : List D, mapFL id ds = ds
  | [] => rfl
  | d :: ds => by rw [mapFL, mapF_id d, mapFL_id ds]
end
/-- the heap is kept at what d stands on -/
theorem Rep.stay {O : Addr → Prop} (m : CellMove K cm H H' Z Z' id O) {d : D} {v : V} {F : List Addr} (h : Rep K cm H Z d v F) (o : ∀ a ∈ F, O a) : Rep K cm H' Z' d v F := by
  have q := Rep.move m rfl (fun _ e => e) d h o
  rwa [mapF_id] at q
theorem RepL.stay {O : Addr → Prop} (m : CellMove K cm H H' Z Z' id O) {ds : List D} {vs : List V} {Fs : List (List Addr)} (h : RepL K cm H Z ds vs Fs) (o : ∀ a ∈ Fs.flatten, O a) : RepL K cm H' Z' ds vs Fs := by
  have q := RepL.move m rfl (fun _ e => e) ds h o
  rwa [mapFL_id] at q
end

/-! ### the heap only grows -/
def Grow (H H' : Hp) : Prop := ∀ a o, H a = some o → H' a = some o
theorem Grow.refl (H : Hp) : Grow H H := fun _ _ h => h
theorem Grow.trans {H H1 H2 : Hp} (a : Grow H H1) (b : Grow H1 H2) : Grow H H2 := fun x o h => b x o (a x o h)
theorem Grow.new {H : Hp} {p : Addr} {o : HO} (h : H p = none) : Grow H (upd H p o) := fun a u e => by
  rw [upd_ne (ne_of_none e h)]
  exact e
theorem Grow.back {H H' : Hp} {a : Addr} (g : Grow H H') (h : H' a = none) : H a = none := by
  cases e : H a with
  | none => rfl
  | some o => rw [g a o e] at h; cases h
theorem Grow.rd {H H' : Hp} {a : Addr} {u : HO} (g : Grow H H') (h : Rd H a u) : Rd H' a u := by
  rcases h with h | ⟨o, h⟩
  · exact .inl (g _ _ h)
  · exact .inr ⟨o, g _ _ h⟩
theorem Grow.sqL {K : PySem.W.Frag} {H H' : Hp} {a : Addr} {vs : List V} (g : Grow H H') (h : SqL K H a vs) : SqL K H' a vs := by
  rcases h with h | h
  · rcases h with h | ⟨o, h⟩
    · exact .inl (.inl (g _ _ h))
    · exact .inl (.inr ⟨o, g _ _ h⟩)
  · exact .inr h
theorem Grow.sqT {K : PySem.W.Frag} {H H' : Hp} {a : Addr} {vs : List V} (g : Grow H H') (h : SqT K H a vs) : SqT K H' a vs := by
  rcases h with h | h
  · rcases h with h | ⟨o, h⟩
    · exact .inl (.inl (g _ _ h))
    · exact .inl (.inr ⟨o, g _ _ h⟩)
  · exact .inr h
/-- growth, the flags' sets grow -/
structure Ext (H : Hp) (Z : Zn) (H' : Hp) (Z' : Zn) : Prop where
  gr : Grow H H'
  f : ∀ a, Z.f a → Z'.f a
  fn : ∀ a, Z'.f a → Z.f a ∨ H a = none
  fd : ∀ a, Z'.f a → H' a ≠ none
  b : Z'.b = Z.b
  t : Z'.t = Z.t
structure Dom (H : Hp) (Z : Zn) : Prop where
  f : ∀ a, Z.f a → H a ≠ none
  b : ∀ a, Z.b a → H a ≠ none
  t : ∀ a, Z.t a → H a ≠ none
theorem Dom.ext {H H' : Hp} {Z Z' : Zn} (d : Dom H Z) (e : Ext H Z H' Z') : Dom H' Z' := ⟨e.fd, fun a h => by
  rw [e.b] at h
  intro q
  exact d.b a h (e.gr.back q), fun a h => by
  rw [e.t] at h
  intro q
  exact d.t a h (e.gr.back q)⟩
theorem Ext.refl {H : Hp} {Z : Zn} (d : Dom H Z) : Ext H Z H Z := ⟨.refl H, fun _ h => h, fun _ h => .inl h, d.f, rfl, rfl⟩
theorem Ext.trans {H H1 H2 : Hp} {Z Z1 Z2 : Zn} (a : Ext H Z H1 Z1) (b : Ext H1 Z1 H2 Z2) : Ext H Z H2 Z2 :=
  ⟨a.gr.trans b.gr, fun x h => b.f x (a.f x h), fun x h => (b.fn x h).elim (fun q => a.fn x q) fun q => .inr (a.gr.back q), b.fd, b.b.trans a.b, b.t.trans a.t⟩
theorem Ext.grow {H H' : Hp} {Z : Zn} (d : Dom H Z) (g : Grow H H') : Ext H Z H' Z := ⟨g, fun _ h => h, fun _ h => .inl h, fun a h q => d.f a h (g.back q), rfl, rfl⟩
section
variable {K : PySem.W.Frag} {cm : Cm} {H H' : Hp} {Z Z' : Zn}
theorem Zn.ok_mono {a : Addr} (f : ∀ a, Z.f a → Z'.f a) (b : ∀ a, Z.b a → Z'.b a) (t : ∀ a, Z.t a → Z'.t a) : ∀ {x : Fl}, Z.ok a x → Z'.ok a x
  | .own, h => h
  | .frz, h => f a h
  | .bor, h => b a h
  | .tmp, h => t a h
theorem cell_grow (g : Grow H H') (f : ∀ a, Z.f a → Z'.f a) (b : ∀ a, Z.b a → Z'.b a) (t : ∀ a, Z.t a → Z'.t a) : CellMove K cm H H' Z Z' id (fun _ => True) := fun a k vs h _ => by
  cases k with
  | tup => exact g.sqT h
  | lst fl => exact ⟨fun e => g _ _ (h.1 e), g.rd h.2.1, Zn.ok_mono f b t h.2.2⟩
  | dct fl ks => exact ⟨g _ _ h.1, h.2.1, Zn.ok_mono f b t h.2.2⟩
  | obj fl c fs =>
    obtain ⟨⟨dx, e⟩, l, o⟩ := h
    exact ⟨⟨dx, g _ _ e⟩, l, Zn.ok_mono f b t o⟩
theorem Rep.grow {d : D} {v : V} {F : List Addr} (h : Rep K cm H Z d v F) (g : Grow H H') (f : ∀ a, Z.f a → Z'.f a) (b : ∀ a, Z.b a → Z'.b a) (t : ∀ a, Z.t a → Z'.t a) : Rep K cm H' Z' d v F :=
  h.stay (cell_grow g f b t) fun _ _ => trivial
theorem RepL.grow {ds : List D} {vs : List V} {Fs : List (List Addr)} (h : RepL K cm H Z ds vs Fs) (g : Grow H H') (f : ∀ a, Z.f a → Z'.f a) (b : ∀ a, Z.b a → Z'.b a) (t : ∀ a, Z.t a → Z'.t a) : RepL K cm H' Z' ds vs Fs :=
  h.stay (cell_grow g f b t) fun _ _ => trivial
theorem Rep.ext {d : D} {v : V} {F : List Addr} (h : Rep K cm H Z d v F) (e : Ext H Z H' Z') : Rep K cm H' Z' d v F :=
  h.grow e.gr e.f (fun a q => by rw [e.b]; exact q) (fun a q => by rw [e.t]; exact q)
theorem RepL.ext {ds : List D} {vs : List V} {Fs : List (List Addr)} (h : RepL K cm H Z ds vs Fs) (e : Ext H Z H' Z') : RepL K cm H' Z' ds vs Fs :=
  h.grow e.gr e.f (fun a q => by rw [e.b]; exact q) (fun a q => by rw [e.t]; exact q)
/-- flags changed, the heap as it is -/
theorem cell_flag {g : Fl → Fl} {O : Addr → Prop} (hl : ∀ a, O a → ∀ f, f = .own → g f ≠ .own → Z'.ok a (g f)) (ho : ∀ a f, f ≠ .own → Z.ok a f → Z'.ok a (g f)) (hw : ∀ f, g f ≠ .bor → f ≠ .bor) : CellMove K cm H H Z Z' g O := fun a k vs h o => by
  have key : ∀ f : Fl, (f = .own → O a) → Z.ok a f → Z'.ok a (g f) := fun f of ok => by
    by_cases e : f = .own
    · by_cases e2 : g f = .own
      · rw [e2]; trivial
      · exact hl a (of e) f e e2
    · exact ho a f e ok
  cases k with
  | tup => exact h
  | lst fl => exact ⟨fun e => h.1 (hw _ e), h.2.1, key fl (fun e => o (by rw [e]; rfl)) h.2.2⟩
  | dct fl ks => exact ⟨h.1, h.2.1, key fl (fun e => o (by rw [e]; rfl)) h.2.2⟩
  | obj fl c fs => exact ⟨h.1, h.2.1, key fl (fun e => o (by rw [e]; rfl)) h.2.2⟩
end

/-! ### owned things stand, and may be written -/
section
variable {K : PySem.W.Frag} {cm : Cm} {H H' : Hp} {Z Z' : Zn}
mutual
theorem Rep.mut : ∀ (d : D) {v : V} {F : List Addr}, Rep K cm H Z d v F → ∀ a ∈ F, Mut (H a)
  | .non, _, _, h, a, q => by rw [h.2] at q; cases q
  | .bl _, _, _, h, a, q => by rw [h.2] at q; cases q
  | .int _, _, _, h, a, q => by rw [h.2] at q; cases q
  | .str _, _, _, h, a, q => by rw [h.2] at q; cases q
  | .nd k ds, v, F, h, a, q => by
    obtain ⟨p, vs, Fs, rfl, hc, hl, rfl⟩ := h
    rcases List.mem_append.mp q with q | q
    · unfold ownA at q
      cases k with
      | tup => cases q
      | lst f =>
        cases f with
        | own =>
          have e : a = p := by simpa [Kd.isOwn, Kd.fl] using q
          subst e
          rw [hc.1 (by decide)]; trivial
        | _ => cases q
      | dct f ks =>
        cases f with
        | own =>
          have e : a = p := by simpa [Kd.isOwn, Kd.fl] using q
          subst e
          rw [hc.1]; trivial
        | _ => cases q
      | obj f c fs =>
        cases f with
        | own =>
          have e : a = p := by simpa [Kd.isOwn, Kd.fl] using q
          subst e
          obtain ⟨dx, e⟩ := hc.1
          rw [e]; trivial
        | _ => cases q
    · exact RepL.mut ds hl a q
theorem RepL.mut : ∀ (ds : List D) {vs : List V} {Fs : List (List Addr)}, RepL K cm H Z ds vs Fs → ∀ a ∈ Fs.flatten, Mut (H a)
  | [], _, _, h, a, q => by rw [h.2] at q; cases q
  | d :: ds, _, _, h, a, q => by
    obtain ⟨v, vs', F, Fs', rfl, rfl, h1, h2⟩ := h
    rw [List.flatten_cons] at q
    rcases List.mem_append.mp q with q | q
    · exact Rep.mut d h1 a q
    · exact RepL.mut ds h2 a q
end
/-- one object that d doesn't stand on is written -/
theorem cell_upd {p : Addr} {o : HO} (mu : Mut (H p)) (nf : ¬ Z.f p) (nb : ¬ Z.b p) (nt : ¬ Z.t p) : CellMove K cm H (upd H p o) Z Z id (fun a => a ≠ p) := fun a k vs h ho => by
  have nm : ∀ u, Mut (some u) = False → H a = some u → a ≠ p := fun u e q z => by subst z; rw [q, e] at mu; exact mu
  have ne : ∀ fl : Fl, (fl = .own → a ≠ p) → Z.ok a fl → a ≠ p := fun fl h1 h2 z => by
    subst z
    cases fl with
    | own => exact h1 rfl rfl
    | frz => exact nf h2
    | bor => exact nb h2
    | tmp => exact nt h2
  have rd : ∀ u, a ≠ p → Rd H a u → Rd (upd H p o) a u := fun u n r => by
    rcases r with r | ⟨ob, r⟩
    · exact .inl (by rw [upd_ne n]; exact r)
    · exact .inr ⟨ob, by rw [upd_ne n]; exact r⟩
  cases k with
  | tup =>
    rcases h with (h | ⟨ob, h⟩) | h
    · exact .inl (.inl (by rw [upd_ne (nm _ rfl h)]; exact h))
    · exact .inl (.inr ⟨ob, by rw [upd_ne (nm _ rfl h)]; exact h⟩)
    · exact .inr h
  | lst fl =>
    have n := ne fl (fun e => ho (by rw [e]; rfl)) h.2.2
    exact ⟨fun e => by rw [upd_ne n]; exact h.1 e, rd _ n h.2.1, h.2.2⟩
  | dct fl ks =>
    have n := ne fl (fun e => ho (by rw [e]; rfl)) h.2.2
    exact ⟨by rw [upd_ne n]; exact h.1, h.2.1, h.2.2⟩
  | obj fl c fs =>
    have n := ne fl (fun e => ho (by rw [e]; rfl)) h.2.2
    obtain ⟨⟨dx, e⟩, l, q⟩ := h
    exact ⟨⟨dx, by rw [upd_ne n]; exact e⟩, l, q⟩
theorem Rep.upd {p : Addr} {o : HO} {d : D} {v : V} {F : List Addr} (h : Rep K cm H Z d v F) (mu : Mut (H p)) (nF : p ∉ F) (nf : ¬ Z.f p) (nb : ¬ Z.b p) (nt : ¬ Z.t p) : Rep K cm (upd H p o) Z d v F :=
  h.stay (cell_upd mu nf nb nt) fun a ha z => nF (z ▸ ha)
theorem RepL.upd {p : Addr} {o : HO} {ds : List D} {vs : List V} {Fs : List (List Addr)} (h : RepL K cm H Z ds vs Fs) (mu : Mut (H p)) (nF : p ∉ Fs.flatten) (nf : ¬ Z.f p) (nb : ¬ Z.b p) (nt : ¬ Z.t p) : RepL K cm (upd H p o) Z ds vs Fs :=
  h.stay (cell_upd mu nf nb nt) fun a ha z => nF (z ▸ ha)
mutual
theorem Rep.only {pf : Fl → Bool} (hz : ∀ a f, pf f = true → Z.ok a f → Z'.ok a f) : ∀ (d : D) {v : V} {F : List Addr}, Rep K cm H Z d v F → allF pf d = true → Rep K cm H Z' d v F
  | .non, _, _, h, _ => h
  | .bl _, _, _, h, _ => h
  | .int _, _, _, h, _ => h
  | .str _, _, _, h, _ => h
  | .nd k ds, v, F, h, e => by
    obtain ⟨a, vs, Fs, rfl, hc, hl, rfl⟩ := h
    unfold allF at e
    rw [Bool.and_eq_true] at e
    refine ⟨a, vs, Fs, rfl, ?_, RepL.only hz ds hl e.2, rfl⟩
    cases k with
    | tup => exact hc
    | lst f => exact ⟨hc.1, hc.2.1, hz a f e.1 hc.2.2⟩
    | dct f ks => exact ⟨hc.1, hc.2.1, hz a f e.1 hc.2.2⟩
    | obj f c fs => exact ⟨hc.1, hc.2.1, hz a f e.1 hc.2.2⟩
theorem RepL.only {pf : Fl → Bool} (hz : ∀ a f, pf f = true → Z.ok a f → Z'.ok a f) : ∀ (ds : List D) {vs : List V} {Fs : List (List Addr)}, RepL K cm H Z ds vs Fs → allFL pf ds = true → RepL K cm H Z' ds vs Fs
  | [], _, _, h, _ => h
  | d :: ds, _, _, h, e => by
    obtain ⟨v, vs', F, Fs', rfl, rfl, h1, h2⟩ := h
    unfold allFL at e
    rw [Bool.and_eq_true] at e
    exact repL_cons (Rep.only hz d h1 e.1) (RepL.only hz ds h2 e.2)
end
theorem mut_ne {o : Option HO} (h : Mut o) : o ≠ none := fun e => by rw [e] at h; exact h
end
end OB

namespace OB
open PySem PySem.Spec PyProof.Rows L2

abbrev En := List (Option D)
structure RepE (K : PySem.W.Frag) (cm : Cm) (H : Hp) (Z : Zn) (σ : L2.St) (ρ : En) (Fs : List (List Addr)) : Prop where
  lσ : σ.length = ρ.length
  lF : Fs.length = ρ.length
  get : ∀ (i : Nat) (d : D), ρ[i]? = some (some d) → ∃ v F, σ[i]? = some (some v) ∧ Fs[i]? = some F ∧ Rep K cm H Z d v F
structure OkP (K : PySem.W.Frag) (cm : Cm) (H : Hp) (σ : L2.St) (ρ : En) (Fs : List (List Addr)) (Z : Zn) : Prop where
  rep : RepE K cm H Z σ ρ Fs
  dom : Dom H Z
  tm : ∀ a ∈ Fs.flatten, Z.t a
structure Res (K : PySem.W.Frag) (cm : Cm) (H : Hp) (Z : Zn) (H' : Hp) (Z' : Zn) (A : List Addr) (d : D) (v : V) (F : List Addr) : Prop where
  ext : Ext H Z H' Z'
  rep : Rep K cm H' Z' d v F
  nd : F.Nodup
  fr : ∀ a ∈ F, H a = none ∨ a ∈ A
  nf : ∀ a ∈ F, ¬ Z'.f a
structure ResL (K : PySem.W.Frag) (cm : Cm) (H : Hp) (Z : Zn) (H' : Hp) (Z' : Zn) (A : List Addr) (ds : List D) (vs : List V) (Fs : List (List Addr)) : Prop where
  ext : Ext H Z H' Z'
  rep : RepL K cm H' Z' ds vs Fs
  nd : Fs.flatten.Nodup
  fr : ∀ a ∈ Fs.flatten, H a = none ∨ a ∈ A
  nf : ∀ a ∈ Fs.flatten, ¬ Z'.f a
def noB (d : D) : Bool := allF (fun f => f == .own || f == .frz) d
def xB (x : XD) : Bool := match x.fld with
  | none => true
  | some p => noB p.2
def XRep (K : PySem.W.Frag) (cm : Cm) (H : Hp) (Z : Zn) (x : XD) (cls : Value) (dd : Option Addr) : Prop :=
  cls = .ref (cm x.cls) ∧ xB x = true ∧ match x.fld with
    | none => dd = none
    | some (n, d) => ∃ a v, dd = some a ∧ H a = some (.xd [(n, v)]) ∧ Rep K cm H Z d v []

/-- what is asked of an expression's reading -/
def FinD (K : PySem.W.Frag) (cm : Cm) (W : WX) (σ : L2.St) (H : Hp) (Z : Zn) (Q : VK) : Ot D → Prop
  | .no => False
  | .ok d => ∀ v H' Z' F, Res K cm H Z H' Z' [] d v F → Q v H'
  | .ex x => ∀ cls dd H' Z', Ext H Z H' Z' → XRep K cm H' Z' x cls dd → W cls dd σ H'
def FinL (K : PySem.W.Frag) (cm : Cm) (W : WX) (σ : L2.St) (H : Hp) (Z : Zn) (Q : List V → Hp → Prop) : Ot (List D) → Prop
  | .no => False
  | .ok ds => ∀ vs H' Z' Fs, ResL K cm H Z H' Z' [] ds vs Fs → Q vs H'
  | .ex x => ∀ cls dd H' Z', Ext H Z H' Z' → XRep K cm H' Z' x cls dd → W cls dd σ H'
def FinB (K : PySem.W.Frag) (cm : Cm) (W : WX) (σ : L2.St) (H : Hp) (Z : Zn) (Q : Bool → Hp → Prop) : Ot Bool → Prop
  | .no => False
  | .ok b => ∀ H' Z', Ext H Z H' Z' → Q b H'
  | .ex x => ∀ cls dd H' Z', Ext H Z H' Z' → XRep K cm H' Z' x cls dd → W cls dd σ H'
def tP (K : PySem.W.Frag) (cm : Cm) (W : WX) (f : En → Ot D) : TE := fun σ H Q => ∃ Z ρ Fs, OkP K cm H σ ρ Fs Z ∧ FinD K cm W σ H Z Q (f ρ)
def tPL (K : PySem.W.Frag) (cm : Cm) (W : WX) (f : En → Ot (List D)) : TA := fun σ H Q => ∃ Z ρ Fs, OkP K cm H σ ρ Fs Z ∧ FinL K cm W σ H Z Q (f ρ)
def tPT (K : PySem.W.Frag) (cm : Cm) (W : WX) (f : En → Ot Bool) : TT := fun σ H Q => ∃ Z ρ Fs, OkP K cm H σ ρ Fs Z ∧ FinB K cm W σ H Z Q (f ρ)
abbrev SE (X : Cx) (cm : Cm) (W : WX) (e : Expr) (f : En → Ot D) : Prop := PE X e (tP X.K cm W f)
abbrev SA (X : Cx) (cm : Cm) (W : WX) (es : List Expr) (f : En → Ot (List D)) : Prop := PA X es (tPL X.K cm W f)
abbrev ST (X : Cx) (cm : Cm) (W : WX) (e : Expr) (f : En → Ot Bool) : Prop := PT X e (tPT X.K cm W f)
abbrev SW (X : Cx) (cm : Cm) (W : WX) (e : Expr) (f : En → Ot Bool) : Prop := PW X e (tPT X.K cm W f)

theorem PE.imp {X : Cx} {e : Expr} {t t' : TE} (h : PE X e t) (i : ∀ σ H Q, t' σ H Q → t σ H Q) : PE X e t' := ⟨fun pins s σ H Q I q => h.run pins s σ H Q I (i σ H Q q)⟩
theorem PT.imp {X : Cx} {e : Expr} {t t' : TT} (h : PT X e t) (i : ∀ σ H Q, t' σ H Q → t σ H Q) : PT X e t' := ⟨fun pins s σ H Q I q => h.run pins s σ H Q I (i σ H Q q)⟩
theorem PW.imp {X : Cx} {e : Expr} {t t' : TT} (h : PW X e t) (i : ∀ σ H Q, t' σ H Q → t σ H Q) : PW X e t' := ⟨fun w pins s σ H Q I q => h.run w pins s σ H Q I (i σ H Q q)⟩
theorem PA.imp {X : Cx} {es : List Expr} {t t' : TA} (h : PA X es t) (i : ∀ σ H Q, t' σ H Q → t σ H Q) : PA X es t' := ⟨fun p pins s σ H Q I q => h.run p pins s σ H Q I (i σ H Q q)⟩

section
variable {K : PySem.W.Frag} {cm : Cm} {H H1 H2 H' : Hp} {Z Z1 Z2 Z' : Zn} {σ : L2.St} {ρ : En} {Fs : List (List Addr)}
theorem RepE.ext (r : RepE K cm H Z σ ρ Fs) (e : Ext H Z H' Z') : RepE K cm H' Z' σ ρ Fs := ⟨r.lσ, r.lF, fun i d q => by
  obtain ⟨v, F, a, b, c⟩ := r.get i d q
  exact ⟨v, F, a, b, c.ext e⟩⟩
theorem OkP.ext (r : OkP K cm H σ ρ Fs Z) (e : Ext H Z H' Z') : OkP K cm H' σ ρ Fs Z' := ⟨r.rep.ext e, r.dom.ext e, fun a h => by rw [e.t]; exact r.tm a h⟩
theorem XRep.ext {x : XD} {cls : Value} {dd : Option Addr} (h : XRep K cm H Z x cls dd) (e : Ext H Z H' Z') : XRep K cm H' Z' x cls dd := by
  obtain ⟨rfl, nb, h⟩ := h
  refine ⟨rfl, nb, ?_⟩
  cases q : x.fld with
  | none => rw [q] at h; exact h
  | some p =>
    obtain ⟨n, d⟩ := p
    rw [q] at h
    obtain ⟨a, v, rfl, ha, r⟩ := h
    exact ⟨a, v, rfl, e.gr _ _ ha, r.ext e⟩
theorem noB_only {d : D} {v : V} {F : List Addr} (r : Rep K cm H Z d v F) (nb : noB d = true) (hf : ∀ a, Z.f a → Z'.f a) : Rep K cm H Z' d v F := by
  refine Rep.only (pf := fun f => f == .own || f == .frz) (fun a f hf' hz => ?_) d r nb
  cases f with
  | own => trivial
  | frz => exact hf a hz
  | bor => cases hf'
  | tmp => cases hf'
theorem XRep.back {x : XD} {cls : Value} {dd : Option Addr} (h : XRep K cm H Z x cls dd) (hf : ∀ a, Z.f a → Z'.f a) : XRep K cm H Z' x cls dd := by
  obtain ⟨rfl, nb, h⟩ := h
  refine ⟨rfl, nb, ?_⟩
  unfold xB at nb
  cases q : x.fld with
  | none => rw [q] at h; exact h
  | some p =>
    obtain ⟨n, d⟩ := p
    rw [q] at h nb
    obtain ⟨a, v, rfl, ha, r⟩ := h
    exact ⟨a, v, rfl, ha, noB_only r nb hf⟩
theorem Res.trans {A : List Addr} {d : D} {v : V} {F : List Addr} (e : Ext H Z H1 Z1) (r : Res K cm H1 Z1 H' Z' A d v F) (ha : ∀ a ∈ A, H a = none ∨ a ∈ ([] : List Addr)) : Res K cm H Z H' Z' [] d v F :=
  ⟨e.trans r.ext, r.rep, r.nd, fun a h => (r.fr a h).elim (fun q => .inl (e.gr.back q)) fun q => ha a q, r.nf⟩
theorem Res.trans0 {d : D} {v : V} {F : List Addr} (e : Ext H Z H1 Z1) (r : Res K cm H1 Z1 H' Z' [] d v F) : Res K cm H Z H' Z' [] d v F := r.trans e (fun _ q => nomatch q)
/-- an atom -/
theorem Res.atom {d : D} {v : V} (e : Ext H Z H' Z') (r : Rep K cm H' Z' d v []) {A : List Addr} : Res K cm H Z H' Z' A d v [] := ⟨e, r, List.nodup_nil, fun _ q => (nomatch q), fun _ q => (nomatch q)⟩
theorem ResL.nil (d : Dom H Z) : ResL K cm H Z H Z [] [] [] [] := ⟨.refl d, repL_nil, List.nodup_nil, fun _ q => (nomatch q), fun _ q => (nomatch q)⟩
/-- what a new thing owns is new, and stands -/
theorem Res.new {d : D} {v : V} {F : List Addr} (r : Res K cm H Z H1 Z1 [] d v F) : ∀ a ∈ F, H a = none := fun a h => (r.fr a h).resolve_right (fun q => nomatch q)
theorem ResL.new {ds : List D} {vs : List V} {Fs : List (List Addr)} (r : ResL K cm H Z H1 Z1 [] ds vs Fs) : ∀ a ∈ Fs.flatten, H a = none := fun a h => (r.fr a h).resolve_right (fun q => nomatch q)
theorem keep_nf (e : Ext H1 Z1 H2 Z2) {a : Addr} (m : Mut (H1 a)) (n : ¬ Z1.f a) : ¬ Z2.f a := fun q => (e.fn a q).elim n (mut_ne m)
theorem ResL.cons {d : D} {v : V} {F : List Addr} {ds : List D} {vs : List V} {Fs : List (List Addr)} (r : Res K cm H Z H1 Z1 [] d v F) (rs : ResL K cm H1 Z1 H2 Z2 [] ds vs Fs) : ResL K cm H Z H2 Z2 [] (d :: ds) (v :: vs) (F :: Fs) := by
  have hm := Rep.mut d r.rep
  refine ⟨r.ext.trans rs.ext, repL_cons (r.rep.ext rs.ext) rs.rep, ?_, fun a h => ?_, fun a h => ?_⟩
  · rw [List.flatten_cons, List.nodup_append]
    refine ⟨r.nd, rs.nd, fun a ha b hb e => ?_⟩
    subst e
    exact mut_ne (hm a ha) (rs.new a hb)
  · rw [List.flatten_cons] at h
    rcases List.mem_append.mp h with h | h
    · exact .inl (r.new a h)
    · exact .inl (r.ext.gr.back (rs.new a h))
  · rw [List.flatten_cons] at h
    rcases List.mem_append.mp h with h | h
    · exact keep_nf rs.ext (hm a h) (r.nf a h)
    · exact rs.nf a h
end

/-! ### argument lists -/
def eL : List (En → Ot D) → En → Ot (List D)
  | [], _ => .ok []
  | f :: fs, ρ => (f ρ).bind fun d => (eL fs ρ).bind fun ds => .ok (d :: ds)
section
variable {X : Cx} {cm : Cm} {W : WX} {e : Expr} {es : List Expr} {f : En → Ot D} {fs : List (En → Ot D)}
theorem tP_bind {K : PySem.W.Frag} {f : En → Ot D} {σ : L2.St} {H : Hp} {Z : Zn} {ρ : En} {Fs : List (List Addr)} {R : VK} (ok : OkP K cm H σ ρ Fs Z)
    (hn : f ρ ≠ .no) (hk : ∀ d, f ρ = .ok d → ∀ v H' Z' F, Res K cm H Z H' Z' [] d v F → R v H') (hx : ∀ x, f ρ = .ex x → ∀ cls dd H' Z', Ext H Z H' Z' → XRep K cm H' Z' x cls dd → W cls dd σ H') : tP K cm W f σ H R := by
  refine ⟨Z, ρ, Fs, ok, ?_⟩
  cases q : f ρ with
  | no => exact hn q
  | ok d => exact hk d q
  | ex x => exact hx x q
theorem sa_nil : SA X cm W [] (eL []) := PA.imp pa_nil fun σ H Q h => by
  obtain ⟨Z, ρ, Fs, ok, h⟩ := h
  exact h [] H Z [] (.nil ok.dom)
theorem sa_cons (he : SE X cm W e f) (hs : SA X cm W es (eL fs)) (hst : starEach (e :: es) X.env = (false, eval e X.env) :: starEach es X.env := by rfl) : SA X cm W (e :: es) (eL (f :: fs)) :=
  PA.imp (pa_cons he hs hst) fun σ H Q h => by
    obtain ⟨Z, ρ, Fs, ok, h⟩ := h
    refine tP_bind ok (fun q => ?_) (fun d q v H1 Z1 F r => ?_) (fun x q => ?_)
    · rw [eL, q] at h; exact h
    · rw [eL, q, Ot.bind_ok] at h
      refine ⟨Z1, ρ, Fs, ok.ext r.ext, ?_⟩
      cases q2 : eL fs ρ with
      | no => rw [q2] at h; exact h
      | ok ds => rw [q2] at h; exact fun vs H2 Z2 Gs rs => h _ _ _ _ (ResL.cons r rs)
      | ex x => rw [q2] at h; exact fun cls dd H' Z' ex xr => h cls dd H' Z' (r.ext.trans ex) xr
    · rw [eL, q] at h; exact h
end

/-! ### primitives: functions of values -/
/-- a primitive's reading holds if p gives a value -/
def OkPr (K : PySem.W.Frag) (cm : Cm) (r : List V → Hp → VK → Prop) (p : List D → Option D) : Prop :=
  ∀ H Z ds vs Fs d, Dom H Z → RepL K cm H Z ds vs Fs → Fs.flatten.Nodup → (∀ a ∈ Fs.flatten, ¬ Z.f a) → p ds = some d →
    ∀ Q : VK, (∀ v H' Z' F, Res K cm H Z H' Z' Fs.flatten d v F → Q v H') → r vs H Q
def OkPrT (K : PySem.W.Frag) (cm : Cm) (r : List V → Hp → (Bool → Hp → Prop) → Prop) (p : List D → Option Bool) : Prop :=
  ∀ H Z ds vs Fs b, Dom H Z → RepL K cm H Z ds vs Fs → p ds = some b → ∀ Q : Bool → Hp → Prop, Q b H → r vs H Q
def r2L (r : R2) : List V → Hp → VK → Prop := fun vs H Q => ∃ x y, vs = [x, y] ∧ r x y H Q
def r1L (r : V → Hp → VK → Prop) : List V → Hp → VK → Prop := fun vs H Q => ∃ x, vs = [x] ∧ r x H Q
theorem OkPr.or {K : PySem.W.Frag} {cm : Cm} {r r' : List V → Hp → VK → Prop} {p p' : List D → Option D} (h : OkPr K cm r p) (h' : OkPr K cm r' p') :
    OkPr K cm (fun vs H Q => r vs H Q ∨ r' vs H Q) (fun ds => (p ds).or (p' ds)) := fun H Z ds vs Fs d dm rp nd nf e Q q => by
  cases q1 : p ds with
  | some d1 =>
    have e1 : d1 = d := by simpa [q1] using e
    subst e1
    exact .inl (h H Z ds vs Fs d1 dm rp nd nf q1 Q q)
  | none => exact .inr (h' H Z ds vs Fs d dm rp nd nf (by simpa [q1] using e) Q q)

/-- the value of a primitive on what the arguments give -/
def ePr (p : List D → Option D) (fs : List (En → Ot D)) : En → Ot D := fun ρ => (eL fs ρ).bind fun ds => .of (p ds)
section
variable {X : Cx} {cm : Cm} {W : WX}
/-- behind the arguments -/
theorem pr_end {K : PySem.W.Frag} {r : List V → Hp → VK → Prop} {p : List D → Option D} (hp : OkPr K cm r p) {fs : List (En → Ot D)} {σ : L2.St} {H : Hp} {Q : VK} (h : tP K cm W (ePr p fs) σ H Q) :
    tPL K cm W (eL fs) σ H (fun vs H1 => r vs H1 Q) := by
  obtain ⟨Z, ρ, Fs, ok, h⟩ := h
  refine ⟨Z, ρ, Fs, ok, ?_⟩
  unfold ePr at h
  cases q : eL fs ρ with
  | no => rw [q] at h; exact h
  | ex x => rw [q] at h; exact h
  | ok ds =>
    rw [q, Ot.bind_ok] at h
    intro vs H1 Z1 Gs r1
    cases q2 : p ds with
    | none => rw [q2] at h; exact h.elim
    | some d =>
      rw [q2] at h
      refine hp H1 Z1 ds vs Gs d (ok.dom.ext r1.ext) r1.rep r1.nd r1.nf q2 Q fun v H' Z' F rr => h v H' Z' F (rr.trans r1.ext fun a ha => .inl (r1.new a ha))
/-- two places, one after another, as an argument list -/
theorem two_of {K : PySem.W.Frag} {f g : En → Ot D} {σ : L2.St} {H : Hp} {R : V → V → Hp → Prop} (h : tPL K cm W (eL [f, g]) σ H (fun vs H1 => ∃ x y, vs = [x, y] ∧ R x y H1)) :
    tP K cm W f σ H (fun x H1 => tP K cm W g σ H1 (fun y H2 => R x y H2)) := by
  obtain ⟨Z, ρ, Fs, ok, h⟩ := h
  simp only [eL] at h
  refine tP_bind ok (fun q => ?_) (fun d q v H1 Z1 F r => ?_) (fun x q => ?_)
  · rw [q] at h; exact h
  · rw [q, Ot.bind_ok] at h
    refine tP_bind (ok.ext r.ext) (fun q2 => ?_) (fun d2 q2 v2 H2 Z2 F2 r2 => ?_) (fun x q2 => ?_)
    · rw [q2] at h; exact h
    · rw [q2] at h
      obtain ⟨x, y, e, k⟩ := h [v, v2] H2 Z2 _ (ResL.cons r (ResL.cons r2 (.nil ((ok.ext r.ext).dom.ext r2.ext))))
      cases e
      exact k
    · rw [q2] at h; exact fun cls dd H' Z' ex xr => h cls dd H' Z' (r.ext.trans ex) xr
  · rw [q] at h; exact h
theorem one_of {K : PySem.W.Frag} {f : En → Ot D} {σ : L2.St} {H : Hp} {R : V → Hp → Prop} (h : tPL K cm W (eL [f]) σ H (fun vs H1 => ∃ x, vs = [x] ∧ R x H1)) :
    tP K cm W f σ H R := by
  obtain ⟨Z, ρ, Fs, ok, h⟩ := h
  simp only [eL] at h
  refine tP_bind ok (fun q => ?_) (fun d q v H1 Z1 F r => ?_) (fun x q => ?_)
  · rw [q] at h; exact h
  · rw [q, Ot.bind_ok] at h
    obtain ⟨x, e, k⟩ := h [v] H1 Z1 _ (ResL.cons r (.nil (ok.dom.ext r.ext)))
    cases e
    exact k
  · rw [q] at h; exact h
variable {a b e : Expr} {f g : En → Ot D} {pos : Pos}
theorem s_op {op : Operator} {r : R2} {p : List D → Option D} (ho : OpR X (binaryOp op) r) (hp : OkPr X.K cm (r2L r) p) (ha : SE X cm W a f) (hb : SE X cm W b g) : SE X cm W (.BinOp a op b pos) (ePr p [f, g]) :=
  PE.imp (pe_op ho ha hb) fun σ H Q h => two_of (pr_end hp h)
theorem s_cmp {op : CmpOp} {r : R2} {p : List D → Option D} (ho : OpR X (compareOp op) r) (hp : OkPr X.K cm (r2L r) p) (ha : SE X cm W a f) (hb : SE X cm W b g) (hm : behindInMarks op b = false) : SE X cm W (.Compare a [op] [b] pos) (ePr p [f, g]) :=
  PE.imp (pe_cmpR ho ha hb hm) fun σ H Q h => two_of (pr_end hp h)
theorem s_un {op : UnaryOp} {r : V → Hp → VK → Prop} {p : List D → Option D} (ho : UnR X (unaryOp op) r) (hp : OkPr X.K cm (r1L r) p) (ha : SE X cm W a f) : SE X cm W (.UnaryOp op a pos) (ePr p [f]) :=
  PE.imp (pe_un ho ha) fun σ H Q h => one_of (pr_end hp h)
theorem s_ix {r : R2} {p : List D → Option D} (ho : IxR X r) (hp : OkPr X.K cm (r2L r) p) (ha : SE X cm W a f) (hb : SE X cm W b g) (hs : PlainIx b := by exact fun _ _ => rfl) : SE X cm W (.Subscript a b pos) (ePr p [f, g]) :=
  PE.imp (pe_ix ho ha hb hs) fun σ H Q h => two_of (pr_end hp h)
theorem s_callB {x : Str} {p : Pos} {es : List Expr} {id : String} {r : List V → Hp → VK → Prop} {pr : List D → Option D} {fs : List (En → Ot D)} (hc : CallR X (.builtin id) r) (hp : OkPr X.K cm r pr) (hg : Gl X x) (hm : X.mg x = none) (hv : bootBuiltins x = some (.builtin id)) (ha : SA X cm W (e :: es) (eL fs))
    (hn : x ≠ "__name__" := by decide) (hdb : (x == ("__debug__" : Str)) = false := by decide) (he : starEach (e :: es) X.env = (false, eval e X.env) :: starEach es X.env := by rfl) (hpl : (backTo pos (starEach es X.env)).any (·.1) = false := by rfl) :
    SE X cm W (.Call (.Name x p) (e :: es) [] pos) (ePr pr fs) :=
  PE.imp (pe_callB hc hg hm hv ha hn hdb he hpl) fun σ H Q h => pr_end hp h
theorem s_callTy {x : Str} {p : Pos} {es : List Expr} {id : String} {r : List V → Hp → VK → Prop} {pr : List D → Option D} {fs : List (En → Ot D)} (hc : CallR X (.type id) r) (hp : OkPr X.K cm r pr) (hg : Gl X x) (hm : X.mg x = none) (hv : bootBuiltins x = some (.type id)) (ha : SA X cm W (e :: es) (eL fs))
    (hn : x ≠ "__name__" := by decide) (hdb : (x == ("__debug__" : Str)) = false := by decide) (he : starEach (e :: es) X.env = (false, eval e X.env) :: starEach es X.env := by rfl) (hpl : (backTo pos (starEach es X.env)).any (·.1) = false := by rfl) :
    SE X cm W (.Call (.Name x p) (e :: es) [] pos) (ePr pr fs) :=
  PE.imp (pe_callTy hc hg hm hv ha hn hdb he hpl) fun σ H Q h => pr_end hp h
end
end OB

namespace OB
open PySem PySem.Spec PyProof.Rows L2

section
variable {K : PySem.W.Frag} {cm : Cm} {H : Hp} {Z : Zn}
theorem repL1 {d : D} {vs : List V} {Fs : List (List Addr)} (h : RepL K cm H Z [d] vs Fs) : ∃ v F, vs = [v] ∧ Fs = [F] ∧ Rep K cm H Z d v F := by
  obtain ⟨v, vs', F, Fs', rfl, rfl, h1, rfl, rfl⟩ := h
  exact ⟨v, F, rfl, rfl, h1⟩
theorem repL2 {d e : D} {vs : List V} {Fs : List (List Addr)} (h : RepL K cm H Z [d, e] vs Fs) : ∃ v u F G, vs = [v, u] ∧ Fs = [F, G] ∧ Rep K cm H Z d v F ∧ Rep K cm H Z e u G := by
  obtain ⟨v, vs', F, Fs', rfl, rfl, h1, h2⟩ := h
  obtain ⟨u, G, rfl, rfl, h3⟩ := repL1 h2
  exact ⟨v, u, F, G, rfl, rfl, h1, h3⟩
theorem repL3 {d e f : D} {vs : List V} {Fs : List (List Addr)} (h : RepL K cm H Z [d, e, f] vs Fs) : ∃ v u w F G M, vs = [v, u, w] ∧ Fs = [F, G, M] ∧ Rep K cm H Z d v F ∧ Rep K cm H Z e u G ∧ Rep K cm H Z f w M := by
  obtain ⟨v, vs', F, Fs', rfl, rfl, h1, h2⟩ := h
  obtain ⟨u, w, G, M, rfl, rfl, h2, h3⟩ := repL2 h2
  exact ⟨v, u, w, F, G, M, rfl, rfl, h1, h2, h3⟩
theorem rep_int {i : Int} : Rep K cm H Z (.int i) (.int i) [] := ⟨rfl, rfl⟩
theorem rep_str {i : Str} : Rep K cm H Z (.str i) (.str i) [] := ⟨rfl, rfl⟩
theorem rep_bl {i : Bool} : Rep K cm H Z (.bl i) (.bl i) [] := ⟨rfl, rfl⟩
theorem rep_non : Rep K cm H Z .non .non [] := ⟨rfl, rfl⟩
theorem rdL {a : Addr} {vs : List V} (h : Rd H a (.lst vs)) : SqL K H a vs := .inl h
/-- a new object -/
theorem Res.newNd {A : List Addr} {k : Kd} {ds : List D} {vs : List V} {Fs : List (List Addr)} {p : Addr} {o : HO} (dm : Dom H Z) (rl : RepL K cm H Z ds vs Fs) (nd : Fs.flatten.Nodup) (sub : ∀ a ∈ Fs.flatten, H a = none ∨ a ∈ A) (nf : ∀ a ∈ Fs.flatten, ¬ Z.f a)
    (hp : H p = none) (hc : Cell K cm (upd H p o) Z p k vs) : Res K cm H Z (upd H p o) Z A (.nd k ds) (.ref p) (ownA k p ++ Fs.flatten) := by
  have g : Grow H (upd H p o) := .new hp
  have hm := RepL.mut ds rl
  have sp : ∀ a ∈ ownA k p, a = p := fun a h => by
    unfold ownA at h
    split at h
    · simpa using h
    · cases h
  refine ⟨.grow dm g, ⟨p, vs, Fs, rfl, hc, rl.grow g (fun _ h => h) (fun _ h => h) (fun _ h => h), rfl⟩, ?_, fun a h => ?_, fun a h => ?_⟩
  · rw [List.nodup_append]
    refine ⟨?_, nd, fun a ha b hb e => ?_⟩
    · unfold ownA
      split <;> simp
    · subst e
      rw [sp a ha] at hb
      exact mut_ne (hm p hb) hp
  · rcases List.mem_append.mp h with h | h
    · exact .inl (by rw [sp a h]; exact hp)
    · exact sub a h
  · rcases List.mem_append.mp h with h | h
    · rw [sp a h]; exact fun q => dm.f p q hp
    · exact nf a h
theorem Res.newL {A : List Addr} {ds : List D} {vs : List V} {Fs : List (List Addr)} {p : Addr} (dm : Dom H Z) (rl : RepL K cm H Z ds vs Fs) (nd : Fs.flatten.Nodup) (sub : ∀ a ∈ Fs.flatten, H a = none ∨ a ∈ A) (nf : ∀ a ∈ Fs.flatten, ¬ Z.f a)
    (hp : H p = none) : Res K cm H Z (upd H p (.lst vs)) Z A (.nd (.lst .own) ds) (.ref p) (ownA (.lst .own) p ++ Fs.flatten) :=
  .newNd dm rl nd sub nf hp ⟨fun _ => upd_same, .inl upd_same, trivial⟩
theorem Res.newT {A : List Addr} {ds : List D} {vs : List V} {Fs : List (List Addr)} {p : Addr} (dm : Dom H Z) (rl : RepL K cm H Z ds vs Fs) (nd : Fs.flatten.Nodup) (sub : ∀ a ∈ Fs.flatten, H a = none ∨ a ∈ A) (nf : ∀ a ∈ Fs.flatten, ¬ Z.f a)
    (hp : H p = none) : Res K cm H Z (upd H p (.tup vs)) Z A (.nd .tup ds) (.ref p) (ownA .tup p ++ Fs.flatten) :=
  .newNd dm rl nd sub nf hp (SqT.of upd_same)
/-- the same thing, as it stands -/
theorem Res.same {A : List Addr} {d : D} {v : V} {F : List Addr} (dm : Dom H Z) (r : Rep K cm H Z d v F) (nd : F.Nodup) (sub : ∀ a ∈ F, a ∈ A) (nf : ∀ a ∈ F, ¬ Z.f a) : Res K cm H Z H Z A d v F :=
  ⟨.refl dm, r, nd, fun a h => .inr (sub a h), nf⟩
end
theorem flatten_get {α : Type} : ∀ {Fs : List (List α)} {i : Nat} {F : List α}, Fs[i]? = some F → F.Sublist Fs.flatten
  | [], i, F, h => by simp at h
  | G :: Fs, 0, F, h => by simp at h; subst h; rw [List.flatten_cons]; exact List.sublist_append_left _ _
  | G :: Fs, i + 1, F, h => by
    rw [List.flatten_cons]
    exact (flatten_get (Fs := Fs) (i := i) (by simpa using h)).trans (List.sublist_append_right _ _)

/-! ### numbers and texts -/
def mulOk (i j : Int) : Bool := decide (Builtin.Int.intBits i + Builtin.Int.intBits j ≤ 134217728)
theorem mulOk_ok {i j : Int} (h : mulOk i j = true) : IntMulOk i j := by
  have h3 := of_decide_eq_true h
  have e : bitsLine = 134217728 := by decide
  unfold IntMulOk
  intro z
  rw [Bool.and_eq_true] at z
  have z2 := z.2
  unfold Builtin.Int.intTooBig at z2
  have z3 := of_decide_eq_true z2
  rw [e] at z3
  omega
def divOk (j : Int) : Bool := decide (j ≠ 0) && decide (j.natAbs.log2 < 9000)
def divV (i j : Int) : Int := if 0 < j then i / j else i.fdiv j
def modV (i j : Int) : Int := if 0 < j then i % j else i.fmod j
def powOk (i j : Int) : Bool := decide (0 ≤ j) && decide ((Builtin.Int.intBits i : Int) * j ≤ 2 ^ 27)
def pAdd : List D → Option D
  | [.int i, .int j] => some (.int (i + j))
  | [.str a, .str b] => if a.length + b.length ≤ sizeLine then some (.str (a ++ b)) else none
  | [.nd (.lst _) xs, .nd (.lst _) ys] => if xs.length + ys.length ≤ sizeLine then some (.nd (.lst .own) (xs ++ ys)) else none
  | [.nd .tup (x :: xs), .nd .tup (y :: ys)] => if (x :: xs).length + (y :: ys).length ≤ sizeLine then some (.nd .tup ((x :: xs) ++ (y :: ys))) else none
  | _ => none
def pSub : List D → Option D
  | [.int i, .int j] => some (.int (i - j))
  | _ => none
def pMul : List D → Option D
  | [.int i, .int j] => if mulOk i j then some (.int (i * j)) else none
  | [.str s, .int k] => if s.length * k.toNat ≤ sizeLine ∧ 2 ≤ k ∧ k < 2 ^ 30 ∧ 1 ≤ s.length then some (.str ⟨(List.replicate k.toNat s.cps.toList).flatten.toArray⟩) else none
  | [.nd (.lst .own) [.str d], .int k] => if k.toNat ≤ sizeLine ∧ 0 ≤ k ∧ k < 2 ^ 62 then some (.nd (.lst .own) (List.replicate k.toNat (.str d))) else none
  | _ => none
def pDiv : List D → Option D
  | [.int i, .int j] => if divOk j then some (.int (divV i j)) else none
  | _ => none
def pMod : List D → Option D
  | [.int i, .int j] => if j ≠ 0 then some (.int (modV i j)) else none
  | _ => none
def pPow : List D → Option D
  | [.int i, .int j] => if powOk i j then some (.int (i ^ j.toNat)) else none
  | _ => none
def pNeg : List D → Option D
  | [.int i] => some (.int (-i))
  | _ => none
def rCatR : R2 := fun x y H Q => ∃ l b xs zs, x = .ref l ∧ y = .ref b ∧ Rd H l (.lst xs) ∧ Rd H b (.lst zs) ∧ xs.length + zs.length ≤ sizeLine ∧ ∀ p, H p = none → Q (.ref p) (upd H p (.lst (xs ++ zs)))
section
variable {X : Cx}
theorem op_catR : OpR X (binaryOp .Add) rCatR := by
  intro pins s σ H x y v u Q I rx ry h
  obtain ⟨l, b, xs, zs, rfl, rfl, hH, hB, hz, q⟩ := h
  cases rx
  cases ry
  obtain ⟨z, its, n, r, e⟩ := hH.ok I.hok
  obtain ⟨z2, its2, n2, r2, e2⟩ := hB.ok I.hok
  have hl := r.length
  have hl2 := r2.length
  refine PySem.P.add_list e e2 ?_ (by rw [List.size_toArray, List.size_toArray]; omega)
  have ea : its.toArray ++ its2.toArray = (its ++ its2).toArray := by simp
  rw [ea]
  exact ⟨.ref _, _, I.lnew (t' := s.toks) (r.append r2) (by rw [List.length_append]; omega), rfl, q _ I.fresh⟩
end
def rStrMul : R2 := fun x y H Q => ∃ (s : Str) (k : Int), x = .str s ∧ y = .int k ∧ s.length * k.toNat ≤ sizeLine ∧ 2 ≤ k ∧ k < 2 ^ 30 ∧ 1 ≤ s.length ∧ Q (.str ⟨(List.replicate k.toNat s.cps.toList).flatten.toArray⟩) H
theorem rep_cps (a : Array Nat) (k : Nat) : (List.replicate k a).foldl (· ++ ·) #[] = (List.replicate k a.toList).flatten.toArray := by
  have key : ∀ (k : Nat) (acc : Array Nat), (List.replicate k a).foldl (· ++ ·) acc = acc ++ (List.replicate k a.toList).flatten.toArray := by
    intro k
    induction k with
    | zero => intro acc; simp
    | succ k ih =>
      intro acc
      rw [List.replicate_succ, List.foldl_cons, ih, List.replicate_succ, List.flatten_cons]
      apply Array.ext'
      simp
  rw [key k #[]]
  simp
section
variable {X : Cx}
theorem op_strMul : OpR X (binaryOp .Mult) rStrMul := by
  intro pins s σ H x y v u Q I rx ry h
  obtain ⟨z, k, rfl, rfl, hz, h2, h3, h1, q⟩ := h
  obtain ⟨t, rfl⟩ := rx
  obtain ⟨t', rfl⟩ := ry
  have hline : (sizeLine : Nat) = 16777216 := sizeLine_eq
  have kn : (k.toNat : Int) = k := Int.toNat_of_nonneg (by omega)
  have hz2 : (z.length : Int) * k ≤ 16777216 := by
    have q1 : ((z.length * k.toNat : Nat) : Int) ≤ ((16777216 : Nat) : Int) := by
      have := hz
      rw [hline] at this
      exact Int.ofNat_le.mpr this
    rw [Int.natCast_mul, kn] at q1
    exact q1
  refine PySem.P.mul_str ?_ (fun _ _ => ?_) (fun _ _ => ?_) ?_
  · have a : decide (k < -(2 ^ 63 : Int)) = false := decide_eq_false (by omega)
    have b : decide (k ≥ 2 ^ 63) = false := decide_eq_false (by omega)
    rw [a, b]; rfl
  · intro q1
    have q2 : k * ((2 ^ 63 - 1) / k) ≥ (2 ^ 63 - 1) - k := by
      have e := Int.emod_add_mul_ediv (2 ^ 63 - 1 : Int) k
      have e2 := Int.emod_lt_of_pos (2 ^ 63 - 1 : Int) (show 0 < k by omega)
      omega
    have q3 : k * (((2 ^ 63 - 1) / k) + 1) ≤ k * (z.length : Int) := Int.mul_le_mul_of_nonneg_left (by omega) (by omega)
    rw [Int.mul_add, Int.mul_comm k (z.length : Int)] at q3
    omega
  · unfold PySem.Builtin.Str.tooLong
    first
      | exact decide_eq_false (by omega)
      | (simp only [decide_eq_false_iff_not]; omega)
      | (rw [hline] at hz; simp; omega)
  · rw [if_neg (by omega : ¬ k < 1)]
    have e : (k == 1 || z.length == 0) = false := by
      have a : (k == 1) = false := by simp; omega
      have b : (z.length == 0) = false := by simp; omega
      rw [a, b]; rfl
    rw [e, rep_cps]
    have hl : (⟨(List.replicate k.toNat z.cps.toList).flatten.toArray⟩ : Str).length = k.toNat * z.length := by
      show ((List.replicate k.toNat z.cps.toList).flatten.toArray).size = _
      simp [List.length_flatten, Str.length]
    refine ⟨?_, ⟨.str _, H, I.tok _, ⟨_, rfl⟩, q⟩⟩
    first
      | (rw [hl, Nat.mul_comm]; exact hz)
      | (show _ ≤ sizeLine; rw [hl, Nat.mul_comm]; exact hz)
/-! ### the arithmetic of data -/
def rAdd4 (K : PySem.W.Frag) : R2 := fun x y H Q => rI0 (fun i j => .int (i + j)) x y H Q ∨ (∃ i j, x = .str i ∧ y = .str j ∧ i.length + j.length ≤ sizeLine ∧ Q (.str (i ++ j)) H) ∨ rCatR x y H Q ∨ rCatT K x y H Q
theorem op_add4 : OpR X (binaryOp .Add) (rAdd4 X.K) := op_add.or (op_add_str.or (op_catR.or op_catT))
def rMul3 : R2 := fun x y H Q => rI (fun i j => mulOk i j = true) (fun i j => .int (i * j)) x y H Q ∨ rStrMul x y H Q ∨ rRep x y H Q
theorem op_mul3 : OpR X (binaryOp .Mult) rMul3 := OpR.or (opI fun _ _ _ _ _ _ _ hc q => mul_int q (mulOk_ok hc)) (op_strMul.or op_rep)
def rDivD : R2 := rI (fun _ j => divOk j = true) fun i j => .int (divV i j)
theorem op_divD : OpR X (binaryOp .FloorDiv) rDivD := opI fun i j _ _ _ _ _ hc q => by
  have h0 : j ≠ 0 := by
    have := (Bool.and_eq_true_iff.mp hc).1
    exact of_decide_eq_true this
  refine floordiv_int h0 ?_ (.inl (PyProof.noPylong_of_log2 (of_decide_eq_true (Bool.and_eq_true_iff.mp hc).2)))
  have e : i.fdiv j = divV i j := by
    unfold divV
    split
    · rw [Int.fdiv_eq_ediv_of_nonneg i (by omega)]
    · rfl
  rw [e]; exact q
def rModD : R2 := rI (fun _ j => j ≠ 0) fun i j => .int (modV i j)
theorem op_modD : OpR X (binaryOp .Mod) rModD := opI fun i j _ _ _ _ _ hc q => by
  refine mod_int' hc ?_
  have e : i.fmod j = modV i j := by
    unfold modV
    split
    · rw [Int.fmod_eq_emod_of_nonneg i (by omega)]
    · rfl
  rw [e]; exact q
def rPowD : R2 := rI (fun i j => powOk i j = true) fun i j => .int (i ^ j.toNat)
theorem op_powD : OpR X (binaryOp .Pow) rPowD := opI fun i j _ _ _ _ _ hc q => by
  have h := Bool.and_eq_true_iff.mp hc
  exact pow_int (of_decide_eq_true h.1) (of_decide_eq_true h.2) q
end
section
variable {K : PySem.W.Frag} {cm : Cm}
theorem cat_sub (A B : List Addr) (Fs1 Fs2 : List (List Addr)) : (Fs1 ++ Fs2).flatten.Sublist [A ++ Fs1.flatten, B ++ Fs2.flatten].flatten := by
  rw [List.flatten_append]
  simp only [List.flatten_cons, List.flatten_nil, List.append_nil]
  exact (List.sublist_append_right _ _).append (List.sublist_append_right _ _)
theorem ok_add : OkPr K cm (r2L (rAdd4 K)) pAdd := by
  intro H Z ds vs Fs d dm rp nd nf e Q q
  unfold pAdd at e
  split at e
  · cases e
    obtain ⟨v, u, F, G, rfl, rfl, ⟨rfl, rfl⟩, ⟨rfl, rfl⟩⟩ := repL2 rp
    exact ⟨_, _, rfl, .inl ⟨_, _, rfl, rfl, q _ H Z [] (.atom (.refl dm) rep_int)⟩⟩
  · split at e
    · rename_i hl
      cases e
      obtain ⟨v, u, F, G, rfl, rfl, ⟨rfl, rfl⟩, ⟨rfl, rfl⟩⟩ := repL2 rp
      exact ⟨_, _, rfl, .inr (.inl ⟨_, _, rfl, rfl, hl, q _ H Z [] (.atom (.refl dm) rep_str)⟩)⟩
    · cases e
  · split at e
    · rename_i hl
      cases e
      obtain ⟨v, u, F, G, rfl, rfl, ⟨a, vs1, Fs1, rfl, c1, l1, rfl⟩, ⟨b, vs2, Fs2, rfl, c2, l2, rfl⟩⟩ := repL2 rp
      have lv1 := l1.len.1
      have lv2 := l2.len.1
      have sub := fun A B => cat_sub A B Fs1 Fs2
      refine ⟨_, _, rfl, .inr (.inr (.inl ⟨a, b, vs1, vs2, rfl, rfl, c1.2.1, c2.2.1, by omega, fun p hp => ?_⟩))⟩
      exact q _ _ Z _ (.newL dm (l1.app l2) (nd.sublist (sub _ _)) (fun x hx => .inr ((sub _ _).subset hx)) (fun x hx => nf x ((sub _ _).subset hx)) hp)
    · cases e
  · split at e
    · rename_i hl
      cases e
      obtain ⟨v, u, F, G, rfl, rfl, ⟨a, vs1, Fs1, rfl, c1, l1, rfl⟩, ⟨b, vs2, Fs2, rfl, c2, l2, rfl⟩⟩ := repL2 rp
      have lv1 := l1.len.1
      have lv2 := l2.len.1
      have sub := fun A B => cat_sub A B Fs1 Fs2
      refine ⟨_, _, rfl, .inr (.inr (.inr ⟨a, b, vs1, vs2, rfl, rfl, c1, c2, fun z => by subst z; simp at lv1, by omega, fun z => by subst z; simp at lv2, fun _ p hp => ?_⟩))⟩
      exact q _ _ Z _ (.newT dm (l1.app l2) (nd.sublist (sub _ _)) (fun x hx => .inr ((sub _ _).subset hx)) (fun x hx => nf x ((sub _ _).subset hx)) hp)
    · cases e
  · cases e
theorem ok_int2 {C : Int → Int → Prop} {g : Int → Int → Int} {p : List D → Option D} (hp : ∀ ds d, p ds = some d → ∃ i j, ds = [.int i, .int j] ∧ C i j ∧ d = .int (g i j)) : OkPr K cm (r2L (rI C fun i j => .int (g i j))) p := by
  intro H Z ds vs Fs d dm rp nd nf e Q q
  obtain ⟨i, j, rfl, hc, rfl⟩ := hp _ _ e
  obtain ⟨v, u, F, G, rfl, rfl, ⟨rfl, rfl⟩, ⟨rfl, rfl⟩⟩ := repL2 rp
  exact ⟨_, _, rfl, i, j, rfl, rfl, hc, q _ H Z [] (.atom (.refl dm) rep_int)⟩
theorem ok_sub : OkPr K cm (r2L (rI0 fun i j => .int (i - j))) pSub := by
  intro H Z ds vs Fs d dm rp nd nf e Q q
  unfold pSub at e
  split at e
  · cases e
    obtain ⟨v, u, F, G, rfl, rfl, ⟨rfl, rfl⟩, ⟨rfl, rfl⟩⟩ := repL2 rp
    exact ⟨_, _, rfl, _, _, rfl, rfl, q _ H Z [] (.atom (.refl dm) rep_int)⟩
  · cases e
theorem ok_div : OkPr K cm (r2L rDivD) pDiv := ok_int2 fun ds d e => by
  unfold pDiv at e
  split at e
  · split at e
    · rename_i h
      cases e
      exact ⟨_, _, rfl, h, rfl⟩
    · cases e
  · cases e
theorem ok_mod : OkPr K cm (r2L rModD) pMod := ok_int2 fun ds d e => by
  unfold pMod at e
  split at e
  · split at e
    · rename_i h
      cases e
      exact ⟨_, _, rfl, h, rfl⟩
    · cases e
  · cases e
theorem ok_pow : OkPr K cm (r2L rPowD) pPow := ok_int2 fun ds d e => by
  unfold pPow at e
  split at e
  · split at e
    · rename_i h
      cases e
      exact ⟨_, _, rfl, h, rfl⟩
    · cases e
  · cases e
theorem ok_neg : OkPr K cm (r1L (rU fun i => .int (-i))) pNeg := by
  intro H Z ds vs Fs d dm rp nd nf e Q q
  unfold pNeg at e
  split at e
  · cases e
    obtain ⟨v, F, rfl, rfl, ⟨rfl, rfl⟩⟩ := repL1 rp
    exact ⟨_, rfl, _, rfl, q _ H Z [] (.atom (.refl dm) rep_int)⟩
  · cases e
theorem repL_strs : ∀ (n : Nat) (d : Str), RepL K cm H Z (List.replicate n (.str d)) (List.replicate n (.str d)) (List.replicate n [])
  | 0, _ => repL_nil
  | n + 1, d => repL_cons ⟨rfl, rfl⟩ (repL_strs n d)
theorem flatten_nils : ∀ n : Nat, (List.replicate n ([] : List Addr)).flatten = []
  | 0 => rfl
  | n + 1 => by rw [List.replicate_succ, List.flatten_cons, flatten_nils n]; rfl
theorem flatten_ones {α : Type} (x : α) : ∀ n : Nat, (List.replicate n [x]).flatten = List.replicate n x
  | 0 => rfl
  | n + 1 => by rw [List.replicate_succ, List.flatten_cons, flatten_ones x n]; rfl
theorem ok_mul : OkPr K cm (r2L rMul3) pMul := by
  intro H Z ds vs Fs d dm rp nd nf e Q q
  unfold pMul at e
  split at e
  · split at e
    · rename_i hl
      cases e
      obtain ⟨v, u, F, G, rfl, rfl, ⟨rfl, rfl⟩, ⟨rfl, rfl⟩⟩ := repL2 rp
      exact ⟨_, _, rfl, .inl ⟨_, _, rfl, rfl, hl, q _ H Z [] (.atom (.refl dm) rep_int)⟩⟩
    · cases e
  · split at e
    · rename_i hl
      cases e
      obtain ⟨v, u, F, G, rfl, rfl, ⟨rfl, rfl⟩, ⟨rfl, rfl⟩⟩ := repL2 rp
      exact ⟨_, _, rfl, .inr (.inl ⟨_, _, rfl, rfl, hl.1, hl.2.1, hl.2.2.1, hl.2.2.2, q _ H Z [] (.atom (.refl dm) rep_str)⟩)⟩
    · cases e
  · split at e
    · rename_i d0 k hl
      cases e
      obtain ⟨v, u, F, G, rfl, rfl, ⟨a, vs1, Fs1, rfl, c1, l1, rfl⟩, ⟨rfl, rfl⟩⟩ := repL2 rp
      obtain ⟨v1, F1, rfl, rfl, ⟨rfl, rfl⟩⟩ := repL1 l1
      refine ⟨_, _, rfl, .inr (.inr ⟨a, k, _, rfl, rfl, c1.1 (by decide), by omega, by omega, by simp only [List.length_singleton, Nat.one_mul]; exact hl.1, fun p hp => ?_⟩)⟩
      rw [flatten_ones]
      refine q _ _ Z _ (.newL dm (repL_strs k.toNat d0) ?_ ?_ ?_ hp)
      · rw [flatten_nils]; exact List.nodup_nil
      · rw [flatten_nils]; exact fun _ z => nomatch z
      · rw [flatten_nils]; exact fun _ z => nomatch z
    · cases e
  · cases e
end
end OB

namespace OB
open PySem PySem.Spec PyProof.Rows L2

/-! ### reading a name: what is owned is lent for the moment -/
def Fl.toTmp : Fl → Fl
  | .own => .tmp
  | f => f
def getV (ρ : En) (i : Nat) : Option D := (ρ[i]?).join
def eVar (i : Nat) : En → Ot D := fun ρ => .of ((getV ρ i).map (mapF Fl.toTmp))
def eC (d : D) : En → Ot D := fun _ => .ok d
theorem getV_some {ρ : En} {i : Nat} {d : D} (h : getV ρ i = some d) : ρ[i]? = some (some d) := by
  unfold getV at h
  cases q : ρ[i]? with
  | none => rw [q] at h; cases h
  | some o => rw [q] at h; rw [show o = some d from h]
theorem flat_mem {Fs : List (List Addr)} {i : Nat} {F : List Addr} (e : Fs[i]? = some F) {x : Addr} (h : x ∈ F) : x ∈ Fs.flatten := (flatten_get e).subset h
/-- what a slot holds, lent -/
theorem OkP.lent {K : PySem.W.Frag} {cm : Cm} {H : Hp} {σ : L2.St} {ρ : En} {Fs : List (List Addr)} {Z : Zn} (ok : OkP K cm H σ ρ Fs Z) {i : Nat} {d : D} (h : getV ρ i = some d) :
    ∃ v, σ[i]? = some (some v) ∧ Rep K cm H Z (mapF Fl.toTmp d) v [] := by
  obtain ⟨v, F, e1, e2, r⟩ := ok.rep.get i d (getV_some h)
  refine ⟨v, e1, Rep.give (O := fun a => a ∈ F) (cell_flag (fun a ha f ef _ => ?_) (fun a f hf hz => ?_) (fun f e => ?_)) (fun f e => ?_) d r fun a ha => ha⟩
  · subst ef
    exact ok.tm a (flat_mem e2 ha)
  · cases f with
    | own => exact absurd rfl hf
    | _ => exact hz
  · intro z; subst z; exact e rfl
  · cases f <;> cases e
section
variable {X : Cx} {cm : Cm} {W : WX} {e a b c : Expr} {f g h : En → Ot D} {pos : Pos}
theorem s_var {i : Nat} {x : Str} (he : PE X (.Name x pos) (tVar i)) : SE X cm W (.Name x pos) (eVar i) := PE.imp he fun σ H Q h => by
  obtain ⟨Z, ρ, Fs, ok, h⟩ := h
  unfold eVar at h
  cases q : getV ρ i with
  | none => rw [q] at h; exact h.elim
  | some d =>
    rw [q] at h
    obtain ⟨v, e, r⟩ := ok.lent q
    exact ⟨v, e, h v H Z [] (.atom (.refl ok.dom) r)⟩
/-- a constant: an atom -/
theorem s_c {d : D} {v : V} (he : PE X e (tC v)) (hr : ∀ (H : Hp) (Z : Zn), Rep X.K cm H Z d v []) : SE X cm W e (eC d) := PE.imp he fun σ H Q h => by
  obtain ⟨Z, ρ, Fs, ok, h⟩ := h
  exact h v H Z [] (.atom (.refl ok.dom) (hr H Z))
theorem s_int {i j} : SE X cm W (.Constant (.int i) j pos) (eC (.int i)) := s_c pe_int fun _ _ => rep_int
theorem s_bl {b j} : SE X cm W (.Constant (.bool b) j pos) (eC (.bl b)) := s_c pe_bl fun _ _ => rep_bl
theorem s_non {j} : SE X cm W (.Constant .none j pos) (eC .non) := s_c pe_non fun _ _ => rep_non
theorem s_str {x j} : SE X cm W (.Constant (.str x) j pos) (eC (.str x)) := s_c pe_str fun _ _ => rep_str
/-- a module's int, text, class -/
theorem s_globI {x : Str} {i : Int} {t : Tok} (hg : Gl X x) (hm : X.mg x = some (.int i t)) (hd : (x == ("__debug__" : Str)) = false := by decide) : SE X cm W (.Name x pos) (eC (.int i)) := s_c (pe_glob (v := .int i) hg hm ⟨t, rfl⟩ hd) fun _ _ => rep_int
theorem s_globS {x : Str} {i : Str} {t : Tok} (hg : Gl X x) (hm : X.mg x = some (.str i t)) (hd : (x == ("__debug__" : Str)) = false := by decide) : SE X cm W (.Name x pos) (eC (.str i)) := s_c (pe_glob (v := .str i) hg hm ⟨t, rfl⟩ hd) fun _ _ => rep_str

/-! ### displays -/
def pLst (ds : List D) : Option D := if ds.length ≤ sizeLine then some (.nd (.lst .own) ds) else none
def pTup (ds : List D) : Option D := if ds.length ≤ sizeLine then some (.nd .tup ds) else none
theorem s_lst {es : List Expr} {fs : List (En → Ot D)} (ha : SA X cm W es (eL fs)) : SE X cm W (.List es pos) (ePr pLst fs) := PE.imp (pe_lst ha) fun σ H Q h =>
  pr_end (r := fun xs H1 Q => xs.length ≤ sizeLine ∧ ∀ p, H1 p = none → Q (.ref p) (upd H1 p (.lst xs))) (fun H Z ds vs Fs d dm rp nd nf e Q q => by
    unfold pLst at e
    split at e
    · rename_i hl
      cases e
      exact ⟨by rw [rp.len.1]; exact hl, fun p hp => q _ _ Z _ (.newL dm rp nd (fun x hx => .inr hx) nf hp)⟩
    · cases e) h
theorem s_tup {es : List Expr} {x1} {fs : List (En → Ot D)} (ha : SA X cm W es (eL fs)) : SE X cm W (.Tuple es x1 pos) (ePr pTup fs) := PE.imp (pe_tup ha) fun σ H Q h =>
  pr_end (r := fun xs H1 Q => xs.length ≤ sizeLine ∧ ∀ p, H1 p = none → Q (.ref p) (upd H1 p (.tup xs))) (fun H Z ds vs Fs d dm rp nd nf e Q q => by
    unfold pTup at e
    split at e
    · rename_i hl
      cases e
      exact ⟨by rw [rp.len.1]; exact hl, fun p hp => q _ _ Z _ (.newT dm rp nd (fun x hx => .inr hx) nf hp)⟩
    · cases e) h
/-- {} -/
theorem s_dict0 : SE X cm W (.Dict [] [] pos) (eC (.nd (.dct .own []) [])) := PE.imp pe_dnewK fun σ H Q h => by
  obtain ⟨Z, ρ, Fs, ok, h⟩ := h
  exact fun p hp => h _ _ Z _ (.newNd (k := .dct .own []) ok.dom repL_nil List.nodup_nil (fun _ z => nomatch z) (fun _ z => nomatch z) hp ⟨upd_same, rfl, trivial⟩)

/-! ### and, or, not, if -/
def asB : D → Ot Bool
  | .bl b => .ok b
  | _ => .no
def eAnd (f g : En → Ot D) : En → Ot D := fun ρ => (f ρ).bind fun d => (asB d).bind fun b => if b then g ρ else .ok (.bl false)
def eOr (f g : En → Ot D) : En → Ot D := fun ρ => (f ρ).bind fun d => (asB d).bind fun b => if b then .ok (.bl true) else g ρ
def eNot (f : En → Ot D) : En → Ot D := fun ρ => (f ρ).bind fun d => (asB d).bind fun b => .ok (.bl (!b))
def eT (f : En → Ot D) : En → Ot Bool := fun ρ => (f ρ).bind asB
def bAnd (f g : En → Ot Bool) : En → Ot Bool := fun ρ => (f ρ).bind fun b => if b then g ρ else .ok false
def bOr (f g : En → Ot Bool) : En → Ot Bool := fun ρ => (f ρ).bind fun b => if b then .ok true else g ρ
def bNot (f : En → Ot Bool) : En → Ot Bool := fun ρ => (f ρ).bind fun b => .ok (!b)
def eIf (t : En → Ot Bool) (f g : En → Ot D) : En → Ot D := fun ρ => (t ρ).bind fun b => if b then f ρ else g ρ
theorem asB_ok {d : D} {b : Bool} (h : asB d = .ok b) : d = .bl b := by
  cases d <;> first | (cases h; done) | (cases h; rfl)
theorem asB_ex {d : D} {x : XD} : asB d ≠ .ex x := by cases d <;> exact fun h => nomatch h
/-- after f: a bool -/
theorem tP_asB {K : PySem.W.Frag} {f : En → Ot D} {k : Bool → Ot D} {σ : L2.St} {H : Hp} {Q : VK} {Z : Zn} {ρ : En} {Fs : List (List Addr)} (ok : OkP K cm H σ ρ Fs Z) {o : Ot D} (ho : o = (f ρ).bind fun d => (asB d).bind k)
    (h : FinD K cm W σ H Z Q o) {R : VK}
    (hk : ∀ b H1 Z1, Ext H Z H1 Z1 → k b = o → R (.bl b) H1) : tP K cm W f σ H R := by
  subst ho
  refine tP_bind ok (fun q => ?_) (fun d q v H1 Z1 F r => ?_) (fun x q => ?_)
  · rw [q] at h; exact h
  · rw [q, Ot.bind_ok] at h
    cases q2 : asB d with
    | no => rw [q2] at h; exact h.elim
    | ex x => exact absurd q2 asB_ex
    | ok b =>
      have e := asB_ok q2
      subst e
      obtain ⟨rfl, rfl⟩ := r.rep
      refine hk b H1 Z1 r.ext ?_
      rw [q, Ot.bind_ok, q2, Ot.bind_ok]
  · rw [q] at h; exact h
theorem s_one {op : BoolOp} (ha : SE X cm W a f) : SE X cm W (.BoolOp op [a] pos) f := pe_one ha
theorem tP_go {K : PySem.W.Frag} {f : En → Ot D} {σ : L2.St} {H H1 : Hp} {Q : VK} {Z Z1 : Zn} {ρ : En} {Fs : List (List Addr)} (ok : OkP K cm H σ ρ Fs Z) (ex : Ext H Z H1 Z1)
    (h : FinD K cm W σ H Z Q (f ρ)) : tP K cm W f σ H1 Q := by
  refine tP_bind (ok.ext ex) (fun q => ?_) (fun d q v H2 Z2 F r => ?_) (fun x q => ?_)
  · rw [q] at h; exact h
  · rw [q] at h; exact h v H2 Z2 F (r.trans0 ex)
  · rw [q] at h; exact fun cls dd H' Z' ex2 xr => h cls dd H' Z' (ex.trans ex2) xr
theorem s_and {rest : List Expr} (ha : SE X cm W a f) (hb : SE X cm W (.BoolOp .And (b :: rest) pos) g) : SE X cm W (.BoolOp .And (a :: b :: rest) pos) (eAnd f g) := PE.imp (pe_and ha hb) fun σ H Q h => by
  obtain ⟨Z, ρ, Fs, ok, h⟩ := h
  refine tP_asB ok (k := fun b => if b then g ρ else .ok (.bl false)) rfl h fun k H1 Z1 ex hk => ⟨k, rfl, ?_⟩
  cases k with
  | true =>
    show tP _ _ _ _ _ _ _
    have e : eAnd f g ρ = g ρ := hk.symm
    rw [e] at h
    exact tP_go ok ex h
  | false =>
    show Q (.bl false) H1
    have e : eAnd f g ρ = .ok (.bl false) := hk.symm
    rw [e] at h
    exact h _ H1 Z1 [] (.atom ex rep_bl)
theorem s_or {rest : List Expr} (ha : SE X cm W a f) (hb : SE X cm W (.BoolOp .Or (b :: rest) pos) g) : SE X cm W (.BoolOp .Or (a :: b :: rest) pos) (eOr f g) := PE.imp (pe_or ha hb) fun σ H Q h => by
  obtain ⟨Z, ρ, Fs, ok, h⟩ := h
  refine tP_asB ok (k := fun b => if b then .ok (.bl true) else g ρ) rfl h fun k H1 Z1 ex hk => ⟨k, rfl, ?_⟩
  cases k with
  | false =>
    show tP _ _ _ _ _ _ _
    have e : eOr f g ρ = g ρ := hk.symm
    rw [e] at h
    exact tP_go ok ex h
  | true =>
    show Q (.bl true) H1
    have e : eOr f g ρ = .ok (.bl true) := hk.symm
    rw [e] at h
    exact h _ H1 Z1 [] (.atom ex rep_bl)
theorem s_not (ha : SE X cm W a f) : SE X cm W (.UnaryOp .Not a pos) (eNot f) := PE.imp (pe_not ha) fun σ H Q h => by
  obtain ⟨Z, ρ, Fs, ok, h⟩ := h
  refine tP_asB ok (k := fun b => .ok (.bl (!b))) rfl h fun k H1 Z1 ex hk => ⟨k, rfl, ?_⟩
  have e : eNot f ρ = .ok (.bl (!k)) := hk.symm
  rw [e] at h
  exact h _ H1 Z1 [] (.atom ex rep_bl)

/-! ### tests -/
theorem tP_T {K : PySem.W.Frag} {f : En → Ot D} {σ : L2.St} {H : Hp} {Q : Bool → Hp → Prop} (h : tPT K cm W (eT f) σ H Q) : tP K cm W f σ H (fun x H1 => ∃ k, x = .bl k ∧ Q k H1) := by
  obtain ⟨Z, ρ, Fs, ok, h⟩ := h
  unfold eT at h
  refine tP_bind ok (fun q => ?_) (fun d q v H1 Z1 F r => ?_) (fun x q => ?_)
  · rw [q] at h; exact h
  · rw [q, Ot.bind_ok] at h
    cases q2 : asB d with
    | no => rw [q2] at h; exact h.elim
    | ex x => exact absurd q2 asB_ex
    | ok b =>
      rw [q2] at h
      have e := asB_ok q2
      subst e
      obtain ⟨rfl, rfl⟩ := r.rep
      exact ⟨b, rfl, h H1 Z1 r.ext⟩
  · rw [q] at h; exact h
/-- an expression whose value is a bool, as a test (no comparison, no and, or, not) -/
theorem st_val (ha : SE X cm W e f) (he : ∀ whole, isTrue e X.env whole = (do let v ← whole; standAt e.pos; holding [v] (truthy v)) := by intro _; rfl) : ST X cm W e (eT f) := PT.imp (pt_val ha he) fun σ H Q h => tP_T h
theorem st_cmp {op : CmpOp} {r : R2} {p : List D → Option D} (ho : OpR X (compareOp op) r) (hp : OkPr X.K cm (r2L r) p) (ha : SE X cm W a f) (hb : SE X cm W b g) (hm : behindInMarks op b = false) : ST X cm W (.Compare a [op] [b] pos) (eT (ePr p [f, g])) :=
  PT.imp (pt_cmpR ho ha hb hm) fun σ H Q h => two_of (R := fun x y H1 => r x y H1 fun z H2 => ∃ k, z = .bl k ∧ Q k H2) (pr_end (Q := fun z H2 => ∃ k, z = .bl k ∧ Q k H2) hp (tP_T h))
theorem tPT_go {K : PySem.W.Frag} {f : En → Ot Bool} {σ : L2.St} {H H1 : Hp} {Q : Bool → Hp → Prop} {Z Z1 : Zn} {ρ : En} {Fs : List (List Addr)} (ok : OkP K cm H σ ρ Fs Z) (ex : Ext H Z H1 Z1)
    (h : FinB K cm W σ H Z Q (f ρ)) : tPT K cm W f σ H1 Q := by
  refine ⟨Z1, ρ, Fs, ok.ext ex, ?_⟩
  cases q : f ρ with
  | no => rw [q] at h; exact h
  | ok b => rw [q] at h; exact fun H' Z' ex2 => h H' Z' (ex.trans ex2)
  | ex x => rw [q] at h; exact fun cls dd H' Z' ex2 xr => h cls dd H' Z' (ex.trans ex2) xr
theorem tPT_bind {K : PySem.W.Frag} {f : En → Ot Bool} {k : Bool → Ot Bool} {σ : L2.St} {H : Hp} {Q R : Bool → Hp → Prop} {Z : Zn} {ρ : En} {Fs : List (List Addr)} (ok : OkP K cm H σ ρ Fs Z)
    (h : FinB K cm W σ H Z Q ((f ρ).bind k))
    (hk : ∀ b H1 Z1, Ext H Z H1 Z1 → (f ρ).bind k = k b → R b H1) : tPT K cm W f σ H R := by
  refine ⟨Z, ρ, Fs, ok, ?_⟩
  cases q : f ρ with
  | no => rw [q] at h; exact h
  | ok b => exact fun H' Z' ex => hk b H' Z' ex (by rw [q]; rfl)
  | ex x => rw [q] at h; exact h
theorem sw_and1 {t : En → Ot Bool} (ha : ST X cm W a t) : SW X cm W (.BoolOp .And [a] pos) t := pw_and1 ha
theorem sw_or1 {t : En → Ot Bool} (ha : ST X cm W a t) : SW X cm W (.BoolOp .Or [a] pos) t := pw_or1 ha
theorem sw_and {t u : En → Ot Bool} {rest : List Expr} (ha : ST X cm W a t) (hb : SW X cm W (.BoolOp .And (b :: rest) pos) u) : SW X cm W (.BoolOp .And (a :: b :: rest) pos) (bAnd t u) := PW.imp (pw_and ha hb) fun σ H Q h => by
  obtain ⟨Z, ρ, Fs, ok, h⟩ := h
  refine tPT_bind ok (k := fun b => if b then u ρ else .ok false) h fun k H1 Z1 ex hk => ?_
  have h' := h
  unfold bAnd at h'
  rw [hk] at h'
  cases k with
  | true => exact tPT_go ok ex h'
  | false => exact h' H1 Z1 ex
theorem sw_or {t u : En → Ot Bool} {rest : List Expr} (ha : ST X cm W a t) (hb : SW X cm W (.BoolOp .Or (b :: rest) pos) u) : SW X cm W (.BoolOp .Or (a :: b :: rest) pos) (bOr t u) := PW.imp (pw_or ha hb) fun σ H Q h => by
  obtain ⟨Z, ρ, Fs, ok, h⟩ := h
  refine tPT_bind ok (k := fun b => if b then .ok true else u ρ) h fun k H1 Z1 ex hk => ?_
  have h' := h
  unfold bOr at h'
  rw [hk] at h'
  cases k with
  | false => exact tPT_go ok ex h'
  | true => exact h' H1 Z1 ex
theorem st_w {t : En → Ot Bool} (h : SW X cm W e t) : ST X cm W e t := h.pt
theorem st_not {t : En → Ot Bool} (ha : ST X cm W a t) : ST X cm W (.UnaryOp .Not a pos) (bNot t) := PT.imp (pt_not ha) fun σ H Q h => by
  obtain ⟨Z, ρ, Fs, ok, h⟩ := h
  refine tPT_bind ok (k := fun b => .ok (!b)) h fun k H1 Z1 ex hk => ?_
  have h' := h
  unfold bNot at h'
  rw [hk] at h'
  exact h' H1 Z1 ex
theorem s_ifExp {t : En → Ot Bool} (hc : ST X cm W c t) (ha : SE X cm W a f) (hb : SE X cm W b g) : SE X cm W (.IfExp c a b pos) (eIf t f g) := PE.imp (pe_ifExp hc ha hb) fun σ H Q h => by
  obtain ⟨Z, ρ, Fs, ok, h⟩ := h
  unfold eIf at h
  refine ⟨Z, ρ, Fs, ok, ?_⟩
  cases q : t ρ with
  | no => rw [q] at h; exact h
  | ex x => rw [q] at h; exact h
  | ok k =>
    rw [q, Ot.bind_ok] at h
    intro H1 Z1 ex
    cases k with
    | true => exact tP_go ok ex h
    | false => exact tP_go ok ex h

/-! ### chains a < b < c -/
def eChain (p p' : List D → Option D) (f g h : En → Ot D) : En → Ot D := fun ρ => (f ρ).bind fun x => (g ρ).bind fun y => (Ot.of (p [x, y])).bind fun z => (asB z).bind fun b => if b then (h ρ).bind fun w => .of (p' [y, w]) else .ok (.bl false)
/-- the middle one an atom -/
def isAt : D → Bool
  | .nd _ _ => false
  | _ => true
theorem chain_end {K : PySem.W.Frag} {r r' : R2} {p p' : List D → Option D} (hp : OkPr K cm (r2L r) p) (hp' : OkPr K cm (r2L r') p') (hy : ∀ x y z, p [x, y] = some z → isAt y = true) {σ : L2.St} {H : Hp} {Q : VK} (q0 : tP K cm W (eChain p p' f g h) σ H Q) :
    tChain r r' (tP K cm W f) (tP K cm W g) (tP K cm W h) σ H Q := by
  obtain ⟨Z, ρ, Fs, ok, q0⟩ := q0
  unfold eChain at q0
  refine tP_bind ok (fun q => ?_) (fun x q v H1 Z1 F r1 => ?_) (fun x q => ?_)
  · rw [q] at q0; exact q0
  · rw [q, Ot.bind_ok] at q0
    have ok1 := ok.ext r1.ext
    refine tP_bind ok1 (fun q => ?_) (fun y q u H2 Z2 G r2 => ?_) (fun x q => ?_)
    · rw [q] at q0; exact q0
    · rw [q, Ot.bind_ok] at q0
      have ok2 := ok1.ext r2.ext
      cases e : p [x, y] with
      | none => rw [e] at q0; exact q0.elim
      | some z =>
        rw [e, Ot.of_some, Ot.bind_ok] at q0
        have hat := hy x y z e
        have rl := ResL.cons r1 (ResL.cons r2 (.nil ok2.dom))
        have two : ∀ v u R (r0 : R2), r2L r0 [v, u] H2 R → r0 v u H2 R := fun v u R r0 ⟨_, _, e, k⟩ => by cases e; exact k
        refine two v u _ r (hp H2 Z2 [x, y] [v, u] _ z ok2.dom rl.rep rl.nd rl.nf e _ fun z' H3 Z3 F3 r3 => ?_)
        cases e2 : asB z with
        | no => rw [e2] at q0; exact q0.elim
        | ex x => exact absurd e2 asB_ex
        | ok k =>
          rw [e2, Ot.bind_ok] at q0
          have e3 := asB_ok e2
          subst e3
          obtain ⟨rfl, rfl⟩ := r3.rep
          have ex3 : Ext H Z H3 Z3 := r1.ext.trans (r2.ext.trans r3.ext)
          refine ⟨k, rfl, ?_⟩
          cases k with
          | false => exact q0 _ H3 Z3 [] (.atom ex3 rep_bl)
          | true =>
            show tP _ _ _ _ _ _ _
            have q0 : FinD K cm W σ H Z Q ((h ρ).bind fun w => Ot.of (p' [y, w])) := q0
            refine tP_bind (ok.ext ex3) (fun q => ?_) (fun w q t H4 Z4 F4 r4 => ?_) (fun x q => ?_)
            · rw [q] at q0; exact q0
            · rw [q, Ot.bind_ok] at q0
              cases e5 : p' [y, w] with
              | none => rw [e5] at q0; exact q0.elim
              | some d =>
                rw [e5] at q0
                have dm4 := (ok.ext ex3).dom.ext r4.ext
                have ry : Rep K cm H4 Z4 y u [] := by
                  cases y with
                  | nd k ds => cases hat
                  | non => exact ⟨r2.rep.1, rfl⟩
                  | bl b => exact ⟨r2.rep.1, rfl⟩
                  | int i => exact ⟨r2.rep.1, rfl⟩
                  | str s => exact ⟨r2.rep.1, rfl⟩
                have key := hp' H4 Z4 [y, w] [u, t] [[], F4] d dm4 (repL_cons ry (repL_cons r4.rep repL_nil)) (by simpa using r4.nd) (by simpa using r4.nf) e5 Q fun v5 H5 Z5 F5 r5 =>
                  q0 v5 H5 Z5 F5 (r5.trans (ex3.trans r4.ext) fun a ha => .inl (ex3.gr.back (r4.new a (by simpa using ha))))
                obtain ⟨_, _, e6, k6⟩ := key
                cases e6
                exact k6
            · rw [q] at q0; exact fun cls dd H' Z' ex xr => q0 cls dd H' Z' (ex3.trans ex) xr
    · rw [q] at q0; exact fun cls dd H' Z' ex xr => q0 cls dd H' Z' (r1.ext.trans ex) xr
  · rw [q] at q0; exact q0
theorem s_chain {op op' : CmpOp} {r r' : R2} {p p' : List D → Option D} (ho : OpR X (compareOp op) r) (ho' : OpR X (compareOp op') r') (hp : OkPr X.K cm (r2L r) p) (hp' : OkPr X.K cm (r2L r') p') (ha : SE X cm W a f) (hb : SE X cm W b g) (hc : SE X cm W c h)
    (hy : ∀ x y z, p [x, y] = some z → isAt y = true) (hm : lastMarks [op, op'] [b, c] = false := by rfl) : SE X cm W (.Compare a [op, op'] [b, c] pos) (eChain p p' f g h) :=
  PE.imp (pe_chain ho ho' ha hb hc hm) fun σ H Q q0 => chain_end hp hp' hy q0
theorem st_chain {op op' : CmpOp} {r r' : R2} {p p' : List D → Option D} (ho : OpR X (compareOp op) r) (ho' : OpR X (compareOp op') r') (hp : OkPr X.K cm (r2L r) p) (hp' : OkPr X.K cm (r2L r') p') (ha : SE X cm W a f) (hb : SE X cm W b g) (hc : SE X cm W c h)
    (hy : ∀ x y z, p [x, y] = some z → isAt y = true) (hm : lastMarks [op, op'] [b, c] = false := by rfl) : ST X cm W (.Compare a [op, op'] [b, c] pos) (eT (eChain p p' f g h)) :=
  PT.imp (pt_chain ho ho' ha hb hc hm) fun σ H Q q0 => chain_end hp hp' hy (tP_T q0)
end
end OB

namespace OB
open PySem PySem.Spec PyProof.Rows L2

/-! ### atoms -/
def toV : D → V
  | .non => .non
  | .bl b => .bl b
  | .int i => .int i
  | .str s => .str s
  | .nd _ _ => .non
def eqA : D → D → Bool
  | .non, .non => true
  | .bl a, .bl b => a == b
  | .bl a, .int b => (if a then 1 else 0) == b
  | .int a, .bl b => a == (if b then 1 else 0)
  | .int a, .int b => a == b
  | .str a, .str b => a == b
  | _, _ => false
section
variable {K : PySem.W.Frag} {cm : Cm} {H : Hp} {Z : Zn}
theorem rep_at {d : D} {v : V} {F : List Addr} (h : Rep K cm H Z d v F) (a : isAt d = true) : v = toV d ∧ F = [] ∧ flatV v = true := by
  cases d with
  | nd k ds => cases a
  | non => obtain ⟨rfl, rfl⟩ := h; exact ⟨rfl, rfl, rfl⟩
  | bl b => obtain ⟨rfl, rfl⟩ := h; exact ⟨rfl, rfl, rfl⟩
  | int i => obtain ⟨rfl, rfl⟩ := h; exact ⟨rfl, rfl, rfl⟩
  | str s => obtain ⟨rfl, rfl⟩ := h; exact ⟨rfl, rfl, rfl⟩
theorem eqV_toV {x y : D} (hx : isAt x = true) (hy : isAt y = true) : eqV (toV x) (toV y) = eqA x y := by
  cases x <;> first | (cases hx; done) | (cases y <;> first | (cases hy; done) | rfl)
theorem repL_at : ∀ {ds : List D} {vs : List V} {Fs : List (List Addr)}, RepL K cm H Z ds vs Fs → ds.all isAt = true → vs = ds.map toV ∧ vs.all flatV = true
  | [], _, _, h, _ => by obtain ⟨rfl, rfl⟩ := h; exact ⟨rfl, rfl⟩
  | d :: ds, _, _, h, a => by
    obtain ⟨v, vs', F, Fs', rfl, rfl, h1, h2⟩ := h
    rw [List.all_cons, Bool.and_eq_true] at a
    obtain ⟨e1, e2⟩ := repL_at h2 a.2
    obtain ⟨e3, _, e4⟩ := rep_at h1 a.1
    subst e1 e3
    exact ⟨rfl, by rw [List.all_cons, e4, e2]; rfl⟩
theorem any_toV {x : D} (hx : isAt x = true) : ∀ {ds : List D}, ds.all isAt = true → (ds.map toV).any (fun y => eqV y (toV x)) = ds.any fun y => eqA y x
  | [], _ => rfl
  | d :: ds, a => by
    rw [List.all_cons, Bool.and_eq_true] at a
    rw [List.map_cons, List.any_cons, List.any_cons, any_toV hx a.2, eqV_toV a.1 hx]
/-! lists of one kind -/
def intsD : List D → Option (List Int)
  | [] => some []
  | .int i :: ds => (intsD ds).map (i :: ·)
  | _ => none
def strsD : List D → Option (List Str)
  | [] => some []
  | .str s :: ds => (strsD ds).map (s :: ·)
  | _ => none
def blsD : List D → Option (List Bool)
  | [] => some []
  | .bl b :: ds => (blsD ds).map (b :: ·)
  | _ => none
theorem intsD_eq : ∀ {ds : List D} {ns : List Int}, intsD ds = some ns → ds = ns.map .int
  | [], _, h => by cases h; rfl
  | d :: ds, ns, h => by
    cases d with
    | int i =>
      unfold intsD at h
      cases q : intsD ds with
      | none => rw [q] at h; cases h
      | some ms => rw [q] at h; cases h; rw [intsD_eq q]; rfl
    | _ => cases h
theorem strsD_eq : ∀ {ds : List D} {ns : List Str}, strsD ds = some ns → ds = ns.map .str
  | [], _, h => by cases h; rfl
  | d :: ds, ns, h => by
    cases d with
    | str i =>
      unfold strsD at h
      cases q : strsD ds with
      | none => rw [q] at h; cases h
      | some ms => rw [q] at h; cases h; rw [strsD_eq q]; rfl
    | _ => cases h
theorem blsD_eq : ∀ {ds : List D} {ns : List Bool}, blsD ds = some ns → ds = ns.map .bl
  | [], _, h => by cases h; rfl
  | d :: ds, ns, h => by
    cases d with
    | bl i =>
      unfold blsD at h
      cases q : blsD ds with
      | none => rw [q] at h; cases h
      | some ms => rw [q] at h; cases h; rw [blsD_eq q]; rfl
    | _ => cases h
theorem repL_map {α : Type} {g : α → D} {g' : α → V} (hr : ∀ x, isAt (g x) = true ∧ toV (g x) = g' x) : ∀ {ns : List α} {vs : List V} {Fs : List (List Addr)}, RepL K cm H Z (ns.map g) vs Fs → vs = ns.map g'
  | [], _, _, h => h.1
  | n :: ns, _, _, h => by
    obtain ⟨v, vs', F, Fs', rfl, rfl, h1, h2⟩ := h
    obtain ⟨e, _⟩ := rep_at h1 (hr n).1
    rw [List.map_cons, ← (hr n).2, e, repL_map hr h2]
theorem repL_ints {ns : List Int} {vs : List V} {Fs : List (List Addr)} (h : RepL K cm H Z (ns.map .int) vs Fs) : vs = ns.map .int := repL_map (g' := .int) (fun _ => ⟨rfl, rfl⟩) h
theorem repL_strS {ns : List Str} {vs : List V} {Fs : List (List Addr)} (h : RepL K cm H Z (ns.map .str) vs Fs) : vs = ns.map .str := repL_map (g' := .str) (fun _ => ⟨rfl, rfl⟩) h
theorem repL_bls {ns : List Bool} {vs : List V} {Fs : List (List Addr)} (h : RepL K cm H Z (ns.map .bl) vs Fs) : vs = ns.map .bl := repL_map (g' := .bl) (fun _ => ⟨rfl, rfl⟩) h
/-- a list of atoms is made -/
theorem repL_mk {α : Type} {g : α → D} {g' : α → V} (hr : ∀ x, Rep K cm H Z (g x) (g' x) []) : ∀ ns : List α, RepL K cm H Z (ns.map g) (ns.map g') (List.replicate ns.length [])
  | [] => repL_nil
  | n :: ns => repL_cons (hr n) (repL_mk hr ns)
end

/-! ### comparisons -/
def pLt : List D → Option D
  | [.int i, .int j] => some (.bl (decide (i < j)))
  | _ => none
def pLe : List D → Option D
  | [.int i, .int j] => some (.bl (decide (i ≤ j)))
  | _ => none
def pGt : List D → Option D
  | [.int i, .int j] => some (.bl (decide (j < i)))
  | _ => none
def pGe : List D → Option D
  | [.int i, .int j] => some (.bl (decide (j ≤ i)))
  | _ => none
/-- == of atoms -/
def atEq : D → D → Option Bool
  | .int i, .int j => some (i == j)
  | .str a, .str b => some (a == b)
  | .bl a, .bl b => some (a == b)
  | .non, .non => some true
  | .int _, .str _ => some false
  | .str _, .int _ => some false
  | .non, .int _ => some false
  | .int _, .non => some false
  | .non, .str _ => some false
  | .str _, .non => some false
  | .bl _, .str _ => some false
  | .str _, .bl _ => some false
  | .bl _, .non => some false
  | .non, .bl _ => some false
  | _, _ => none
mutual
def toPy : D → Option PyData
  | .non => some .none
  | .bl b => some (.bool b)
  | .int i => some (.int i)
  | .str s => some (.str s)
  | .nd (.lst _) ds => (toPyL ds).map .list
  | .nd .tup ds => (toPyL ds).map .tuple
  | .nd _ _ => none
def toPyL : List D → Option (List PyData)
  | [] => some []
  | d :: ds => (toPy d).bind fun e => (toPyL ds).map (e :: ·)
end
def deepEq (x y : D) : Option Bool := (toPy x).bind fun a => (toPy y).bind fun b => if SeqAt.shaped a && SeqAt.shaped b then some (PyData.eqv a b) else none
def pEq : List D → Option D
  | [x, y] => ((atEq x y).or (deepEq x y)).map .bl
  | _ => none
def pNe : List D → Option D
  | [x, y] => ((atEq x y).or (deepEq x y)).map fun b => .bl (!b)
  | _ => none
def rEqQ (K : PySem.W.Frag) : R2 := fun x y H Q => rEq x y H Q ∨ rEqD K x y H Q
def rNeQ (K : PySem.W.Frag) : R2 := fun x y H Q => rNe x y H Q ∨ rNeD K x y H Q
theorem op_eqQ {X : Cx} (hu : X.A.units + 64 < cLine) : OpR X (compareOp .Eq) (rEqQ X.K) := op_eq.or (op_eqD hu)
theorem op_neQ {X : Cx} (hu : X.A.units + 64 < cLine) : OpR X (compareOp .NotEq) (rNeQ X.K) := op_ne.or (op_neD hu)
section
variable {K : PySem.W.Frag} {cm : Cm}
theorem ok_cmpI {g : Int → Int → Bool} {p : List D → Option D} (hp : ∀ ds d, p ds = some d → ∃ i j, ds = [.int i, .int j] ∧ d = .bl (g i j)) : OkPr K cm (r2L (rI0 fun i j => .bl (g i j))) p := by
  intro H Z ds vs Fs d dm rp nd nf e Q q
  obtain ⟨i, j, rfl, rfl⟩ := hp _ _ e
  obtain ⟨v, u, F, G, rfl, rfl, ⟨rfl, rfl⟩, ⟨rfl, rfl⟩⟩ := repL2 rp
  exact ⟨_, _, rfl, _, _, rfl, rfl, q _ H Z [] (.atom (.refl dm) rep_bl)⟩
theorem ok_lt : OkPr K cm (r2L (rI0 fun i j => .bl (decide (i < j)))) pLt := ok_cmpI fun ds d e => by
  unfold pLt at e
  split at e
  · cases e; exact ⟨_, _, rfl, rfl⟩
  · cases e
theorem ok_le : OkPr K cm (r2L (rI0 fun i j => .bl (decide (i ≤ j)))) pLe := ok_cmpI fun ds d e => by
  unfold pLe at e
  split at e
  · cases e; exact ⟨_, _, rfl, rfl⟩
  · cases e
theorem ok_gt : OkPr K cm (r2L (rI0 fun i j => .bl (decide (j < i)))) pGt := ok_cmpI (g := fun i j => decide (j < i)) fun ds d e => by
  unfold pGt at e
  split at e
  · cases e; exact ⟨_, _, rfl, rfl⟩
  · cases e
theorem ok_ge : OkPr K cm (r2L (rI0 fun i j => .bl (decide (j ≤ i)))) pGe := ok_cmpI (g := fun i j => decide (j ≤ i)) fun ds d e => by
  unfold pGe at e
  split at e
  · cases e; exact ⟨_, _, rfl, rfl⟩
  · cases e
theorem mid_lt {x y z : D} (h : pLt [x, y] = some z) : isAt y = true := by
  unfold pLt at h; split at h
  · rename_i e; cases e; rfl
  · cases h
theorem mid_le {x y z : D} (h : pLe [x, y] = some z) : isAt y = true := by
  unfold pLe at h; split at h
  · rename_i e; cases e; rfl
  · cases h
mutual
theorem dp_of {H : Hp} {Z : Zn} : ∀ (d : D) {v : V} {F : List Addr} {e : PyData}, Rep K cm H Z d v F → toPy d = some e → Dp K H v e
  | .non, _, _, _, h, q => by cases q; rw [h.1]; exact .non
  | .bl b, _, _, _, h, q => by cases q; rw [h.1]; exact .bl b
  | .int b, _, _, _, h, q => by cases q; rw [h.1]; exact .int b
  | .str b, _, _, _, h, q => by cases q; rw [h.1]; exact .str b
  | .nd (.lst f) ds, _, _, _, h, q => by
    obtain ⟨a, vs, Fs, rfl, hc, hl, rfl⟩ := h
    unfold toPy at q
    cases q2 : toPyL ds with
    | none => rw [q2] at q; cases q
    | some es => rw [q2] at q; cases q; exact .lst (rdL hc.2.1) (dps_of ds hl q2)
  | .nd .tup ds, _, _, _, h, q => by
    obtain ⟨a, vs, Fs, rfl, hc, hl, rfl⟩ := h
    unfold toPy at q
    cases q2 : toPyL ds with
    | none => rw [q2] at q; cases q
    | some es => rw [q2] at q; cases q; exact .tup hc (dps_of ds hl q2)
  | .nd (.dct _ _) ds, _, _, _, h, q => by cases q
  | .nd (.obj _ _ _) ds, _, _, _, h, q => by cases q
theorem dps_of {H : Hp} {Z : Zn} : ∀ (ds : List D) {vs : List V} {Fs : List (List Addr)} {es : List PyData}, RepL K cm H Z ds vs Fs → toPyL ds = some es → DpAll K H vs es
  | [], _, _, _, h, q => by cases q; rw [h.1]; exact .nil
  | d :: ds, _, _, es, h, q => by
    obtain ⟨v, vs', F, Fs', rfl, rfl, h1, h2⟩ := h
    unfold toPyL at q
    cases q1 : toPy d with
    | none => rw [q1] at q; cases q
    | some e =>
      rw [q1] at q
      cases q2 : toPyL ds with
      | none => simp [q2] at q
      | some es' =>
        simp [q2] at q
        subst q
        exact .cons (dp_of d h1 q1) (dps_of ds h2 q2)
end
theorem atEq_ok {H : Hp} {Z : Zn} {x y : D} {v u : V} {F G : List Addr} {b : Bool} (h1 : Rep K cm H Z x v F) (h2 : Rep K cm H Z y u G) (e : atEq x y = some b) : scal v u = true ∧ decide (v = u) = b := by
  unfold atEq at e
  split at e <;> first | (cases e; done) | (cases e; obtain ⟨rfl, rfl⟩ := h1; obtain ⟨rfl, rfl⟩ := h2; first | exact ⟨rfl, dec_int⟩ | exact ⟨rfl, dec_str⟩ | exact ⟨rfl, dec_bl⟩ | exact ⟨rfl, by decide⟩ | exact ⟨rfl, by simp⟩)
theorem ok_eq : OkPr K cm (r2L (rEqQ K)) pEq := by
  intro H Z ds vs Fs d dm rp nd nf e Q q
  unfold pEq at e
  split at e
  · rename_i x y
    obtain ⟨v, u, F, G, rfl, rfl, h1, h2⟩ := repL2 rp
    refine ⟨v, u, rfl, ?_⟩
    cases q1 : atEq x y with
    | some b =>
      obtain ⟨a, c⟩ := atEq_ok h1 h2 q1
      refine .inl ⟨a, ?_⟩
      rw [q1] at e
      cases e
      rw [c]
      exact q _ H Z [] (.atom (.refl dm) rep_bl)
    | none =>
      rw [q1] at e
      have e' : (deepEq x y).map D.bl = some d := e
      unfold deepEq at e'
      cases q2 : toPy x with
      | none => rw [q2] at e'; cases e'
      | some a =>
        cases q3 : toPy y with
        | none => rw [q2, q3] at e'; cases e'
        | some b =>
          rw [q2, q3] at e'
          have e2 : (if SeqAt.shaped a && SeqAt.shaped b then some (PyData.eqv a b) else none).map D.bl = some d := e'
          split at e2
          · rename_i sh
            rw [Bool.and_eq_true] at sh
            cases e2
            exact .inr ⟨a, b, dp_of x h1 q2, dp_of y h2 q3, sh.1, sh.2, q _ H Z [] (.atom (.refl dm) rep_bl)⟩
          · cases e2
  · cases e
theorem ok_ne : OkPr K cm (r2L (rNeQ K)) pNe := by
  intro H Z ds vs Fs d dm rp nd nf e Q q
  unfold pNe at e
  split at e
  · rename_i x y
    obtain ⟨v, u, F, G, rfl, rfl, h1, h2⟩ := repL2 rp
    refine ⟨v, u, rfl, ?_⟩
    cases q1 : atEq x y with
    | some b =>
      obtain ⟨a, c⟩ := atEq_ok h1 h2 q1
      refine .inl ⟨a, ?_⟩
      rw [q1] at e
      cases e
      rw [c]
      exact q _ H Z [] (.atom (.refl dm) rep_bl)
    | none =>
      rw [q1] at e
      have e' : (deepEq x y).map (fun b => D.bl (!b)) = some d := e
      unfold deepEq at e'
      cases q2 : toPy x with
      | none => rw [q2] at e'; cases e'
      | some a =>
        cases q3 : toPy y with
        | none => rw [q2, q3] at e'; cases e'
        | some b =>
          rw [q2, q3] at e'
          have e2 : (if SeqAt.shaped a && SeqAt.shaped b then some (PyData.eqv a b) else none).map (fun b => D.bl (!b)) = some d := e'
          split at e2
          · rename_i sh
            rw [Bool.and_eq_true] at sh
            cases e2
            exact .inr ⟨a, b, dp_of x h1 q2, dp_of y h2 q3, sh.1, sh.2, q _ H Z [] (.atom (.refl dm) rep_bl)⟩
          · cases e2
  · cases e
end

/-! ### is None, is True -/
def isNon : D → Bool
  | .non => true
  | _ => false
def pIs : List D → Option D
  | [x, .non] => some (.bl (isNon x))
  | [.bl a, .bl b] => some (.bl (decide (a = b)))
  | _ => none
def pIsN : List D → Option D
  | [x, .non] => some (.bl (!isNon x))
  | [.bl a, .bl b] => some (.bl (!decide (a = b)))
  | _ => none
def rIsQ : R2 := fun x y H Q => (y = .non ∧ Q (.bl (decide (x = .non))) H) ∨ rIsB x y H Q
def rIsNQ : R2 := fun x y H Q => (y = .non ∧ Q (.bl (!decide (x = .non))) H) ∨ rNotB x y H Q
theorem op_isQ {X : Cx} : OpR X (compareOp .Is) rIsQ := op_isN.or op_isBl
theorem op_isNQ {X : Cx} : OpR X (compareOp .IsNot) rIsNQ := op_notN.or op_notBl
section
variable {K : PySem.W.Frag} {cm : Cm}
theorem isNon_ok {H : Hp} {Z : Zn} {x : D} {v : V} {F : List Addr} (h : Rep K cm H Z x v F) : decide (v = .non) = isNon x := by
  cases x with
  | nd k ds => obtain ⟨a, vs, Fs, rfl, _⟩ := h; simp [isNon]
  | _ => obtain ⟨rfl, rfl⟩ := h; simp [isNon]
theorem ok_is : OkPr K cm (r2L rIsQ) pIs := by
  intro H Z ds vs Fs d dm rp nd nf e Q q
  unfold pIs at e
  split at e
  · cases e
    obtain ⟨v, u, F, G, rfl, rfl, h1, ⟨rfl, rfl⟩⟩ := repL2 rp
    refine ⟨v, _, rfl, .inl ⟨rfl, ?_⟩⟩
    rw [isNon_ok h1]
    exact q _ H Z [] (.atom (.refl dm) rep_bl)
  · cases e
    obtain ⟨v, u, F, G, rfl, rfl, ⟨rfl, rfl⟩, ⟨rfl, rfl⟩⟩ := repL2 rp
    exact ⟨_, _, rfl, .inr ⟨_, _, rfl, rfl, q _ H Z [] (.atom (.refl dm) rep_bl)⟩⟩
  · cases e
theorem ok_isN : OkPr K cm (r2L rIsNQ) pIsN := by
  intro H Z ds vs Fs d dm rp nd nf e Q q
  unfold pIsN at e
  split at e
  · cases e
    obtain ⟨v, u, F, G, rfl, rfl, h1, ⟨rfl, rfl⟩⟩ := repL2 rp
    refine ⟨v, _, rfl, .inl ⟨rfl, ?_⟩⟩
    rw [isNon_ok h1]
    exact q _ H Z [] (.atom (.refl dm) rep_bl)
  · cases e
    obtain ⟨v, u, F, G, rfl, rfl, ⟨rfl, rfl⟩, ⟨rfl, rfl⟩⟩ := repL2 rp
    exact ⟨_, _, rfl, .inr ⟨_, _, rfl, rfl, q _ H Z [] (.atom (.refl dm) rep_bl)⟩⟩
  · cases e
end
end OB

namespace OB
open PySem PySem.Spec PyProof.Rows L2

/-! ### keys -/
def keyD : D → Option Key
  | .int i => some (.inl i)
  | .str s => some (.inr s)
  | _ => none
/-- what a dict holds under a key -/
def look {α : Type} : List Key → List α → Key → Option α
  | k :: ks, d :: ds, q => if k = q then some d else look ks ds q
  | _, _, _ => none
section
variable {K : PySem.W.Frag} {cm : Cm} {H : Hp} {Z : Zn}
theorem key_ok {d : D} {k : Key} {v : V} {F : List Addr} (h : Rep K cm H Z d v F) (e : keyD d = some k) : v = kV k := by
  cases d with
  | int i => cases e; exact h.1
  | str i => cases e; exact h.1
  | _ => cases e
theorem look_valV : ∀ {ks : List Key} {vs : List V}, ks.length = vs.length → ∀ k, valV (ks.zip vs) k = look ks vs k
  | [], [], _, _ => rfl
  | q :: ks, v :: vs, l, k => by
    have ih := look_valV (ks := ks) (vs := vs) (by simpa using l) k
    unfold valV at ih ⊢
    rw [List.zip_cons_cons, List.find?_cons]
    unfold look
    by_cases e : q = k
    · simp [e]
    · simp [e, ih]
theorem look_rep : ∀ {ks : List Key} {ds : List D} {vs : List V} {Fs : List (List Addr)}, RepL K cm H Z ds vs Fs → ∀ k, (look ks vs k).isSome = (look ks ds k).isSome ∧ ∀ d, look ks ds k = some d → ∃ (v : V) (F : List Addr) (i : Nat), look ks vs k = some v ∧ Fs[i]? = some F ∧ ds[i]? = some d ∧ Rep K cm H Z d v F
  | [], ds, vs, Fs, _, _ => by
    refine ⟨by cases ds <;> cases vs <;> rfl, fun d e => ?_⟩
    cases ds <;> cases e
  | q :: ks, [], vs, Fs, h, _ => by
    obtain ⟨rfl, rfl⟩ := h
    exact ⟨rfl, fun d e => nomatch e⟩
  | q :: ks, d0 :: ds, _, _, h, k => by
    obtain ⟨v, vs', F, Fs', rfl, rfl, h1, h2⟩ := h
    unfold look
    by_cases e : q = k
    · rw [if_pos e, if_pos e]
      exact ⟨rfl, fun d e2 => by cases e2; exact ⟨v, F, 0, rfl, rfl, rfl, h1⟩⟩
    · rw [if_neg e, if_neg e]
      obtain ⟨a, b⟩ := look_rep (ks := ks) h2 k
      refine ⟨a, fun d e2 => ?_⟩
      obtain ⟨v2, F2, i, c1, c2, c3, c4⟩ := b d e2
      exact ⟨v2, F2, i + 1, c1, by simpa using c2, by simpa using c3, c4⟩
end

/-! ### in -/
def inV? : List D → Option Bool
  | [x, .nd (.lst _) ds] => if isAt x && ds.all isAt then some (ds.any fun y => eqA y x) else none
  | [x, .nd .tup ds] => if isAt x && ds.all isAt then some (ds.any fun y => eqA y x) else none
  | [.str s, .str z] => match s.cps.toList with
    | [c] => some (decide (c ∈ z.cps.toList))
    | _ => none
  | [x, .nd (.dct _ ks) ds] => (keyD x).map fun k => (look ks ds k).isSome
  | _ => none
def pIn (ds : List D) : Option D := (inV? ds).map .bl
def pNotIn (ds : List D) : Option D := (inV? ds).map fun b => .bl (!b)
def rDIn : R2 := fun x y H Q => ∃ a o, y = .ref a ∧ DGet H a x o ∧ Q (.bl o.isSome) H
def rDNotIn : R2 := fun x y H Q => ∃ a o, y = .ref a ∧ DGet H a x o ∧ Q (.bl (!o.isSome)) H
section
variable {X : Cx}
theorem op_din (hu : X.A.units + 1 < cLine) : OpR X (compareOp .In) rDIn := by
  intro pins s σ H x y v u Q I rx ry h
  obtain ⟨a, o, rfl, g, q⟩ := h
  cases ry
  exact d_in hu I g rx fun s' I' => ⟨.bl o.isSome, H, I', rfl, q⟩
theorem op_dnotIn (hu : X.A.units + 1 < cLine) : OpR X (compareOp .NotIn) rDNotIn := by
  intro pins s σ H x y v u Q I rx ry h
  obtain ⟨a, o, rfl, g, q⟩ := h
  cases ry
  exact d_notIn hu I g rx fun s' I' => ⟨.bl (!o.isSome), H, I', rfl, q⟩
end
def rIn3 (K : PySem.W.Frag) : R2 := fun x y H Q => rIn K false x y H Q ∨ (∃ (c : Nat) (z : Str), x = .str ⟨#[c]⟩ ∧ y = .str z ∧ Q (.bl (decide (c ∈ z.cps.toList))) H) ∨ rDIn x y H Q
def rNotIn3 (K : PySem.W.Frag) : R2 := fun x y H Q => rIn K true x y H Q ∨ (∃ (c : Nat) (z : Str), x = .str ⟨#[c]⟩ ∧ y = .str z ∧ Q (.bl (!decide (c ∈ z.cps.toList))) H) ∨ rDNotIn x y H Q
theorem op_in3 {X : Cx} (hu : X.A.units + 1 < cLine) : OpR X (compareOp .In) (rIn3 X.K) := op_in_seq.or (op_in_sign.or (op_din hu))
theorem op_notIn3 {X : Cx} (hu : X.A.units + 1 < cLine) : OpR X (compareOp .NotIn) (rNotIn3 X.K) := op_notIn_seq.or (op_notIn_sign.or (op_dnotIn hu))
section
variable {K : PySem.W.Frag} {cm : Cm}
/-- what in comes to, on values -/
theorem inV_ok {H : Hp} {Z : Zn} {ds : List D} {vs : List V} {Fs : List (List Addr)} {b : Bool} (rp : RepL K cm H Z ds vs Fs) (e : inV? ds = some b) :
    ∃ x y, vs = [x, y] ∧ ((∃ p xs, y = .ref p ∧ (SqL K H p xs ∨ SqT K H p xs) ∧ flatV x = true ∧ xs.all flatV = true ∧ inV x xs = b) ∨
      (∃ (c : Nat) (z : Str), x = .str ⟨#[c]⟩ ∧ y = .str z ∧ decide (c ∈ z.cps.toList) = b) ∨ ∃ a o, y = .ref a ∧ DGet H a x o ∧ o.isSome = b) := by
  unfold inV? at e
  split at e
  · rename_i x f ds'
    split at e
    · rename_i ha
      rw [Bool.and_eq_true] at ha
      cases e
      obtain ⟨v, u, F, G, rfl, rfl, h1, a, us, Gs, rfl, hc, hl, rfl⟩ := repL2 rp
      obtain ⟨e1, _, f1⟩ := rep_at h1 ha.1
      obtain ⟨e2, f2⟩ := repL_at hl ha.2
      refine ⟨v, _, rfl, .inl ⟨a, us, rfl, .inl (rdL hc.2.1), f1, f2, ?_⟩⟩
      subst e1 e2
      exact any_toV ha.1 ha.2
    · cases e
  · rename_i x ds'
    split at e
    · rename_i ha
      rw [Bool.and_eq_true] at ha
      cases e
      obtain ⟨v, u, F, G, rfl, rfl, h1, a, us, Gs, rfl, hc, hl, rfl⟩ := repL2 rp
      obtain ⟨e1, _, f1⟩ := rep_at h1 ha.1
      obtain ⟨e2, f2⟩ := repL_at hl ha.2
      refine ⟨v, _, rfl, .inl ⟨a, us, rfl, .inr hc, f1, f2, ?_⟩⟩
      subst e1 e2
      exact any_toV ha.1 ha.2
    · cases e
  · rename_i s z
    split at e
    · rename_i c hs
      cases e
      obtain ⟨v, u, F, G, rfl, rfl, ⟨rfl, rfl⟩, ⟨rfl, rfl⟩⟩ := repL2 rp
      have es : s = ⟨#[c]⟩ := by
        obtain ⟨a⟩ := s
        have : a = #[c] := Array.ext' (by simpa using hs)
        rw [this]
      exact ⟨_, _, rfl, .inr (.inl ⟨c, z, by rw [es], rfl, rfl⟩)⟩
    · cases e
  · rename_i x f ks ds'
    cases q : keyD x with
    | none => rw [q] at e; cases e
    | some k =>
      rw [q] at e
      cases e
      obtain ⟨v, u, F, G, rfl, rfl, h1, a, us, Gs, rfl, hc, hl, rfl⟩ := repL2 rp
      have ek := key_ok h1 q
      subst ek
      refine ⟨_, _, rfl, .inr (.inr ⟨a, _, rfl, DGet.k hc.1, ?_⟩)⟩
      rw [look_valV hc.2.1]
      exact (look_rep hl k).1
  · cases e
theorem ok_in : OkPr K cm (r2L (rIn3 K)) pIn := by
  intro H Z ds vs Fs d dm rp nd nf e Q q
  unfold pIn at e
  cases q1 : inV? ds with
  | none => rw [q1] at e; cases e
  | some b =>
    rw [q1] at e
    cases e
    have fin := q _ H Z [] (.atom (.refl dm) rep_bl)
    obtain ⟨x, y, rfl, h | h | h⟩ := inV_ok rp q1
    · obtain ⟨p, xs, rfl, a, c, f, rfl⟩ := h
      exact ⟨_, _, rfl, .inl ⟨p, xs, rfl, a, c, f, fin⟩⟩
    · obtain ⟨c, z, rfl, rfl, rfl⟩ := h
      exact ⟨_, _, rfl, .inr (.inl ⟨c, z, rfl, rfl, fin⟩)⟩
    · obtain ⟨a, o, rfl, g, rfl⟩ := h
      exact ⟨_, _, rfl, .inr (.inr ⟨a, o, rfl, g, fin⟩)⟩
theorem ok_notIn : OkPr K cm (r2L (rNotIn3 K)) pNotIn := by
  intro H Z ds vs Fs d dm rp nd nf e Q q
  unfold pNotIn at e
  cases q1 : inV? ds with
  | none => rw [q1] at e; cases e
  | some b =>
    rw [q1] at e
    cases e
    have fin := q _ H Z [] (.atom (.refl dm) rep_bl)
    obtain ⟨x, y, rfl, h | h | h⟩ := inV_ok rp q1
    · obtain ⟨p, xs, rfl, a, c, f, rfl⟩ := h
      exact ⟨_, _, rfl, .inl ⟨p, xs, rfl, a, c, f, fin⟩⟩
    · obtain ⟨c, z, rfl, rfl, rfl⟩ := h
      exact ⟨_, _, rfl, .inr (.inl ⟨c, z, rfl, rfl, fin⟩)⟩
    · obtain ⟨a, o, rfl, g, rfl⟩ := h
      exact ⟨_, _, rfl, .inr (.inr ⟨a, o, rfl, g, fin⟩)⟩
end

/-! ### subscripts -/
def pIx : List D → Option D
  | [.nd (.lst _) ds, .int i] => atI ds i
  | [.nd .tup ds, .int i] => atI ds i
  | [.str z, .int i] => if z.length ≤ sizeLine then (atI z.cps.toList i).map fun c => .str ⟨#[c]⟩ else none
  | [.nd (.dct _ ks) ds, x] => (keyD x).bind fun k => look ks ds k
  | _ => none
def rIxK (K : PySem.W.Frag) : R2 := fun x y H Q => ∃ a v, x = .ref a ∧ DGet H a y (some v) ∧ Q v H
section
variable {X : Cx}
theorem ix_dict (hu : X.A.units + 1 < cLine) : IxR X (rIxK X.K) := by
  intro value slice pins s σ H x y v u Q I rx ry h hs
  obtain ⟨a, w, rfl, g, q⟩ := h
  cases rx
  exact tail_any (dict_typeIs I g) PySem.F.slot_dict_getitem.lookup (d_getItem hu I g ry fun w' s' I' rw' => ⟨w, H, I', rw', q⟩) hs
def rIx4 (K : PySem.W.Frag) : R2 := fun x y H Q => rIx K x y H Q ∨ rIxK K x y H Q
theorem ix_4 (hu : X.A.units + 1 < cLine) : IxR X (rIx4 X.K) := ix_seq.or (ix_dict hu)
end
theorem atI_get' {α : Type} {xs : List α} {i : Int} {x : α} (h : atI xs i = some x) : ∃ j, ixN xs.length i = some j ∧ xs[j]? = some x := by
  unfold atI at h
  cases q : ixN xs.length i with
  | none => rw [q] at h; cases h
  | some j => rw [q] at h; exact ⟨j, rfl, h⟩
section
variable {K : PySem.W.Frag} {cm : Cm}
theorem atI_rep {H : Hp} {Z : Zn} {ds : List D} {vs : List V} {Fs : List (List Addr)} {i : Int} {d : D} (rp : RepL K cm H Z ds vs Fs) (e : atI ds i = some d) : ∃ (v : V) (F : List Addr) (j : Nat), atI vs i = some v ∧ Fs[j]? = some F ∧ Rep K cm H Z d v F := by
  obtain ⟨j, e1, e2⟩ := atI_get' e
  obtain ⟨v, F, a, b, c⟩ := rp.get e2
  refine ⟨v, F, j, ?_, b, c⟩
  unfold atI
  rw [rp.len.1, e1]
  exact a
theorem ok_ix : OkPr K cm (r2L (rIx4 K)) pIx := by
  intro H Z ds vs Fs d dm rp nd nf e Q q
  have key : ∀ {a : Addr} {k : Kd} {Gs : List (List Addr)} {G F : List Addr} {j : Nat}, Fs = [ownA k a ++ Gs.flatten, G] → Gs[j]? = some F → F.Sublist Fs.flatten := fun {a k Gs G F j} e h => by
    subst e
    rw [List.flatten_cons]
    exact ((flatten_get h).trans (List.sublist_append_right _ _)).trans (List.sublist_append_left _ _)
  unfold pIx at e
  split at e
  · obtain ⟨v, u, F, G, rfl, hF, ⟨a, us, Gs, rfl, hc, hl, rfl⟩, ⟨rfl, rfl⟩⟩ := repL2 rp
    obtain ⟨w, F', j, e1, e2, e3⟩ := atI_rep hl e
    have sb := key hF e2
    exact ⟨_, _, rfl, .inl (.inl ⟨a, us, _, w, rfl, rfl, rdL hc.2.1, e1, q _ H Z _ (.same dm e3 (nd.sublist sb) (fun x hx => sb.subset hx) fun x hx => nf x (sb.subset hx))⟩)⟩
  · obtain ⟨v, u, F, G, rfl, hF, ⟨a, us, Gs, rfl, hc, hl, rfl⟩, ⟨rfl, rfl⟩⟩ := repL2 rp
    obtain ⟨w, F', j, e1, e2, e3⟩ := atI_rep hl e
    have sb := key hF e2
    exact ⟨_, _, rfl, .inl (.inr (.inl ⟨a, us, _, w, rfl, rfl, hc, e1, q _ H Z _ (.same dm e3 (nd.sublist sb) (fun x hx => sb.subset hx) fun x hx => nf x (sb.subset hx))⟩))⟩
  · split at e
    · rename_i z i hl
      cases e2 : atI z.cps.toList i with
      | none => rw [e2] at e; cases e
      | some c =>
        rw [e2] at e
        cases e
        obtain ⟨v, u, F, G, rfl, hF, ⟨rfl, rfl⟩, ⟨rfl, rfl⟩⟩ := repL2 rp
        exact ⟨_, _, rfl, .inl (.inr (.inr ⟨z, i, c, rfl, rfl, hl, e2, q _ H Z [] (.atom (.refl dm) rep_str)⟩))⟩
    · cases e
  · rename_i f ks ds' x
    cases e2 : keyD x with
    | none => rw [e2] at e; cases e
    | some k =>
      rw [e2] at e
      have e : look ks ds' k = some d := e
      obtain ⟨v, u, F, G, rfl, hF, ⟨a, us, Gs, rfl, hc, hl, rfl⟩, h2⟩ := repL2 rp
      have ek := key_ok h2 e2
      subst ek
      obtain ⟨w, F', j, e3, e4, e5, e6⟩ := (look_rep (ks := ks) hl k).2 d e
      have sb := key hF e4
      refine ⟨_, _, rfl, .inr ⟨a, w, rfl, ?_, q _ H Z _ (.same dm e6 (nd.sublist sb) (fun x hx => sb.subset hx) fun x hx => nf x (sb.subset hx))⟩⟩
      have g := DGet.k (k := k) hc.1
      rw [look_valV hc.2.1, e3] at g
      exact g
  · cases e
end
end OB

namespace OB
open PySem PySem.Spec PyProof.Rows L2

/-! ### slices -/
def FinO (K : PySem.W.Frag) (cm : Cm) (W : WX) (σ : L2.St) (H : Hp) (Z : Zn) (Q : Option Int → Hp → Prop) : Ot (Option Int) → Prop
  | .no => False
  | .ok b => ∀ H' Z', Ext H Z H' Z' → Q b H'
  | .ex x => ∀ cls dd H' Z', Ext H Z H' Z' → XRep K cm H' Z' x cls dd → W cls dd σ H'
def tPO (K : PySem.W.Frag) (cm : Cm) (W : WX) (f : En → Ot (Option Int)) : TO := fun σ H Q => ∃ Z ρ Fs, OkP K cm H σ ρ Fs Z ∧ FinO K cm W σ H Z Q (f ρ)
abbrev SO (X : Cx) (cm : Cm) (W : WX) (e : Option Expr) (f : En → Ot (Option Int)) : Prop := PO X e (tPO X.K cm W f)
def oNone : En → Ot (Option Int) := fun _ => .ok none
def asI : D → Ot Int
  | .int i => .ok i
  | _ => .no
def oSome (f : En → Ot D) : En → Ot (Option Int) := fun ρ => (f ρ).bind fun d => (asI d).bind fun i => .ok (some i)
def eSl (p : D → Option Int → Option Int → Option D) (f : En → Ot D) (g h : En → Ot (Option Int)) : En → Ot D := fun ρ => (f ρ).bind fun d => (g ρ).bind fun lo => (h ρ).bind fun hi => .of (p d lo hi)
theorem PO.imp {X : Cx} {e : Option Expr} {t t' : TO} (h : PO X e t) (i : ∀ σ H Q, t' σ H Q → t σ H Q) : PO X e t' := ⟨fun pins s σ H Q I q => h.run pins s σ H Q I (i σ H Q q)⟩
theorem asI_ok {d : D} {b : Int} (h : asI d = .ok b) : d = .int b := by
  cases d <;> first | (cases h; done) | (cases h; rfl)
theorem asI_ex {d : D} {x : XD} : asI d ≠ .ex x := by cases d <;> exact fun h => nomatch h
section
variable {X : Cx} {cm : Cm} {W : WX} {e : Expr} {f : En → Ot D} {g h : En → Ot (Option Int)} {lo hi : Option Expr} {pos p2 : Pos}
theorem so_none : SO X cm W none oNone := PO.imp po_none fun σ H Q q => by
  obtain ⟨Z, ρ, Fs, ok, q⟩ := q
  exact q H Z (.refl ok.dom)
theorem so_some (he : SE X cm W e f) : SO X cm W (some e) (oSome f) := PO.imp (po_some he) fun σ H Q q => by
  obtain ⟨Z, ρ, Fs, ok, q0⟩ := q
  unfold oSome at q0
  refine tP_bind ok (fun q => ?_) (fun d q v H1 Z1 F r => ?_) (fun x q => ?_)
  · rw [q] at q0; exact q0
  · rw [q, Ot.bind_ok] at q0
    cases q2 : asI d with
    | no => rw [q2] at q0; exact q0.elim
    | ex x => exact absurd q2 asI_ex
    | ok i =>
      rw [q2, Ot.bind_ok] at q0
      have e := asI_ok q2
      subst e
      obtain ⟨rfl, rfl⟩ := r.rep
      exact ⟨i, rfl, q0 H1 Z1 r.ext⟩
  · rw [q] at q0; exact q0
def OkSl (K : PySem.W.Frag) (cm : Cm) (r : V → Option Int → Option Int → Hp → VK → Prop) (p : D → Option Int → Option Int → Option D) : Prop :=
  ∀ H Z d v F lo hi e, Dom H Z → Rep K cm H Z d v F → F.Nodup → (∀ a ∈ F, ¬ Z.f a) → p d lo hi = some e → ∀ Q : VK, (∀ u H' Z' G, Res K cm H Z H' Z' F e u G → Q u H') → r v lo hi H Q
theorem s_slice {r : V → Option Int → Option Int → Hp → VK → Prop} {p : D → Option Int → Option Int → Option D} (hr : SlR X r) (hp : OkSl X.K cm r p) (he : SE X cm W e f) (hl : SO X cm W lo g) (hu : SO X cm W hi h) :
    SE X cm W (.Subscript e (.Slice lo hi none p2) pos) (eSl p f g h) := PE.imp (pe_slice hr he hl hu) fun σ H Q q0 => by
  obtain ⟨Z, ρ, Fs, ok, q0⟩ := q0
  unfold eSl at q0
  refine tP_bind ok (fun q => ?_) (fun d q v H1 Z1 F r1 => ?_) (fun x q => ?_)
  · rw [q] at q0; exact q0
  · rw [q, Ot.bind_ok] at q0
    have ok1 := ok.ext r1.ext
    refine ⟨Z1, ρ, Fs, ok1, ?_⟩
    cases q2 : g ρ with
    | no => rw [q2] at q0; exact q0
    | ex x => rw [q2] at q0; exact fun cls dd H' Z' ex xr => q0 cls dd H' Z' (r1.ext.trans ex) xr
    | ok l =>
      rw [q2, Ot.bind_ok] at q0
      intro H2 Z2 ex2
      refine ⟨Z2, ρ, Fs, ok1.ext ex2, ?_⟩
      cases q3 : h ρ with
      | no => rw [q3] at q0; exact q0
      | ex x => rw [q3] at q0; exact fun cls dd H' Z' ex xr => q0 cls dd H' Z' (r1.ext.trans (ex2.trans ex)) xr
      | ok u =>
        rw [q3, Ot.bind_ok] at q0
        intro H3 Z3 ex3
        have ex23 := ex2.trans ex3
        cases q4 : p d l u with
        | none => rw [q4] at q0; exact q0.elim
        | some d' =>
          rw [q4] at q0
          have hm := Rep.mut d r1.rep
          exact hp H3 Z3 d v F l u d' (ok1.dom.ext ex23) (r1.rep.ext ex23) r1.nd (fun a ha => keep_nf ex23 (hm a ha) (r1.nf a ha)) q4 Q fun w H' Z' G r4 =>
            q0 w H' Z' G (r4.trans (r1.ext.trans ex23) fun a ha => .inl (r1.new a ha))
  · rw [q] at q0; exact q0
end
def cutD (xs : List D) (lo hi : Option Int) : List D := (xs.drop (HT.sIx xs.length 0 lo)).take (HT.sIx xs.length xs.length hi - HT.sIx xs.length 0 lo)
def pSl : D → Option Int → Option Int → Option D
  | .nd (.lst _) ds, lo, hi => some (.nd (.lst .own) (cutD ds lo hi))
  | .str z, lo, hi => if z.length ≤ sizeLine then some (.str (cutS z lo hi)) else none
  | .nd .tup ds, lo, hi => if HT.sIx ds.length 0 lo = 0 ∧ HT.sIx ds.length ds.length hi = ds.length then none else some (.nd .tup (cutD ds lo hi))
  | _, _, _ => none
def rSl3 (K : PySem.W.Frag) : V → Option Int → Option Int → Hp → VK → Prop := fun x lo hi H Q => rSlL K x lo hi H Q ∨ rSlS x lo hi H Q ∨ rSlT K x lo hi H Q
theorem sl_3 {X : Cx} : SlR X (rSl3 X.K) := sl_list.or (sl_str.or sl_tup)
section
variable {K : PySem.W.Frag} {cm : Cm}
theorem sub_flat {α : Type} {A B : List (List α)} (h : A.Sublist B) : A.flatten.Sublist B.flatten := by
  induction h with
  | slnil => exact List.Sublist.refl _
  | cons a _ ih => rw [List.flatten_cons]; exact ih.trans (List.sublist_append_right _ _)
  | cons_cons a _ ih => rw [List.flatten_cons, List.flatten_cons]; exact (List.Sublist.refl _).append ih
theorem cut_sub {Fs : List (List Addr)} {a b : Nat} : ((Fs.drop a).take b).flatten.Sublist Fs.flatten := sub_flat ((List.take_sublist _ _).trans (List.drop_sublist _ _))
theorem ok_sl : OkSl K cm (rSl3 K) pSl := by
  intro H Z d v F lo hi e dm rp nd nf q0 Q q
  unfold pSl at q0
  split at q0
  · rename_i f ds
    cases q0
    obtain ⟨a, vs, Fs, rfl, hc, hl, rfl⟩ := rp
    refine .inl ⟨a, vs, rfl, rdL hc.2.1, fun p hp => ?_⟩
    have rl := (hl.drop (HT.sIx ds.length 0 lo)).take (HT.sIx ds.length ds.length hi - HT.sIx ds.length 0 lo)
    have sb := (cut_sub (Fs := Fs) (a := HT.sIx ds.length 0 lo) (b := HT.sIx ds.length ds.length hi - HT.sIx ds.length 0 lo)).trans (List.sublist_append_right (ownA (.lst f) a) _)
    have ev : cutV vs lo hi = (vs.drop (HT.sIx ds.length 0 lo)).take (HT.sIx ds.length ds.length hi - HT.sIx ds.length 0 lo) := by unfold cutV; rw [hl.len.1]
    rw [ev]
    exact q _ _ Z _ (.newL dm rl (nd.sublist sb) (fun x hx => .inr (sb.subset hx)) (fun x hx => nf x (sb.subset hx)) hp)
  · split at q0
    · rename_i hz
      cases q0
      obtain ⟨rfl, rfl⟩ := rp
      exact .inr (.inl ⟨_, rfl, hz, q _ H Z [] (.atom (.refl dm) rep_str)⟩)
    · cases q0
  · split at q0
    · cases q0
    · rename_i ds hz
      cases q0
      obtain ⟨a, vs, Fs, rfl, hc, hl, rfl⟩ := rp
      have rl := (hl.drop (HT.sIx ds.length 0 lo)).take (HT.sIx ds.length ds.length hi - HT.sIx ds.length 0 lo)
      have sb := (cut_sub (Fs := Fs) (a := HT.sIx ds.length 0 lo) (b := HT.sIx ds.length ds.length hi - HT.sIx ds.length 0 lo)).trans (List.sublist_append_right (ownA .tup a) _)
      refine .inr (.inr ⟨a, vs, rfl, hc, by rw [hl.len.1]; exact hz, fun p hp => ?_⟩)
      have ev : cutV vs lo hi = (vs.drop (HT.sIx ds.length 0 lo)).take (HT.sIx ds.length ds.length hi - HT.sIx ds.length 0 lo) := by unfold cutV; rw [hl.len.1]
      rw [ev]
      exact q _ _ Z _ (.newT dm rl (nd.sublist sb) (fun x hx => .inr (sb.subset hx)) (fun x hx => nf x (sb.subset hx)) hp)
  · cases q0
end

/-! ### isinstance -/
def tyN : D → Option String
  | .non => some "NoneType"
  | .bl _ => some "bool"
  | .int _ => some "int"
  | .str _ => some "str"
  | .nd .tup _ => some "tuple"
  | .nd (.lst _) _ => some "list"
  | .nd (.dct _ _) _ => some "dict"
  | .nd (.obj _ _ _) _ => none
def objN : D → Option Str
  | .nd (.obj _ c _) _ => some c
  | _ => none
/-- the answer by the kind -/
def isiD (nb : String → Option Bool) (ob : Str → Option Bool) (d : D) : Option Bool := match tyN d with
  | some n => nb n
  | none => (objN d).bind ob
/-- a built-in class's answers -/
def nbTy (T : String) (n : String) : Option Bool := if ["NoneType", "bool", "int", "str", "tuple", "list", "dict"].contains n && ["bool", "int", "str", "tuple", "list", "dict"].contains T then some (n == T || (n == "bool" && T == "int")) else none
theorem nbTy_ok {K : PySem.W.Frag} {T n : String} {b : Bool} (h : nbTy T n = some b) : PySem.W.kitOne K (.type n) (.type T) = some b := by
  unfold nbTy at h
  split at h
  · rename_i hc
    cases h
    rw [Bool.and_eq_true] at hc
    have all : ∀ n ∈ ["NoneType", "bool", "int", "str", "tuple", "list", "dict"], ∀ T ∈ ["bool", "int", "str", "tuple", "list", "dict"], kitB n T = some (n == T || (n == "bool" && T == "int")) := by decide +kernel
    exact kit_ty (all n (by simpa using hc.1) T (by simpa using hc.2))
  · cases h
/-- what has to be known of an own class for isinstance of its instances -/
structure InsK (K : PySem.W.Frag) (C : Addr) : Prop where
  cl : Cls K C
  ha : PySem.W.findIn K (.ref C) "__class__" = some (some (.builtin "object.__class__"))
  hn : PySem.W.specialIn K (.builtin "object.__class__") "__get__" = some (some (.builtin "getset_descriptor.__get__"))
  htk : PySem.W.takesIn K (.builtin "object.__class__") = some true
  hm : PySem.W.mroIn K C (.type "object") = some true
section
variable {K : PySem.W.Frag} {cm : Cm} {H : Hp} {Z : Zn}
theorem isi_ok {nb : String → Option Bool} {ob : Str → Option Bool} {u : Value} (hn : ∀ n b, nb n = some b → PySem.W.kitOne K (.type n) u = some b) (ho : ∀ c b, ob c = some b → PySem.W.kitOne K (.ref (cm c)) u = some b ∧ InsK K (cm c))
    {d : D} {v : V} {F : List Addr} {b : Bool} (h : Rep K cm H Z d v F) (e : isiD nb ob d = some b) : ∃ t, TyX K H v t ∧ PySem.W.kitOne K t u = some b := by
  unfold isiD at e
  cases d with
  | non => obtain ⟨rfl, _⟩ := h; exact ⟨_, .base .non, hn _ _ e⟩
  | bl x => obtain ⟨rfl, _⟩ := h; exact ⟨_, .base (.bl x), hn _ _ e⟩
  | int x => obtain ⟨rfl, _⟩ := h; exact ⟨_, .base (.int x), hn _ _ e⟩
  | str x => obtain ⟨rfl, _⟩ := h; exact ⟨_, .base (.str x), hn _ _ e⟩
  | nd k ds =>
    obtain ⟨a, vs, Fs, rfl, hc, hl, rfl⟩ := h
    cases k with
    | tup =>
      rcases hc with (hc | ⟨o, hc⟩) | ⟨o, its, n, hk, h1, h2, _⟩
      · exact ⟨_, .base (.tup hc), hn _ _ e⟩
      · exact ⟨_, .fTuple hc, hn _ _ e⟩
      · exact ⟨_, .kTuple hk h1, hn _ _ e⟩
    | lst f =>
      rcases hc.2.1 with hc | ⟨o, hc⟩
      · exact ⟨_, .base (.lst hc), hn _ _ e⟩
      · exact ⟨_, .base (.frz hc), hn _ _ e⟩
    | dct f ks => exact ⟨_, .base (.dK hc.1), hn _ _ e⟩
    | obj f c fs =>
      obtain ⟨⟨dx, h1⟩, _⟩ := hc
      obtain ⟨k1, k2⟩ := ho c b e
      exact ⟨_, .base (.ins h1 k2.cl k2.ha k2.hn k2.htk k2.hm), k1⟩
end
def eIsi (nb : String → Option Bool) (ob : Str → Option Bool) (f : En → Ot D) : En → Ot D := fun ρ => (f ρ).bind fun d => .of ((isiD nb ob d).map .bl)
section
variable {X : Cx} {cm : Cm} {W : WX} {a c : Expr} {f : En → Ot D} {pos p : Pos}
theorem s_isi {nb : String → Option Bool} {ob : Str → Option Bool} {cv : V} {u : Value} (hn : ∀ n b, nb n = some b → PySem.W.kitOne X.K (.type n) u = some b) (ho : ∀ c b, ob c = some b → PySem.W.kitOne X.K (.ref (cm c)) u = some b ∧ InsK X.K (cm c))
    (hcv : ClsV cv u) (hg : Gl X "isinstance") (hm : X.mg "isinstance" = none) (hv : bootBuiltins "isinstance" = some (.builtin "isinstance")) (ha : SE X cm W a f) (hc : PE X c (tC cv))
    (he : starEach [a, c] X.env = (false, eval a X.env) :: starEach [c] X.env := by rfl) (he2 : starEach [c] X.env = (false, eval c X.env) :: starEach [] X.env := by rfl) (hpl : (backTo pos (starEach [c] X.env)).any (·.1) = false := by rfl) :
    SE X cm W (.Call (.Name "isinstance" p) [a, c] [] pos) (eIsi nb ob f) :=
  PE.imp (pe_callB call_isi hg hm hv (pa_cons ha (pa_cons hc pa_nil he2) he) (by decide) (by decide) he hpl) fun σ H Q q0 => by
    obtain ⟨Z, ρ, Fs, ok, q0⟩ := q0
    unfold eIsi at q0
    refine tP_bind ok (fun q => ?_) (fun d q v H1 Z1 F r1 => ?_) (fun x q => ?_)
    · rw [q] at q0; exact q0
    · rw [q, Ot.bind_ok] at q0
      cases q2 : isiD nb ob d with
      | none => rw [q2] at q0; exact q0.elim
      | some b =>
        rw [q2] at q0
        obtain ⟨t, ty, k⟩ := isi_ok hn ho r1.rep q2
        exact ⟨v, cv, t, u, b, rfl, hcv, ty, k, q0 _ H1 Z1 [] (.atom r1.ext rep_bl)⟩
    · rw [q] at q0; exact q0
/-- isinstance(x, T), T a built-in class, x no instance of an own class -/
theorem s_isiT {T : String} (hg : Gl X "isinstance") (hm : X.mg "isinstance" = none) (hv : bootBuiltins "isinstance" = some (.builtin "isinstance")) (ha : SE X cm W a f) (hc : PE X c (tC (.ty T)))
    (he : starEach [a, c] X.env = (false, eval a X.env) :: starEach [c] X.env := by rfl) (he2 : starEach [c] X.env = (false, eval c X.env) :: starEach [] X.env := by rfl) (hpl : (backTo pos (starEach [c] X.env)).any (·.1) = false := by rfl) :
    SE X cm W (.Call (.Name "isinstance" p) [a, c] [] pos) (eIsi (nbTy T) (fun _ => none) f) :=
  s_isi (fun _ _ e => nbTy_ok e) (fun _ _ e => nomatch e) (.ty T) hg hm hv ha hc he he2 hpl
end

/-! ### built-ins -/
def pLen : List D → Option D
  | [.nd (.lst _) ds] => some (.int (ds.length : Int))
  | [.nd .tup ds] => some (.int (ds.length : Int))
  | [.str s] => if s.length ≤ sizeLine then some (.int (s.length : Int)) else none
  | [.nd (.dct _ ks) _] => some (.int (ks.length : Int))
  | _ => none
def rLen2 (K : PySem.W.Frag) : List V → Hp → VK → Prop := fun xs H Q => (∃ x n, xs = [x] ∧ LenV K x H n ∧ Q (.int n) H) ∨ ∃ a kvs, xs = [.ref a] ∧ H a = some (.dK kvs) ∧ Q (.int kvs.length) H
theorem CallR.or2 {X : Cx} {u : Value} {r r' : List V → Hp → VK → Prop} (h : CallR X u r) (h' : CallR X u r') : CallR X u (fun xs H Q => r xs H Q ∨ r' xs H Q) := fun pins s σ H xs us Q I rs q => q.elim (h pins s σ H xs us Q I rs) (h' pins s σ H xs us Q I rs)
theorem call_len2 {X : Cx} : CallR X (.builtin "len") (rLen2 X.K) := CallR.or2 call_len call_lenD
def pAbs : List D → Option D
  | [.int i] => some (.int (if i < 0 then -i else i))
  | _ => none
def pMin : List D → Option D
  | [.int i, .int j] => some (.int (if j < i then j else i))
  | _ => none
def pMax : List D → Option D
  | [.int i, .int j] => some (.int (if j > i then j else i))
  | _ => none
def pAll : List D → Option D
  | [.nd (.lst _) ds] => (blsD ds).map fun bs => .bl (bs.all id)
  | _ => none
def pAny : List D → Option D
  | [.nd (.lst _) ds] => (blsD ds).map fun bs => .bl (bs.any id)
  | _ => none
def pSum : List D → Option D
  | [.nd (.lst _) ds] => (intsD ds).map fun ns => .int ns.sum
  | _ => none
def pInt : List D → Option D
  | [.int i] => some (.int i)
  | [.bl b] => some (.int (if b then 1 else 0))
  | [.str a] => if a.length ≤ 640 then (PySem.intText? a).map .int else none
  | _ => none
def rInt3 : List V → Hp → VK → Prop := fun xs H Q => ((∃ i, xs = [.int i] ∧ Q (.int i) H) ∨ ∃ k, xs = [.bl k] ∧ Q (.int (if k then 1 else 0)) H) ∨ ∃ a n, xs = [.str a] ∧ PySem.intText? a = some n ∧ a.length ≤ 640 ∧ Q (.int n) H
theorem call_int3 {X : Cx} : CallR X (.type "int") rInt3 := CallR.or2 call_int1 call_int_str
def pStr : List D → Option D
  | [.int i] => if i.natAbs.log2 < 1920 then some (.str (toString i)) else none
  | _ => none
def pList : List D → Option D
  | [.nd (.lst _) ds] => some (.nd (.lst .own) ds)
  | [.nd .tup ds] => some (.nd (.lst .own) ds)
  | _ => none
section
variable {K : PySem.W.Frag} {cm : Cm}
theorem ok_len : OkPr K cm (rLen2 K) pLen := by
  intro H Z ds vs Fs d dm rp nd nf e Q q
  have fin : ∀ n : Int, d = .int n → Q (.int n) H := fun n en => by subst en; exact q _ H Z [] (.atom (.refl dm) rep_int)
  unfold pLen at e
  split at e
  · cases e
    obtain ⟨v, F, rfl, rfl, ⟨a, us, Gs, rfl, hc, hl, rfl⟩⟩ := repL1 rp
    exact .inl ⟨_, _, rfl, .inl ⟨us, rdL hc.2.1, rfl⟩, fin _ (by rw [hl.len.1])⟩
  · cases e
    obtain ⟨v, F, rfl, rfl, ⟨a, us, Gs, rfl, hc, hl, rfl⟩⟩ := repL1 rp
    exact .inl ⟨_, _, rfl, .inr ⟨us, hc, rfl⟩, fin _ (by rw [hl.len.1])⟩
  · split at e
    · rename_i hs
      cases e
      obtain ⟨v, F, rfl, rfl, ⟨rfl, rfl⟩⟩ := repL1 rp
      exact .inl ⟨_, _, rfl, ⟨hs, rfl⟩, fin _ rfl⟩
    · cases e
  · cases e
    obtain ⟨v, F, rfl, rfl, ⟨a, us, Gs, rfl, hc, hl, rfl⟩⟩ := repL1 rp
    refine .inr ⟨a, _, rfl, hc.1, fin _ ?_⟩
    rw [List.length_zip, ← hc.2.1, Nat.min_self]
  · cases e
theorem ok_abs : OkPr K cm (fun xs H Q => ∃ i, xs = [.int i] ∧ Q (.int (if i < 0 then -i else i)) H) pAbs := by
  intro H Z ds vs Fs d dm rp nd nf e Q q
  unfold pAbs at e
  split at e
  · cases e
    obtain ⟨v, F, rfl, rfl, ⟨rfl, rfl⟩⟩ := repL1 rp
    exact ⟨_, rfl, q _ H Z [] (.atom (.refl dm) rep_int)⟩
  · cases e
theorem ok_min : OkPr K cm (fun xs H Q => ∃ i j, xs = [.int i, .int j] ∧ Q (.int (if j < i then j else i)) H) pMin := by
  intro H Z ds vs Fs d dm rp nd nf e Q q
  unfold pMin at e
  split at e
  · cases e
    obtain ⟨v, u, F, G, rfl, rfl, ⟨rfl, rfl⟩, ⟨rfl, rfl⟩⟩ := repL2 rp
    exact ⟨_, _, rfl, q _ H Z [] (.atom (.refl dm) rep_int)⟩
  · cases e
theorem ok_max : OkPr K cm (fun xs H Q => ∃ i j, xs = [.int i, .int j] ∧ Q (.int (if j > i then j else i)) H) pMax := by
  intro H Z ds vs Fs d dm rp nd nf e Q q
  unfold pMax at e
  split at e
  · cases e
    obtain ⟨v, u, F, G, rfl, rfl, ⟨rfl, rfl⟩, ⟨rfl, rfl⟩⟩ := repL2 rp
    exact ⟨_, _, rfl, q _ H Z [] (.atom (.refl dm) rep_int)⟩
  · cases e
theorem ok_all : OkPr K cm (rAll K) pAll := by
  intro H Z ds vs Fs d dm rp nd nf e Q q
  unfold pAll at e
  split at e
  · rename_i f ds'
    cases q1 : blsD ds' with
    | none => rw [q1] at e; cases e
    | some bs =>
      rw [q1] at e
      cases e
      have eb := blsD_eq q1
      subst eb
      obtain ⟨v, F, rfl, rfl, ⟨a, us, Gs, rfl, hc, hl, rfl⟩⟩ := repL1 rp
      have ev := repL_bls hl
      subst ev
      exact ⟨a, bs, rfl, rdL hc.2.1, q _ H Z [] (.atom (.refl dm) rep_bl)⟩
  · cases e
theorem ok_any : OkPr K cm (rAny K) pAny := by
  intro H Z ds vs Fs d dm rp nd nf e Q q
  unfold pAny at e
  split at e
  · rename_i f ds'
    cases q1 : blsD ds' with
    | none => rw [q1] at e; cases e
    | some bs =>
      rw [q1] at e
      cases e
      have eb := blsD_eq q1
      subst eb
      obtain ⟨v, F, rfl, rfl, ⟨a, us, Gs, rfl, hc, hl, rfl⟩⟩ := repL1 rp
      have ev := repL_bls hl
      subst ev
      exact ⟨a, bs, rfl, rdL hc.2.1, q _ H Z [] (.atom (.refl dm) rep_bl)⟩
  · cases e
theorem ok_sum : OkPr K cm (rSum K) pSum := by
  intro H Z ds vs Fs d dm rp nd nf e Q q
  unfold pSum at e
  split at e
  · rename_i f ds'
    cases q1 : intsD ds' with
    | none => rw [q1] at e; cases e
    | some bs =>
      rw [q1] at e
      cases e
      have eb := intsD_eq q1
      subst eb
      obtain ⟨v, F, rfl, rfl, ⟨a, us, Gs, rfl, hc, hl, rfl⟩⟩ := repL1 rp
      have ev := repL_ints hl
      subst ev
      exact ⟨a, bs, rfl, rdL hc.2.1, q _ H Z [] (.atom (.refl dm) rep_int)⟩
  · cases e
theorem ok_int : OkPr K cm rInt3 pInt := by
  intro H Z ds vs Fs d dm rp nd nf e Q q
  unfold pInt at e
  split at e
  · cases e
    obtain ⟨v, F, rfl, rfl, ⟨rfl, rfl⟩⟩ := repL1 rp
    exact .inl (.inl ⟨_, rfl, q _ H Z [] (.atom (.refl dm) rep_int)⟩)
  · cases e
    obtain ⟨v, F, rfl, rfl, ⟨rfl, rfl⟩⟩ := repL1 rp
    exact .inl (.inr ⟨_, rfl, q _ H Z [] (.atom (.refl dm) rep_int)⟩)
  · split at e
    · rename_i a hl
      cases q1 : PySem.intText? a with
      | none => rw [q1] at e; cases e
      | some n =>
        rw [q1] at e
        cases e
        obtain ⟨v, F, rfl, rfl, ⟨rfl, rfl⟩⟩ := repL1 rp
        exact .inr ⟨_, _, rfl, q1, hl, q _ H Z [] (.atom (.refl dm) rep_int)⟩
    · cases e
  · cases e
theorem ok_str : OkPr K cm (fun xs H Q => ∃ i, xs = [.int i] ∧ i.natAbs.log2 < 1920 ∧ Q (.str (toString i)) H) pStr := by
  intro H Z ds vs Fs d dm rp nd nf e Q q
  unfold pStr at e
  split at e
  · split at e
    · rename_i hl
      cases e
      obtain ⟨v, F, rfl, rfl, ⟨rfl, rfl⟩⟩ := repL1 rp
      exact ⟨_, rfl, hl, q _ H Z [] (.atom (.refl dm) rep_str)⟩
    · cases e
  · cases e
theorem ok_list : OkPr K cm (fun xs H Q => ∃ p ys, xs = [.ref p] ∧ (SqL K H p ys ∨ SqT K H p ys) ∧ ∀ l, H l = none → Q (.ref l) (upd H l (.lst ys))) pList := by
  intro H Z ds vs Fs d dm rp nd nf e Q q
  have key : ∀ {a : Addr} {k : Kd} {Gs : List (List Addr)}, Fs = [ownA k a ++ Gs.flatten] → Gs.flatten.Sublist Fs.flatten := fun {a k Gs} e => by
    subst e
    simp only [List.flatten_cons, List.flatten_nil, List.append_nil]
    exact List.sublist_append_right _ _
  unfold pList at e
  split at e
  · cases e
    obtain ⟨v, F, rfl, hF, ⟨a, us, Gs, rfl, hc, hl, rfl⟩⟩ := repL1 rp
    have sb := key hF
    exact ⟨a, us, rfl, .inl (rdL hc.2.1), fun l hl' => q _ _ Z _ (.newL dm hl (nd.sublist sb) (fun x hx => .inr (sb.subset hx)) (fun x hx => nf x (sb.subset hx)) hl')⟩
  · cases e
    obtain ⟨v, F, rfl, hF, ⟨a, us, Gs, rfl, hc, hl, rfl⟩⟩ := repL1 rp
    have sb := key hF
    exact ⟨a, us, rfl, .inr hc, fun l hl' => q _ _ Z _ (.newL dm hl (nd.sublist sb) (fun x hx => .inr (sb.subset hx)) (fun x hx => nf x (sb.subset hx)) hl')⟩
  · cases e
end

/-! ### methods -/
def tyB (T : String) : D → Bool
  | .str _ => T == "str"
  | .nd (.lst _) _ => T == "list"
  | .nd (.dct _ _) _ => T == "dict"
  | _ => false
def eM (T : String) (p : List D → Option D) (f : En → Ot D) (fs : List (En → Ot D)) : En → Ot D := fun ρ => (f ρ).bind fun x => if tyB T x then (eL fs ρ).bind fun ds => .of (p (x :: ds)) else .no
def rM (r : V → List V → Hp → VK → Prop) : List V → Hp → VK → Prop := fun vs H Q => ∃ x xs, vs = x :: xs ∧ r x xs H Q
theorem tyB_ok {K : PySem.W.Frag} {cm : Cm} {H : Hp} {Z : Zn} {T : String} {d : D} {v : V} {F : List Addr} (h : Rep K cm H Z d v F) (e : tyB T d = true) : tyV K T v H := by
  unfold tyB at e
  split at e
  · obtain ⟨rfl, _⟩ := h
    exact (beq_iff_eq.mp e)
  · obtain ⟨a, vs, Fs, rfl, hc, hl, rfl⟩ := h
    exact .inl ⟨beq_iff_eq.mp e, _, rdL hc.2.1⟩
  · obtain ⟨a, vs, Fs, rfl, hc, hl, rfl⟩ := h
    exact .inr (.inr (.inl ⟨beq_iff_eq.mp e, .inl ⟨_, hc.1⟩⟩))
  · cases e
section
variable {X : Cx} {cm : Cm} {W : WX} {o e : Expr} {es : List Expr} {f : En → Ot D} {fs : List (En → Ot D)} {name : Str} {apos cpos : Pos} {T id : String} {r : V → List V → Hp → VK → Prop} {p : List D → Option D}
theorem m_end {K : PySem.W.Frag} (hp : OkPr K cm (rM r) p) {σ : L2.St} {H : Hp} {Q : VK} (q0 : tP K cm W (eM T p f fs) σ H Q) : tP K cm W f σ H (fun x H1 => tyV K T x H1 ∧ tPL K cm W (eL fs) σ H1 (fun xs H2 => r x xs H2 Q)) := by
  obtain ⟨Z, ρ, Fs, ok, q0⟩ := q0
  unfold eM at q0
  refine tP_bind ok (fun q => ?_) (fun x q v H1 Z1 F r1 => ?_) (fun x q => ?_)
  · rw [q] at q0; exact q0
  · rw [q, Ot.bind_ok] at q0
    split at q0
    · rename_i ty
      refine ⟨tyB_ok r1.rep ty, Z1, ρ, Fs, ok.ext r1.ext, ?_⟩
      cases q2 : eL fs ρ with
      | no => rw [q2] at q0; exact q0
      | ex x => rw [q2] at q0; exact fun cls dd H' Z' ex xr => q0 cls dd H' Z' (r1.ext.trans ex) xr
      | ok ds =>
        rw [q2, Ot.bind_ok] at q0
        intro vs H2 Z2 Gs r2
        cases q3 : p (x :: ds) with
        | none => rw [q3] at q0; exact q0.elim
        | some d =>
          rw [q3] at q0
          have rl := ResL.cons r1 r2
          obtain ⟨_, _, e3, k⟩ := hp H2 Z2 (x :: ds) (v :: vs) _ d (ok.dom.ext rl.ext) rl.rep rl.nd rl.nf q3 Q fun w H' Z' G r4 => q0 w H' Z' G (r4.trans rl.ext fun a ha => .inl (rl.new a ha))
          cases e3
          exact k
    · exact q0.elim
  · rw [q] at q0; exact q0
theorem s_bm (pa : PlainAttrs T) (slot : Slot T name id) (hty : typeOf (.builtin id) = pure (.type "method_descriptor")) (hm : MtR X id r) (hp : OkPr X.K cm (rM r) p) (ho : SE X cm W o f) (ha : SA X cm W (e :: es) (eL fs))
    (hbase : attributeBase o name X.env (eval o X.env) = eval o X.env := by rfl)
    (hfew : ((backTo cpos (starEach (e :: es) X.env)).all (fun x => !x.1) && (backToKw cpos (keywordEach [] X.env)).all (fun x => x.1.isSome)
      && decide ((e :: es).length + ([] : List Keyword).length + (if ([] : List Keyword).isEmpty then 0 else 1) < 30)) = true := by rfl)
    (hline : (apos.endLine == cpos.line) = true := by rfl) (hs : starEach (e :: es) X.env = (false, eval e X.env) :: starEach es X.env := by rfl) (hplain : (backTo cpos (starEach es X.env)).any (·.1) = false := by rfl) :
    SE X cm W (.Call (.Attribute o name apos) (e :: es) [] cpos) (eM T p f fs) := PE.imp (pe_bm pa slot hty hm ho ha hbase hfew hline hs hplain) fun σ H Q q => m_end hp q
end
def pJoin : List D → Option D
  | [.str a, .nd (.lst _) ds] => (strsD ds).bind fun ys => if (ys.map (·.length)).sum + ys.length * a.length ≤ 16777216 then some (.str (Txt.join a ys)) else none
  | _ => none
def pSplit : List D → Option D
  | [.str a, .str b] => if (b.length == 0) = false ∧ a.length + 2 ≤ sizeLine then some (.nd (.lst .own) ((Txt.split a b).map .str)) else none
  | _ => none
def pPart : List D → Option D
  | [.str a, .str b] => if (b.length == 0) = false ∧ a.length ≤ sizeLine then some (.nd .tup [.str (Txt.partition a b).1, .str (Txt.partition a b).2.1, .str (Txt.partition a b).2.2]) else none
  | _ => none
section
variable {K : PySem.W.Frag} {cm : Cm}
theorem ok_join : OkPr K cm (rM (fun x xs H Q => ∃ a p, ∃ ys : List Str, x = .str a ∧ xs = [.ref p] ∧ (SqL K H p (ys.map V.str) ∨ SqT K H p (ys.map V.str)) ∧ (ys.map (·.length)).sum + ys.length * a.length ≤ 16777216 ∧ Q (.str (Txt.join a ys)) H)) pJoin := by
  intro H Z ds vs Fs d dm rp nd nf e Q q
  unfold pJoin at e
  split at e
  · rename_i a f ds'
    cases q1 : strsD ds' with
    | none => rw [q1] at e; cases e
    | some ys =>
      rw [q1] at e
      have e2 : (if (ys.map (·.length)).sum + ys.length * a.length ≤ 16777216 then some (D.str (Txt.join a ys)) else none) = some d := e
      split at e2
      · rename_i hz
        cases e2
        have es := strsD_eq q1
        subst es
        obtain ⟨v, u, F, G, rfl, rfl, ⟨rfl, rfl⟩, ⟨p, us, Gs, rfl, hc, hl, rfl⟩⟩ := repL2 rp
        have ev := repL_strS hl
        subst ev
        exact ⟨_, _, rfl, a, p, ys, rfl, rfl, .inl (rdL hc.2.1), hz, q _ H Z [] (.atom (.refl dm) rep_str)⟩
      · cases e2
  · cases e
theorem ok_split : OkPr K cm (rM (fun x xs H Q => ∃ a b, x = .str a ∧ xs = [.str b] ∧ (b.length == 0) = false ∧ a.length + 2 ≤ sizeLine ∧ rNewStrs (Txt.split a b) H Q)) pSplit := by
  intro H Z ds vs Fs d dm rp nd nf e Q q
  unfold pSplit at e
  split at e
  · rename_i a b
    split at e
    · rename_i hz
      cases e
      obtain ⟨v, u, F, G, rfl, rfl, ⟨rfl, rfl⟩, ⟨rfl, rfl⟩⟩ := repL2 rp
      refine ⟨_, _, rfl, a, b, rfl, rfl, hz.1, hz.2, fun p hp => ?_⟩
      have rl : RepL K cm H Z ((Txt.split a b).map .str) ((Txt.split a b).map V.str) (List.replicate (Txt.split a b).length []) := repL_mk (fun _ => rep_str) _
      exact q _ _ Z _ (.newL dm rl (by rw [flatten_nils]; exact List.nodup_nil) (by rw [flatten_nils]; exact fun _ z => nomatch z) (by rw [flatten_nils]; exact fun _ z => nomatch z) hp)
    · cases e
  · cases e
theorem ok_part : OkPr K cm (rM (fun x xs H Q => ∃ a b, x = .str a ∧ xs = [.str b] ∧ (b.length == 0) = false ∧ a.length ≤ sizeLine ∧ ∀ p, H p = none → Q (.ref p) (upd H p (.tup [.str (Txt.partition a b).1, .str (Txt.partition a b).2.1, .str (Txt.partition a b).2.2])))) pPart := by
  intro H Z ds vs Fs d dm rp nd nf e Q q
  unfold pPart at e
  split at e
  · rename_i a b
    split at e
    · rename_i hz
      cases e
      obtain ⟨v, u, F, G, rfl, rfl, ⟨rfl, rfl⟩, ⟨rfl, rfl⟩⟩ := repL2 rp
      refine ⟨_, _, rfl, a, b, rfl, rfl, hz.1, hz.2, fun p hp => ?_⟩
      have rl : RepL K cm H Z [.str (Txt.partition a b).1, .str (Txt.partition a b).2.1, .str (Txt.partition a b).2.2] [.str (Txt.partition a b).1, .str (Txt.partition a b).2.1, .str (Txt.partition a b).2.2] [[], [], []] := repL_cons rep_str (repL_cons rep_str (repL_cons rep_str repL_nil))
      exact q _ _ Z _ (.newT dm rl (by simp) (by simp) (by simp) hp)
    · cases e
  · cases e
end
end OB

namespace OB
open PySem PySem.Spec PyProof.Rows L2

/-! ### all but some objects are kept -/
def Kept (H : Hp) (O : List Addr) (H' : Hp) : Prop := ∀ a o, H a = some o → a ∉ O → H' a = some o
theorem Kept.refl {H : Hp} {O : List Addr} : Kept H O H := fun _ _ h _ => h
theorem Kept.grow {H H' : Hp} {O : List Addr} (g : Grow H H') : Kept H O H' := fun a o h _ => g a o h
theorem Kept.trans {H H1 H2 : Hp} {O : List Addr} (a : Kept H O H1) (b : Kept H1 O H2) : Kept H O H2 := fun x o h n => b x o (a x o h n) n
section
variable {K : PySem.W.Frag} {cm : Cm} {H H' : Hp} {Z Z' : Zn}
theorem cell_kept {O : List Addr} (k : Kept H O H') (mu : ∀ a ∈ O, Mut (H a)) (nz : ∀ a ∈ O, ¬ Z.f a ∧ ¬ Z.b a ∧ ¬ Z.t a) (f : ∀ a, Z.f a → Z'.f a) (b : ∀ a, Z.b a → Z'.b a) (t : ∀ a, Z.t a → Z'.t a) :
    CellMove K cm H H' Z Z' id (fun a => a ∉ O) := fun a kd vs h ho => by
  have nm : ∀ u, Mut (some u) = False → H a = some u → a ∉ O := fun u e q z => by have := mu a z; rw [q, e] at this; exact this
  have ne : ∀ fl : Fl, (fl = .own → a ∉ O) → Z.ok a fl → a ∉ O := fun fl h1 h2 z => by
    obtain ⟨n1, n2, n3⟩ := nz a z
    cases fl with
    | own => exact h1 rfl z
    | frz => exact n1 h2
    | bor => exact n2 h2
    | tmp => exact n3 h2
  have rd : ∀ u, a ∉ O → Rd H a u → Rd H' a u := fun u n r => by
    rcases r with r | ⟨ob, r⟩
    · exact .inl (k a _ r n)
    · exact .inr ⟨ob, k a _ r n⟩
  cases kd with
  | tup =>
    rcases h with (h | ⟨ob, h⟩) | h
    · exact .inl (.inl (k a _ h (nm _ rfl h)))
    · exact .inl (.inr ⟨ob, k a _ h (nm _ rfl h)⟩)
    · exact .inr h
  | lst fl =>
    have n := ne fl (fun e => ho (by rw [e]; rfl)) h.2.2
    exact ⟨fun e => k a _ (h.1 e) n, rd _ n h.2.1, Zn.ok_mono f b t h.2.2⟩
  | dct fl ks =>
    have n := ne fl (fun e => ho (by rw [e]; rfl)) h.2.2
    exact ⟨k a _ h.1 n, h.2.1, Zn.ok_mono f b t h.2.2⟩
  | obj fl c fs =>
    have n := ne fl (fun e => ho (by rw [e]; rfl)) h.2.2
    obtain ⟨⟨dx, e⟩, l, q⟩ := h
    exact ⟨⟨dx, k a _ e n⟩, l, Zn.ok_mono f b t q⟩
theorem Rep.kept {O : List Addr} {d : D} {v : V} {F : List Addr} (h : Rep K cm H Z d v F) (k : Kept H O H') (mu : ∀ a ∈ O, Mut (H a)) (nz : ∀ a ∈ O, ¬ Z.f a ∧ ¬ Z.b a ∧ ¬ Z.t a) (f : ∀ a, Z.f a → Z'.f a) (b : ∀ a, Z.b a → Z'.b a) (t : ∀ a, Z.t a → Z'.t a)
    (nF : ∀ a ∈ F, a ∉ O) : Rep K cm H' Z' d v F := h.stay (cell_kept k mu nz f b t) nF
/-- to lend -/
theorem cell_dom {a : Addr} {k : Kd} {vs : List V} (h : Cell K cm H Z a k vs) (n : k ≠ .tup) : H a ≠ none := by
  cases k with
  | tup => exact absurd rfl n
  | lst f =>
    rcases h.2.1 with h | ⟨o, h⟩
    · exact fun z => by rw [z] at h; cases h
    · exact fun z => by rw [z] at h; cases h
  | dct f ks => exact fun z => by have := h.1; rw [z] at this; cases this
  | obj f c fs =>
    obtain ⟨⟨dx, e⟩, _⟩ := h
    exact fun z => by rw [z] at e; cases e
end
/-- handed over: a new thing is frozen, what is lent is borrowed -/
def Fl.toArg : Fl → Fl
  | .own => .frz
  | .frz => .frz
  | .bor => .bor
  | .tmp => .bor
def toArg (d : D) : D := mapF Fl.toArg d
def lentZ (H : Hp) (f : Addr → Prop) : Zn := ⟨f, fun a => H a ≠ none, fun _ => False⟩
theorem dom_lent {H : Hp} {f : Addr → Prop} (hf : ∀ a, f a → H a ≠ none) : Dom H (lentZ H f) := ⟨hf, fun _ h => h, fun _ h => h.elim⟩
section
variable {K : PySem.W.Frag} {cm : Cm} {H H' : Hp} {Z Z' : Zn}
theorem cell_arg {f : Addr → Prop} {O : Addr → Prop} (hO : ∀ a, O a → f a) (hf : ∀ a, Z.f a → f a) : CellMove K cm H H Z (lentZ H f) Fl.toArg O := fun a k vs h o => by
  have key : ∀ fl : Fl, k.fl = some fl → Z.ok a fl → (lentZ H f).ok a fl.toArg := fun fl e z => by
    have nt : k ≠ .tup := fun q => by rw [q] at e; cases e
    cases fl with
    | own => exact hO a (o (by unfold Kd.isOwn; rw [e]; rfl))
    | frz => exact hf a z
    | bor => exact cell_dom h nt
    | tmp => exact cell_dom h nt
  cases k with
  | tup => exact h
  | lst fl => exact ⟨(fun e => h.1 fun z => by subst z; exact e rfl), h.2.1, key fl rfl h.2.2⟩
  | dct fl ks => exact ⟨h.1, h.2.1, key fl rfl h.2.2⟩
  | obj fl c fs => exact ⟨h.1, h.2.1, key fl rfl h.2.2⟩
theorem RepL.arg {f : Addr → Prop} {ds : List D} {vs : List V} {Fs : List (List Addr)} (h : RepL K cm H Z ds vs Fs) (hO : ∀ a ∈ Fs.flatten, f a) (hf : ∀ a, Z.f a → f a) : ∃ Gs, Gs.flatten = [] ∧ RepL K cm H (lentZ H f) (ds.map toArg) vs Gs := by
  obtain ⟨Gs, a, b⟩ := RepL.give (g := Fl.toArg) (O := fun a => a ∈ Fs.flatten) (Z' := lentZ H f) (cell_arg hO hf) (fun f e => by cases f <;> cases e) ds h fun _ h => h
  rw [mapFL_eq] at b
  exact ⟨Gs, a, b⟩
end

/-! ### the promise of a def that changes nothing -/
def spP (K : PySem.W.Frag) (cm : Cm) (n : Nat) (m : List D → Ot D) : Sp := fun vs H Q E => ∃ f ds Gs, (∀ a, f a → H a ≠ none) ∧ ds.length = n ∧ Gs.flatten = [] ∧ RepL K cm H (lentZ H f) ds vs Gs ∧ FinD K cm (fun cls dd _ H' => E cls dd H') [] H (lentZ H f) Q (m ds)
theorem spP_len {K : PySem.W.Frag} {cm : Cm} {n : Nat} {m : List D → Ot D} {vs : List V} {H : Hp} {Q : VK} {E : XK} (h : spP K cm n m vs H Q E) : vs.length = n := by
  obtain ⟨f, ds, Gs, _, e, _, r, _⟩ := h
  rw [r.len.1, e]
/-- what comes back must be new or frozen -/
def back : Ot D → Ot D
  | .no => .no
  | .ok r => if noB r then .ok r else .no
  | .ex x => .ex x
/-- a call's value -/
def eCall (m : List D → Ot D) (dd : List D) (fs : List (En → Ot D)) : En → Ot D := fun ρ => (eL fs ρ).bind fun ds => back (m (ds.map toArg ++ dd))
section
variable {X : Cx} {cm : Cm} {W : WX}
/-- the call itself, behind its arguments -/
theorem call_end {K : PySem.W.Frag} {m : List D → Ot D} {n : Nat} {dd : List D} {fs : List (En → Ot D)} {dvs : List V} (hdd : dd.all isAt = true) (hdv : dvs = dd.map toV) (hlen : fs.length + dd.length = n) {σ : L2.St} {H : Hp} {Q : VK} (q0 : tP K cm W (eCall m dd fs) σ H Q) :
    tPL K cm W (eL fs) σ H (fun vs H1 => spP K cm n m (vs ++ dvs) H1 Q (fun cls d H' => W cls d σ H')) := by
  obtain ⟨Z, ρ, Fs, ok, q0⟩ := q0
  refine ⟨Z, ρ, Fs, ok, ?_⟩
  unfold eCall at q0
  cases q : eL fs ρ with
  | no => rw [q] at q0; exact q0
  | ex x => rw [q] at q0; exact q0
  | ok ds =>
    rw [q, Ot.bind_ok] at q0
    intro vs H1 Z1 Gs r1
    have dm1 := ok.dom.ext r1.ext
    obtain ⟨Ms, e1, e2⟩ := r1.rep.arg (f := fun a => Z1.f a ∨ a ∈ Gs.flatten) (fun a h => .inr h) (fun a h => .inl h)
    have rdd : ∀ (l : List D), l.all isAt = true → ∀ (Z2 : Zn), RepL K cm H1 Z2 l (l.map toV) (l.map fun _ => []) := by
      intro l
      induction l with
      | nil => exact fun _ _ => repL_nil
      | cons d l ih =>
        intro hl Z2
        rw [List.all_cons, Bool.and_eq_true] at hl
        refine repL_cons ?_ (ih hl.2 Z2)
        cases d with
        | nd k ds => cases hl.1
        | non => exact ⟨rfl, rfl⟩
        | bl b => exact ⟨rfl, rfl⟩
        | int i => exact ⟨rfl, rfl⟩
        | str s => exact ⟨rfl, rfl⟩
    have fl0 : ∀ l : List D, (l.map fun _ => ([] : List Addr)).flatten = [] := fun l => by induction l with
      | nil => rfl
      | cons d l ih => rw [List.map_cons, List.flatten_cons, ih]; rfl
    have hm := RepL.mut ds r1.rep
    have len : ds.length = fs.length := by
      have : ∀ (fs : List (En → Ot D)) (ds : List D), eL fs ρ = .ok ds → ds.length = fs.length := by
        intro fs
        induction fs with
        | nil => intro ds h; cases h; rfl
        | cons f fs ih =>
          intro ds h
          unfold eL at h
          cases q1 : f ρ with
          | no => rw [q1] at h; cases h
          | ex x => rw [q1] at h; cases h
          | ok d =>
            rw [q1, Ot.bind_ok] at h
            cases q2 : eL fs ρ with
            | no => rw [q2] at h; cases h
            | ex x => rw [q2] at h; cases h
            | ok es => rw [q2, Ot.bind_ok] at h; cases h; simp [ih es q2]
      exact this fs ds q
    refine ⟨fun a => Z1.f a ∨ a ∈ Gs.flatten, ds.map toArg ++ dd, Ms ++ (dd.map fun _ => []), fun a h => h.elim (dm1.f a) fun z => mut_ne (hm a z), by simp [len, hlen], by rw [List.flatten_append, e1, fl0]; rfl, ?_, ?_⟩
    · rw [hdv]; exact e2.app (rdd dd hdd _)
    · have extB : ∀ {H2 : Hp} {Z2 : Zn}, Ext H1 (lentZ H1 fun a => Z1.f a ∨ a ∈ Gs.flatten) H2 Z2 → Ext H Z H2 ⟨Z2.f, Z.b, Z.t⟩ := fun {H2 Z2} e =>
        ⟨r1.ext.gr.trans e.gr, fun a h => e.f a (.inl (r1.ext.f a h)), fun a h => (e.fn a h).elim (fun q => q.elim (r1.ext.fn a) fun z => .inr (r1.new a z)) fun q => .inr (r1.ext.gr.back q), e.fd, rfl, rfl⟩
      cases q2 : m (ds.map toArg ++ dd) with
      | no => rw [q2] at q0; exact q0
      | ok r =>
        rw [q2] at q0
        have q0 : FinD K cm W σ H Z Q (if noB r then .ok r else .no) := q0
        split at q0
        · rename_i nb
          intro v H2 Z2 F r2
          exact q0 v H2 ⟨Z2.f, Z.b, Z.t⟩ F ⟨extB r2.ext, noB_only r2.rep nb fun _ h => h, r2.nd, fun a h => .inl (r1.ext.gr.back (r2.new a h)), r2.nf⟩
        · exact q0.elim
      | ex x =>
        rw [q2] at q0
        have q0 : FinD K cm W σ H Z Q (.ex x) := q0
        intro cls d H2 Z2 e xr
        exact q0 cls d H2 ⟨Z2.f, Z.b, Z.t⟩ (extB e) (xr.back fun _ h => h)
variable {k : Nat} {f : Addr} {fd : FuncData} {ps : List Str} {n : Nat} {m : List D → Ot D} {dd : List D} {dvs : List V} {ds : List Value} {x : Str} {p pos : Pos} {e : Expr} {es : List Expr} {fs : List (En → Ot D)}
theorem s_call (tk : Takes X W) (F : FnOk X.prog X.w X.K X.mg X.base (L2.CX X.prog X.w) k f fd ps (spP X.K cm n m)) (hr : Room k X.A) (hg : Gl X x) (hm : X.mg x = some (.ref f)) (hk : PySem.W.keepIn X.K (.ref f) = true) (hb : Binds X.K fd ps ds) (hd : Vals dvs ds)
    (hdd : dd.all isAt = true) (hdv : dvs = dd.map toV) (hlen : fs.length + dd.length = n) (ha : SA X cm W (e :: es) (eL fs))
    (hdb : (x == ("__debug__" : Str)) = false := by decide) (he : starEach (e :: es) X.env = (false, eval e X.env) :: starEach es X.env := by rfl) (hpl : (backTo pos (starEach es X.env)).any (·.1) = false := by rfl) :
    SE X cm W (.Call (.Name x p) (e :: es) [] pos) (eCall m dd fs) :=
  PE.imp (pe_callSD (E := fun σ cls d H => W cls d σ H) F hr hg hm hk hb hd (fun σ => passAt tk σ) ha hdb he hpl) fun σ H Q q0 => call_end hdd hdv hlen q0
/-- without arguments: no exception is let out -/
def noX : Ot D → Ot D
  | .ok d => .ok d
  | _ => .no
theorem s_call0 (F : FnOk X.prog X.w X.K X.mg X.base (L2.CX X.prog X.w) k f fd ps (spP X.K cm n m)) (hr : Room k X.A) (hg : Gl X x) (hm : X.mg x = some (.ref f)) (hk : PySem.W.keepIn X.K (.ref f) = true) (hb : Binds X.K fd ps ds) (hd : Vals dvs ds)
    (hdd : dd.all isAt = true) (hdv : dvs = dd.map toV) (hlen : dd.length = n) (hdb : (x == ("__debug__" : Str)) = false := by decide) :
    SE X cm W (.Call (.Name x p) [] [] pos) (fun ρ => noX (eCall m dd [] ρ)) :=
  PE.imp (pe_call0 (E := E0) F hr hg hm hk hb hd passL hdb) fun σ H Q q0 => by
    have q1 : tP X.K cm (fun _ _ _ _ => False) (eCall m dd []) σ H Q := by
      obtain ⟨Z, ρ, Fs, ok, q0⟩ := q0
      refine ⟨Z, ρ, Fs, ok, ?_⟩
      have q0 : FinD X.K cm W σ H Z Q (noX (eCall m dd [] ρ)) := q0
      cases q : eCall m dd [] ρ with
      | no => rw [q] at q0; exact q0.elim
      | ok d => rw [q] at q0; exact q0
      | ex x => rw [q] at q0; exact q0.elim
    have q2 := call_end (n := n) hdd hdv (by simpa using hlen) q1
    obtain ⟨Z, ρ, Fs, ok, q3⟩ := q2
    exact q3 [] H Z [] (.nil ok.dom)
end
end OB

namespace OB
open PySem PySem.Spec PyProof.Rows L2

def Fl.toFrz : Fl → Fl
  | .own => .frz
  | f => f
def toFrz (d : D) : D := mapF Fl.toFrz d
def noT (d : D) : Bool := allF (fun f => f != .tmp) d
def Safe (H : Hp) (O : List Addr) (Z : Zn) : Prop := ∀ a ∈ O, Mut (H a) ∧ ¬ Z.f a ∧ ¬ Z.b a ∧ ¬ Z.t a
structure Walks (K : PySem.W.Frag) (cm : Cm) (J : It) (H : Hp) (O : List Addr) (Z : Zn) (ds : List D) : Prop where
  go : ∀ i H2, Kept H O H2 → i < ds.length → J.go i H2
  stop : ∀ i H2, Kept H O H2 → ds.length ≤ i → J.stop i H2
  yld : ∀ i H2 x H3, Kept H O H2 → J.yld i H2 x H3 → ∀ d, ds[i]? = some d → Grow H2 H3 ∧ Rep K cm H3 Z d x []
/-- the items, and whether none of them is lent -/
abbrev Its' := List D × Bool
def FinI (K : PySem.W.Frag) (cm : Cm) (W : WX) (σ : L2.St) (H : Hp) (Z : Zn) (R : It → Hp → Prop) : Ot Its' → Prop
  | .no => False
  | .ok p => ∀ J H' Z', Ext H Z H' Z' → (∀ O t', (p.2 = true ∨ t' = Z'.t) → Safe H' O ⟨Z'.f, Z'.b, t'⟩ → Walks K cm J H' O ⟨Z'.f, Z'.b, t'⟩ p.1) → R J H'
  | .ex x => ∀ cls dd H' Z', Ext H Z H' Z' → XRep K cm H' Z' x cls dd → W cls dd σ H'
def tPI (K : PySem.W.Frag) (cm : Cm) (W : WX) (g : En → Ot Its') : TI := fun σ H R => ∃ Z ρ Fs, OkP K cm H σ ρ Fs Z ∧ FinI K cm W σ H Z R (g ρ)
abbrev SI (X : Cx) (cm : Cm) (W : WX) (tg e : Expr) (g : En → Ot Its') : Prop := PI X tg e (tPI X.K cm W g)
theorem PI.imp {X : Cx} {tg e : Expr} {t t' : TI} (h : PI X tg e t) (i : ∀ σ H R, t' σ H R → t σ H R) : PI X tg e t' := ⟨fun pins s σ H R I q => h.run pins s σ H R I (i σ H R q)⟩
theorem PI.or {X : Cx} {tg e : Expr} {t t' : TI} (h : PI X tg e t) (h' : PI X tg e t') : PI X tg e (fun σ H R => t σ H R ∨ t' σ H R) := ⟨fun pins s σ H R I q => q.elim (h.run pins s σ H R I) (h'.run pins s σ H R I)⟩
def itemsD : D → Option Its'
  | .nd (.lst f) ds => some (ds.map toFrz, f != .tmp && ds.all noT)
  | .nd .tup ds => some (ds.map toFrz, ds.all noT)
  | .str s => some (s.cps.toList.map fun c => .str ⟨#[c]⟩, true)
  | _ => none
def itV (f : En → Ot D) : En → Ot Its' := fun ρ => (f ρ).bind fun d => .of (itemsD d)
section
variable {K : PySem.W.Frag} {cm : Cm} {H : Hp} {O : List Addr} {Z : Zn}
theorem Safe.kept {H' : Hp} (s : Safe H O Z) (k : Kept H O H') {d : D} {v : V} (r : Rep K cm H Z d v []) : Rep K cm H' Z d v [] :=
  r.kept k (fun a h => (s a h).1) (fun a h => (s a h).2) (fun _ h => h) (fun _ h => h) (fun _ h => h) (fun _ h => nomatch h)
theorem Kept.rd {H' : Hp} {a : Addr} {u : HO} (k : Kept H O H') (n : a ∉ O) (h : Rd H a u) : Rd H' a u := by
  rcases h with h | ⟨o, h⟩
  · exact .inl (k _ _ h n)
  · exact .inr ⟨o, k _ _ h n⟩
theorem walk_list {a : Addr} {vs : List V} {ds : List D} {Gs : List (List Addr)} (h : Rd H a (.lst vs)) (n : a ∉ O) (s : Safe H O Z) (r : RepL K cm H Z ds vs Gs) (e : Gs.flatten = []) : Walks K cm (Itl K a) H O Z ds := by
  have len := r.len.1
  refine ⟨fun i H2 k l => ⟨vs, vs[i]'(by omega), rdL (k.rd n h), by simp⟩, fun i H2 k l => ⟨vs, rdL (k.rd n h), by omega⟩, fun i H2 x H3 k y d hd => ?_⟩
  obtain ⟨rfl, y⟩ := y
  obtain ⟨v, F, e1, e2, e3⟩ := r.get hd
  have e4 := y vs (rdL (k.rd n h))
  rw [e1] at e4
  cases e4
  have eF : F = [] := List.eq_nil_iff_forall_not_mem.mpr fun z hz => by
    have := flat_mem e2 hz
    rw [e] at this; cases this
  subst eF
  exact ⟨.refl _, s.kept k e3⟩
theorem walk_tup {a : Addr} {vs : List V} {ds : List D} {Gs : List (List Addr)} (h : SqT K H a vs) (s : Safe H O Z) (r : RepL K cm H Z ds vs Gs) (e : Gs.flatten = []) : Walks K cm (Itt K a) H O Z ds := by
  have len := r.len.1
  have ht : ∀ H2, Kept H O H2 → SqT K H2 a vs := fun H2 k => by
    have nm : ∀ u, Mut (some u) = False → H a = some u → a ∉ O := fun u e q z => by have := (s a z).1; rw [q, e] at this; exact this
    rcases h with (h | ⟨ob, h⟩) | h
    · exact .inl (.inl (k a _ h (nm _ rfl h)))
    · exact .inl (.inr ⟨ob, k a _ h (nm _ rfl h)⟩)
    · exact .inr h
  refine ⟨fun i H2 k l => ⟨vs, vs[i]'(by omega), ht H2 k, by simp⟩, fun i H2 k l => ⟨vs, ht H2 k, by omega⟩, fun i H2 x H3 k y d hd => ?_⟩
  obtain ⟨rfl, y⟩ := y
  obtain ⟨v, F, e1, e2, e3⟩ := r.get hd
  have e4 := y vs (ht H3 k)
  rw [e1] at e4
  cases e4
  have eF : F = [] := List.eq_nil_iff_forall_not_mem.mpr fun z hz => by
    have := flat_mem e2 hz
    rw [e] at this; cases this
  subst eF
  exact ⟨.refl _, s.kept k e3⟩
theorem walk_str {x : Str} : Walks K cm (Its x) H O Z (x.cps.toList.map fun c => .str ⟨#[c]⟩) := by
  refine ⟨fun i H2 k l => (show i < x.cps.size by simpa using l), fun i H2 k l => (show x.cps.size ≤ i by simpa using l), fun i H2 v H3 k y d hd => ?_⟩
  obtain ⟨rfl, c, e, rfl⟩ := y
  have e2 : x.cps.toList[i]? = some c := by simpa using e
  rw [List.getElem?_map, e2] at hd
  cases hd
  exact ⟨.refl _, rep_str⟩
theorem walk_rng {lo : Int} {n : Nat} : Walks K cm (Itr lo n) H O Z ((List.range n).map fun i : Nat => .int (lo + (i : Int))) := by
  refine ⟨fun i H2 k l => (show i < n by simpa using l), fun i H2 k l => (show n ≤ i by simpa using l), fun i H2 v H3 k y d hd => ?_⟩
  obtain ⟨rfl, rfl⟩ := y
  rw [List.getElem?_map] at hd
  by_cases hi : i < n
  · rw [List.getElem?_range hi] at hd
    cases hd
    exact ⟨.refl _, rep_int⟩
  · rw [List.getElem?_eq_none (by simpa using hi)] at hd
    cases hd
theorem walk_rngC {lo c : Int} {n : Nat} : Walks K cm (Itc lo c n) H O Z ((List.range n).map fun i : Nat => .int (lo + (i : Int) * c)) := by
  refine ⟨fun i H2 k l => (show i < n by simpa using l), fun i H2 k l => (show n ≤ i by simpa using l), fun i H2 v H3 k y d hd => ?_⟩
  obtain ⟨rfl, rfl⟩ := y
  rw [List.getElem?_map] at hd
  by_cases hi : i < n
  · rw [List.getElem?_range hi] at hd
    cases hd
    exact ⟨.refl _, rep_int⟩
  · rw [List.getElem?_eq_none (by simpa using hi)] at hd
    cases hd
/-- enumerate -/
def enumD (ds : List D) : List D := (List.range ds.length).zipWith (fun (i : Nat) d => .nd .tup [.int (i : Int), d]) ds
theorem enumD_get {ds : List D} {i : Nat} {e : D} (h : (enumD ds)[i]? = some e) : ∃ d, ds[i]? = some d ∧ e = .nd .tup [.int (i : Int), d] := by
  unfold enumD at h
  rw [List.getElem?_zipWith] at h
  cases q : ds[i]? with
  | none => rw [q] at h; cases q2 : (List.range ds.length)[i]? <;> rw [q2] at h <;> cases h
  | some d =>
    have hi : i < ds.length := (List.getElem?_eq_some_iff.mp q).1
    rw [q, List.getElem?_range hi] at h
    cases h
    exact ⟨d, rfl, rfl⟩
theorem walk_enum {a : Addr} {vs : List V} {ds : List D} {Gs : List (List Addr)} (h : Rd H a (.lst vs)) (n : a ∉ O) (s : Safe H O Z) (r : RepL K cm H Z ds vs Gs) (e : Gs.flatten = []) : Walks K cm (Ite K a) H O Z (enumD ds) := by
  have len := r.len.1
  have len2 : (enumD ds).length = ds.length := by unfold enumD; simp
  refine ⟨fun i H2 k l => ⟨vs, vs[i]'(by omega), rdL (k.rd n h), by simp⟩, fun i H2 k l => ⟨vs, rdL (k.rd n h), by omega⟩, fun i H2 x H3 k y d hd => ?_⟩
  obtain ⟨T, x, rfl, hT, rfl, y⟩ := y
  obtain ⟨d0, hd0, rfl⟩ := enumD_get hd
  obtain ⟨v, F, e1, e2, e3⟩ := r.get hd0
  have e4 := y vs (rdL (k.rd n h))
  rw [e1] at e4
  cases e4
  have eF : F = [] := List.eq_nil_iff_forall_not_mem.mpr fun z hz => by
    have := flat_mem e2 hz
    rw [e] at this; cases this
  subst eF
  have g : Grow H2 (upd H2 T (.tup [.int (i : Nat), x])) := .new hT
  refine ⟨g, ⟨T, _, [[], []], rfl, SqT.of upd_same, repL_cons rep_int (repL_cons ?_ repL_nil), rfl⟩⟩
  exact (s.kept k e3).grow g (fun _ h => h) (fun _ h => h) (fun _ h => h)
/-- zip -/
def zipD (ds es : List D) : List D := ds.zipWith (fun a b => .nd .tup [a, b]) es
theorem zipD_get {ds es : List D} {i : Nat} {e : D} (h : (zipD ds es)[i]? = some e) : ∃ d d', ds[i]? = some d ∧ es[i]? = some d' ∧ e = .nd .tup [d, d'] := by
  unfold zipD at h
  rw [List.getElem?_zipWith] at h
  cases q : ds[i]? with
  | none => rw [q] at h; cases q2 : es[i]? <;> rw [q2] at h <;> cases h
  | some d =>
    cases q2 : es[i]? with
    | none => rw [q, q2] at h; cases h
    | some d' => rw [q, q2] at h; cases h; exact ⟨d, d', rfl, rfl, rfl⟩
theorem walk_zip {a b : Addr} {vs us : List V} {ds es : List D} {Gs Ms : List (List Addr)} (h : Rd H a (.lst vs)) (h' : Rd H b (.lst us)) (n : a ∉ O) (n' : b ∉ O) (s : Safe H O Z) (r : RepL K cm H Z ds vs Gs) (r' : RepL K cm H Z es us Ms) (e : Gs.flatten = []) (e' : Ms.flatten = []) :
    Walks K cm (Itz K a b) H O Z (zipD ds es) := by
  have len := r.len.1
  have len' := r'.len.1
  have len2 : (zipD ds es).length = min ds.length es.length := by unfold zipD; simp
  have nilOf : ∀ {Gs : List (List Addr)} {F : List Addr} {i : Nat}, Gs.flatten = [] → Gs[i]? = some F → F = [] := fun {Gs F i} e e2 => List.eq_nil_iff_forall_not_mem.mpr fun z hz => by
    have := flat_mem e2 hz
    rw [e] at this; cases this
  refine ⟨fun i H2 k l => ⟨vs, us, vs[i]'(by omega), us[i]'(by omega), rdL (k.rd n h), rdL (k.rd n' h'), by simp, by simp⟩, fun i H2 k l => ⟨vs, us, rdL (k.rd n h), rdL (k.rd n' h'), by omega⟩, fun i H2 x H3 k y d hd => ?_⟩
  obtain ⟨T, x, x', rfl, hT, rfl, y, y'⟩ := y
  obtain ⟨d0, d1, hd0, hd1, rfl⟩ := zipD_get hd
  obtain ⟨v, F, e1, e2, e3⟩ := r.get hd0
  obtain ⟨v', F', e1', e2', e3'⟩ := r'.get hd1
  have e4 := y vs (rdL (k.rd n h))
  have e4' := y' us (rdL (k.rd n' h'))
  rw [e1] at e4
  rw [e1'] at e4'
  cases e4
  cases e4'
  have eF := nilOf e e2
  have eF' := nilOf e' e2'
  subst eF eF'
  have g : Grow H2 (upd H2 T (.tup [x, x'])) := .new hT
  refine ⟨g, ⟨T, _, [[], []], rfl, SqT.of upd_same, repL_cons ?_ (repL_cons ?_ repL_nil), rfl⟩⟩
  · exact (s.kept k e3).grow g (fun _ h => h) (fun _ h => h) (fun _ h => h)
  · exact (s.kept k e3').grow g (fun _ h => h) (fun _ h => h) (fun _ h => h)
/-- reversed -/
theorem walk_rev {a : Addr} {vs : List V} {ds : List D} {Gs : List (List Addr)} (h : Rd H a (.lst vs)) (n : a ∉ O) (s : Safe H O Z) (r : RepL K cm H Z ds vs Gs) (e : Gs.flatten = []) : Walks K cm (Itv K a vs.length) H O Z ds.reverse := by
  have len := r.len.1
  refine ⟨fun i H2 k l => ⟨by simpa [len] using l, vs, vs[vs.length - 1 - i]'(by simp at l; omega), rdL (k.rd n h), by simp⟩, fun i H2 k l => (show vs.length ≤ i by simpa [len] using l), fun i H2 x H3 k y d hd => ?_⟩
  obtain ⟨rfl, y⟩ := y
  have hi : i < ds.length := by
    have := (List.getElem?_eq_some_iff.mp hd).1
    simpa using this
  rw [List.getElem?_reverse hi] at hd
  obtain ⟨v, F, e1, e2, e3⟩ := r.get hd
  have e4 := y vs (rdL (k.rd n h))
  rw [len] at e4
  rw [e1] at e4
  cases e4
  have eF : F = [] := List.eq_nil_iff_forall_not_mem.mpr fun z hz => by
    have := flat_mem e2 hz
    rw [e] at this; cases this
  subst eF
  exact ⟨.refl _, s.kept k e3⟩
end
/-! ### a sequence's value, ready to be walked: what is new in it is frozen -/
def noTK : Kd → Bool
  | .lst f => f != .tmp
  | .dct f _ => f != .tmp
  | .obj f _ _ => f != .tmp
  | .tup => true
section
variable {K : PySem.W.Frag} {cm : Cm} {H H1 : Hp} {Z Z1 : Zn}
/-- the frozen view -/
def frzZ (Z1 : Zn) (F : List Addr) : Zn := ⟨fun a => Z1.f a ∨ a ∈ F, Z1.b, Z1.t⟩
theorem Res.frzExt {d : D} {v : V} {F : List Addr} (r : Res K cm H Z H1 Z1 [] d v F) : Ext H Z H1 (frzZ Z1 F) := by
  have hm := Rep.mut d r.rep
  exact ⟨r.ext.gr, fun a h => .inl (r.ext.f a h), fun a h => h.elim (r.ext.fn a) fun q => .inr (r.new a q), fun a h => h.elim (r.ext.fd a) fun q => mut_ne (hm a q), r.ext.b, r.ext.t⟩
theorem RepL.frz {F : List Addr} {ds : List D} {vs : List V} {Fs : List (List Addr)} (r : RepL K cm H Z1 ds vs Fs) (hF : ∀ a ∈ Fs.flatten, a ∈ F) : ∃ Gs, Gs.flatten = [] ∧ RepL K cm H (frzZ Z1 F) (ds.map toFrz) vs Gs := by
  obtain ⟨Gs, a, b⟩ := RepL.give (g := Fl.toFrz) (O := fun a => a ∈ F) (Z' := frzZ Z1 F) (cell_flag (fun a ha f ef _ => by subst ef; exact .inr ha) (fun a f hf hz => by cases f with
      | own => exact absurd rfl hf
      | frz => exact .inl hz
      | _ => exact hz) (fun f e z => by subst z; exact e rfl)) (fun f e => by cases f <;> cases e) ds r fun a h => hF a h
  rw [mapFL_eq] at b
  exact ⟨Gs, a, b⟩
theorem noT_frz : ∀ {ds : List D}, ds.all noT = true → allFL (fun f => f != .tmp) (ds.map toFrz) = true
  | [], _ => rfl
  | d :: ds, h => by
    rw [List.all_cons, Bool.and_eq_true] at h
    rw [List.map_cons, allFL, noT_frz h.2, Bool.and_true]
    exact allF_mapF (p := fun f => f != .tmp) (fun f hf => by cases f <;> first | rfl | exact hf) d h.1

end
/-! ### the rules for what is walked -/
theorem allF_or {p : Fl → Bool} {Z Z' : Zn} (h : ∀ a f, p f = true → Z.ok a f → Z'.ok a f) : True := trivial
section
variable {X : Cx} {cm : Cm} {W : WX} {tg e e2 : Expr} {f g : En → Ot D} {p pos : Pos}
/-- a list's value, about to be walked -/
theorem seq_ready {K : PySem.W.Frag} {H H1 : Hp} {Z Z1 : Zn} {v : V} {F : List Addr} {fl : Fl} {ds : List D} (r : Res K cm H Z H1 Z1 [] (.nd (.lst fl) ds) v F) : ∃ a vs Gs, v = .ref a ∧ Rd H1 a (.lst vs) ∧ Gs.flatten = [] ∧ RepL K cm H1 (frzZ Z1 F) (ds.map toFrz) vs Gs ∧
    Ext H Z H1 (frzZ Z1 F) ∧ ∀ O t', (fl != .tmp && ds.all noT) = true ∨ t' = (frzZ Z1 F).t → Safe H1 O ⟨(frzZ Z1 F).f, (frzZ Z1 F).b, t'⟩ → a ∉ O ∧ RepL K cm H1 ⟨(frzZ Z1 F).f, (frzZ Z1 F).b, t'⟩ (ds.map toFrz) vs Gs := by
  have ext := r.frzExt
  obtain ⟨a, vs, Fs, rfl, hc, hl, rfl⟩ := r.rep
  obtain ⟨Gs, e1, e2⟩ := hl.frz (F := ownA (.lst fl) a ++ Fs.flatten) fun x hx => List.mem_append_right _ hx
  refine ⟨a, vs, Gs, rfl, hc.2.1, e1, e2, ext, fun O t' ht s => ⟨fun ha => ?_, ?_⟩⟩
  · obtain ⟨_, n1, n2, n3⟩ := s a ha
    cases fl with
    | own => exact n1 (.inr (List.mem_append_left _ (by simp [ownA, Kd.isOwn, Kd.fl])))
    | frz => exact n1 (.inl hc.2.2)
    | bor => exact n2 hc.2.2
    | tmp =>
      rcases ht with ht | ht
      · cases ht
      · rw [ht] at n3; exact n3 hc.2.2
  · rcases ht with ht | ht
    · rw [Bool.and_eq_true] at ht
      refine RepL.only (pf := fun f => f != .tmp) (fun a f hf hz => ?_) _ e2 (noT_frz ht.2)
      cases f with
      | tmp => cases hf
      | _ => exact hz
    · rw [ht]; exact e2
theorem tup_ready {K : PySem.W.Frag} {H H1 : Hp} {Z Z1 : Zn} {v : V} {F : List Addr} {ds : List D} (r : Res K cm H Z H1 Z1 [] (.nd .tup ds) v F) : ∃ a vs Gs, v = .ref a ∧ SqT K H1 a vs ∧ Gs.flatten = [] ∧ RepL K cm H1 (frzZ Z1 F) (ds.map toFrz) vs Gs ∧
    Ext H Z H1 (frzZ Z1 F) ∧ ∀ O t', (ds.all noT) = true ∨ t' = (frzZ Z1 F).t → Safe H1 O ⟨(frzZ Z1 F).f, (frzZ Z1 F).b, t'⟩ → RepL K cm H1 ⟨(frzZ Z1 F).f, (frzZ Z1 F).b, t'⟩ (ds.map toFrz) vs Gs := by
  have ext := r.frzExt
  obtain ⟨a, vs, Fs, rfl, hc, hl, rfl⟩ := r.rep
  obtain ⟨Gs, e1, e2⟩ := hl.frz (F := ownA .tup a ++ Fs.flatten) fun x hx => List.mem_append_right _ hx
  refine ⟨a, vs, Gs, rfl, hc, e1, e2, ext, fun O t' ht s => ?_⟩
  rcases ht with ht | ht
  · refine RepL.only (pf := fun f => f != .tmp) (fun a f hf hz => ?_) _ e2 (noT_frz ht)
    cases f with
    | tmp => cases hf
    | _ => exact hz
  · rw [ht]; exact e2
theorem si_val (he : SE X cm W e f) : SI X cm W tg e (itV f) := PI.imp (PI.or (pi_list he) (PI.or (pi_tup he) (pi_str he))) fun σ H R q0 => by
  obtain ⟨Z, ρ, Fs, ok, q0⟩ := q0
  unfold itV at q0
  cases q : f ρ with
  | no => rw [q] at q0; exact q0.elim
  | ex x =>
    rw [q] at q0
    exact .inl ⟨Z, ρ, Fs, ok, by rw [q]; exact q0⟩
  | ok d =>
    rw [q, Ot.bind_ok] at q0
    cases q2 : itemsD d with
    | none => rw [q2] at q0; exact q0.elim
    | some it =>
      rw [q2, Ot.of_some] at q0
      unfold itemsD at q2
      split at q2
      · rename_i fl ds
        cases q2
        refine .inl ⟨Z, ρ, Fs, ok, ?_⟩
        rw [q]
        intro v H1 Z1 F r1
        obtain ⟨a, vs, Gs, rfl, h1, h2, h3, h4, h5⟩ := seq_ready r1
        exact ⟨a, rfl, ⟨vs, rdL h1⟩, q0 _ H1 _ h4 fun O t' ht s => walk_list h1 (h5 O t' ht s).1 s (h5 O t' ht s).2 h2⟩
      · rename_i ds
        cases q2
        refine .inr (.inl ⟨Z, ρ, Fs, ok, ?_⟩)
        rw [q]
        intro v H1 Z1 F r1
        obtain ⟨a, vs, Gs, rfl, h1, h2, h3, h4, h5⟩ := tup_ready r1
        exact ⟨a, rfl, ⟨vs, h1⟩, q0 _ H1 _ h4 fun O t' ht s => walk_tup h1 s (h5 O t' ht s) h2⟩
      · rename_i x
        cases q2
        refine .inr (.inr ⟨Z, ρ, Fs, ok, ?_⟩)
        rw [q]
        intro v H1 Z1 F r1
        obtain ⟨rfl, rfl⟩ := r1.rep
        exact ⟨x, rfl, q0 _ H1 Z1 r1.ext fun O t' _ _ => walk_str⟩
      · cases q2
/-- range -/
def rngOk (i : Int) : Bool := decide (-(2 ^ 62) ≤ i) && decide (i < 2 ^ 62)
def rngD (lo hi : Int) : List D := (List.range (hi - lo).toNat).map fun i : Nat => .int (lo + (i : Int))
def itR1 (fs : List (En → Ot D)) : En → Ot Its' := fun ρ => (eL fs ρ).bind fun ds => match ds with
  | [.int j] => if rngOk j then .ok (rngD 0 j, true) else .no
  | _ => .no
def itR2 (fs : List (En → Ot D)) : En → Ot Its' := fun ρ => (eL fs ρ).bind fun ds => match ds with
  | [.int i, .int j] => if rngOk i && rngOk j then .ok (rngD i j, true) else .no
  | _ => .no
theorem rng_ok {i : Int} (h : rngOk i = true) : -(2 ^ 62) ≤ i ∧ i < 2 ^ 62 := by
  unfold rngOk at h
  rw [Bool.and_eq_true] at h
  exact ⟨of_decide_eq_true h.1, of_decide_eq_true h.2⟩
theorem si_r1 (hg : Gl X "range") (hm : X.mg "range" = none) (ha : SA X cm W [e] (eL [f])) (hs : starEach [e] X.env = [(false, eval e X.env)] := by rfl) : SI X cm W tg (.Call (.Name "range" p) [e] [] pos) (itR1 [f]) := PI.imp (pi_range1 hg hm ha hs) fun σ H R q0 => by
  obtain ⟨Z, ρ, Fs, ok, q0⟩ := q0
  unfold itR1 at q0
  refine ⟨Z, ρ, Fs, ok, ?_⟩
  cases q : eL [f] ρ with
  | no => rw [q] at q0; exact q0
  | ex x => rw [q] at q0; exact q0
  | ok ds =>
    rw [q, Ot.bind_ok] at q0
    intro vs H1 Z1 Gs r1
    split at q0
    · rename_i j
      split at q0
      · rename_i hj
        obtain ⟨v, F, rfl, rfl, ⟨rfl, rfl⟩⟩ := repL1 r1.rep
        obtain ⟨a, b⟩ := rng_ok hj
        refine ⟨j, rfl, a, b, q0 _ H1 Z1 r1.ext fun O t' _ _ => ?_⟩
        have := walk_rng (K := X.K) (cm := cm) (H := H1) (O := O) (Z := ⟨Z1.f, Z1.b, t'⟩) (lo := 0) (n := j.toNat)
        unfold rngD
        rw [Int.sub_zero]
        exact this
      · exact q0.elim
    · exact q0.elim
theorem si_r2 (hg : Gl X "range") (hm : X.mg "range" = none) (ha : SA X cm W [e, e2] (eL [f, g])) (hs : starEach [e, e2] X.env = [(false, eval e X.env), (false, eval e2 X.env)] := by rfl) (hs2 : starEach [e2] X.env = [(false, eval e2 X.env)] := by rfl) : SI X cm W tg (.Call (.Name "range" p) [e, e2] [] pos) (itR2 [f, g]) := PI.imp (pi_range2 hg hm ha hs hs2) fun σ H R q0 => by
  obtain ⟨Z, ρ, Fs, ok, q0⟩ := q0
  unfold itR2 at q0
  refine ⟨Z, ρ, Fs, ok, ?_⟩
  cases q : eL [f, g] ρ with
  | no => rw [q] at q0; exact q0
  | ex x => rw [q] at q0; exact q0
  | ok ds =>
    rw [q, Ot.bind_ok] at q0
    intro vs H1 Z1 Gs r1
    split at q0
    · rename_i i j
      split at q0
      · rename_i hj
        rw [Bool.and_eq_true] at hj
        obtain ⟨v, u, F, G, rfl, rfl, ⟨rfl, rfl⟩, ⟨rfl, rfl⟩⟩ := repL2 r1.rep
        obtain ⟨a, b⟩ := rng_ok hj.1
        obtain ⟨a', b'⟩ := rng_ok hj.2
        exact ⟨i, j, rfl, ⟨a, b, a', b'⟩, q0 _ H1 Z1 r1.ext fun O t' _ _ => walk_rng⟩
      · exact q0.elim
    · exact q0.elim
/-- enumerate(list), reversed(list) -/
def listOf : List D → Option Its'
  | [.nd (.lst fl) ds] => some (ds.map toFrz, fl != .tmp && ds.all noT)
  | _ => none
def itEnum (fs : List (En → Ot D)) : En → Ot Its' := fun ρ => (eL fs ρ).bind fun ds => .of ((listOf ds).map fun p => (enumD p.1, p.2))
def itRev (fs : List (En → Ot D)) : En → Ot Its' := fun ρ => (eL fs ρ).bind fun ds => .of ((listOf ds).map fun p => (p.1.reverse, p.2))
theorem ResL.one {K : PySem.W.Frag} {H H1 : Hp} {Z Z1 : Zn} {d : D} {vs : List V} {Fs : List (List Addr)} (r : ResL K cm H Z H1 Z1 [] [d] vs Fs) : ∃ v F, vs = [v] ∧ Res K cm H Z H1 Z1 [] d v F := by
  obtain ⟨v, F, rfl, rfl, h⟩ := repL1 r.rep
  exact ⟨v, F, rfl, r.ext, h, by simpa using r.nd, by simpa using r.fr, by simpa using r.nf⟩
theorem ResL.two {K : PySem.W.Frag} {H H1 : Hp} {Z Z1 : Zn} {d e : D} {vs : List V} {Fs : List (List Addr)} (r : ResL K cm H Z H1 Z1 [] [d, e] vs Fs) : ∃ v u F G, vs = [v, u] ∧ Fs = [F, G] ∧ Rep K cm H1 Z1 d v F ∧ Rep K cm H1 Z1 e u G := by
  obtain ⟨v, u, F, G, rfl, rfl, h, h'⟩ := repL2 r.rep
  exact ⟨v, u, F, G, rfl, rfl, h, h'⟩
theorem si_enum {elts : List Expr} {kk : Nat} {tpos : Pos} (hg : Gl X "enumerate") (hm : X.mg "enumerate" = none) (ha : SA X cm W [e] (eL [f])) (hs : starEach [e] X.env = [(false, eval e X.env)] := by rfl) :
    SI X cm W (.Tuple elts kk tpos) (.Call (.Name "enumerate" p) [e] [] pos) (itEnum [f]) := PI.imp (pi_enum hg hm ha hs) fun σ H R q0 => by
  obtain ⟨Z, ρ, Fs, ok, q0⟩ := q0
  unfold itEnum at q0
  refine ⟨Z, ρ, Fs, ok, ?_⟩
  cases q : eL [f] ρ with
  | no => rw [q] at q0; exact q0
  | ex x => rw [q] at q0; exact q0
  | ok ds =>
    rw [q, Ot.bind_ok] at q0
    intro vs H1 Z1 Gs r1
    cases q2 : listOf ds with
    | none => rw [q2] at q0; exact q0.elim
    | some it =>
      rw [q2] at q0
      unfold listOf at q2
      split at q2
      · rename_i fl ds'
        cases q2
        obtain ⟨v, F, rfl, r2⟩ := r1.one
        obtain ⟨a, us, Ms, rfl, h1, h2, h3, h4, h5⟩ := seq_ready r2
        exact ⟨a, us, rfl, rdL h1, q0 _ H1 _ h4 fun O t' ht s => walk_enum h1 (h5 O t' ht s).1 s (h5 O t' ht s).2 h2⟩
      · cases q2
theorem si_rev (hg : Gl X "reversed") (hm : X.mg "reversed" = none) (ha : SA X cm W [e] (eL [f])) (hs : starEach [e] X.env = [(false, eval e X.env)] := by rfl) :
    SI X cm W tg (.Call (.Name "reversed" p) [e] [] pos) (itRev [f]) := PI.imp (pi_reversed hg hm ha hs) fun σ H R q0 => by
  obtain ⟨Z, ρ, Fs, ok, q0⟩ := q0
  unfold itRev at q0
  refine ⟨Z, ρ, Fs, ok, ?_⟩
  cases q : eL [f] ρ with
  | no => rw [q] at q0; exact q0
  | ex x => rw [q] at q0; exact q0
  | ok ds =>
    rw [q, Ot.bind_ok] at q0
    intro vs H1 Z1 Gs r1
    cases q2 : listOf ds with
    | none => rw [q2] at q0; exact q0.elim
    | some it =>
      rw [q2] at q0
      unfold listOf at q2
      split at q2
      · rename_i fl ds'
        cases q2
        obtain ⟨v, F, rfl, r2⟩ := r1.one
        obtain ⟨a, us, Ms, rfl, h1, h2, h3, h4, h5⟩ := seq_ready r2
        exact ⟨a, us, rfl, rdL h1, q0 _ H1 _ h4 fun O t' ht s => walk_rev h1 (h5 O t' ht s).1 s (h5 O t' ht s).2 h2⟩
      · cases q2
end
end OB

namespace OB
open PySem PySem.Spec PyProof.Rows L2

section
variable {X : Cx} {cm : Cm} {W : WX} {tg e e2 : Expr} {f g : En → Ot D} {p pos : Pos}
def itZip (fs : List (En → Ot D)) : En → Ot Its' := fun ρ => (eL fs ρ).bind fun ds => match ds with
  | [.nd (.lst fl) ds, .nd (.lst fl') es] => .ok (zipD (ds.map toFrz) (es.map toFrz), (fl != .tmp && ds.all noT) && (fl' != .tmp && es.all noT))
  | _ => .no
theorem si_zip {elts : List Expr} {kk : Nat} {tpos : Pos} (hg : Gl X "zip") (hm : X.mg "zip" = none) (ha : SA X cm W [e, e2] (eL [f, g]))
    (hs : starEach [e, e2] X.env = (false, eval e X.env) :: starEach [e2] X.env := by rfl) (hpl : (backTo pos (starEach [e2] X.env)).any (·.1) = false := by rfl) :
    SI X cm W (.Tuple elts kk tpos) (.Call (.Name "zip" p) [e, e2] [] pos) (itZip [f, g]) := PI.imp (pi_zip hg hm ha hs hpl) fun σ H R q0 => by
  obtain ⟨Z, ρ, Fs, ok, q0⟩ := q0
  unfold itZip at q0
  refine ⟨Z, ρ, Fs, ok, ?_⟩
  cases q : eL [f, g] ρ with
  | no => rw [q] at q0; exact q0
  | ex x => rw [q] at q0; exact q0
  | ok ds0 =>
    rw [q, Ot.bind_ok] at q0
    intro vs H1 Z1 Gs r1
    split at q0
    · rename_i fl ds fl' es
      have hm := RepL.mut _ r1.rep
      obtain ⟨v, u, F, G, rfl, rfl, ⟨a, us, Ms, rfl, hc, hl, rfl⟩, ⟨b, ws, Ns, rfl, hc', hl', rfl⟩⟩ := repL2 r1.rep
      let A := [ownA (.lst fl) a ++ Ms.flatten, ownA (.lst fl') b ++ Ns.flatten].flatten
      have hA : A = (ownA (.lst fl) a ++ Ms.flatten) ++ (ownA (.lst fl') b ++ Ns.flatten) := by simp [A]
      have ext : Ext H Z H1 (frzZ Z1 A) := ⟨r1.ext.gr, fun a h => .inl (r1.ext.f a h), fun a h => h.elim (r1.ext.fn a) fun q => .inr (r1.new a q), fun a h => h.elim (r1.ext.fd a) fun q => mut_ne (hm a q), r1.ext.b, r1.ext.t⟩
      obtain ⟨Gs1, e1, r2⟩ := hl.frz (F := A) fun x hx => by rw [hA]; exact List.mem_append_left _ (List.mem_append_right _ hx)
      obtain ⟨Gs2, e2, r3⟩ := hl'.frz (F := A) fun x hx => by rw [hA]; exact List.mem_append_right _ (List.mem_append_right _ hx)
      have nin : ∀ {fl : Fl} {a : Addr} {vs : List V} {ds : List D} (hc : Cell X.K cm H1 Z1 a (.lst fl) vs) (hAa : fl = .own → a ∈ A) (O : List Addr) (t' : Addr → Prop), ((fl != .tmp && ds.all noT) = true ∨ t' = (frzZ Z1 A).t) → Safe H1 O ⟨(frzZ Z1 A).f, (frzZ Z1 A).b, t'⟩ → a ∉ O := fun {fl a vs ds} hc hAa O t' ht s ha => by
        obtain ⟨_, n1, n2, n3⟩ := s a ha
        cases fl with
        | own => exact n1 (.inr (hAa rfl))
        | frz => exact n1 (.inl hc.2.2)
        | bor => exact n2 hc.2.2
        | tmp =>
          rcases ht with ht | ht
          · cases ht
          · rw [ht] at n3; exact n3 hc.2.2
      have conv : ∀ {fl : Fl} {ds : List D} {vs : List V} {Gs : List (List Addr)} (r : RepL X.K cm H1 (frzZ Z1 A) (ds.map toFrz) vs Gs) (t' : Addr → Prop), ((fl != .tmp && ds.all noT) = true ∨ t' = (frzZ Z1 A).t) → RepL X.K cm H1 ⟨(frzZ Z1 A).f, (frzZ Z1 A).b, t'⟩ (ds.map toFrz) vs Gs := fun {fl ds vs Gs} r t' ht => by
        rcases ht with ht | ht
        · rw [Bool.and_eq_true] at ht
          refine RepL.only (pf := fun f => f != .tmp) (fun a f hf hz => ?_) _ r (noT_frz ht.2)
          cases f with
          | tmp => cases hf
          | _ => exact hz
        · rw [ht]; exact r
      refine ⟨a, b, us, ws, rfl, rdL hc.2.1, rdL hc'.2.1, q0 _ H1 _ ext fun O t' ht s => ?_⟩
      have h1 : (fl != .tmp && ds.all noT) = true ∨ t' = (frzZ Z1 A).t := ht.elim (fun q => .inl (by
        have q : ((fl != .tmp && ds.all noT) && (fl' != .tmp && es.all noT)) = true := q
        rw [Bool.and_eq_true] at q; exact q.1)) .inr
      have h2 : (fl' != .tmp && es.all noT) = true ∨ t' = (frzZ Z1 A).t := ht.elim (fun q => .inl (by
        have q : ((fl != .tmp && ds.all noT) && (fl' != .tmp && es.all noT)) = true := q
        rw [Bool.and_eq_true] at q; exact q.2)) .inr
      exact walk_zip hc.2.1 hc'.2.1 (nin (ds := ds) hc (fun e => by rw [hA]; subst e; simp [ownA, Kd.isOwn, Kd.fl]) O t' h1 s) (nin (ds := es) hc' (fun e => by rw [hA]; subst e; simp [ownA, Kd.isOwn, Kd.fl]) O t' h2 s) s (conv r2 t' h1) (conv r3 t' h2) e1 e2
    · exact q0.elim
end

/-! ### targets -/
theorem RepE.set {K : PySem.W.Frag} {cm : Cm} {H : Hp} {Z : Zn} {σ : L2.St} {ρ : En} {Fs : List (List Addr)} (r : RepE K cm H Z σ ρ Fs) (i : Nat) {d : D} {v : V} {F : List Addr} (h : Rep K cm H Z d v F) : RepE K cm H Z (σ.set i (some v)) (ρ.set i (some d)) (Fs.set i F) := by
  refine ⟨by simp [r.lσ], by simp [r.lF], fun j e q => ?_⟩
  have l1 := r.lσ
  have l2 := r.lF
  by_cases hj : i = j
  · subst hj
    by_cases hi : i < ρ.length
    · rw [List.getElem?_set_self hi] at q
      cases q
      exact ⟨v, F, List.getElem?_set_self (by omega), List.getElem?_set_self (by omega), h⟩
    · rw [List.getElem?_eq_none (by simpa using hi)] at q
      cases q
  · rw [List.getElem?_set_ne hj] at q ⊢
    rw [List.getElem?_set_ne hj]
    exact r.get j e q
theorem wipe_set {σ : L2.St} {i : Nat} {x : Option V} : ∀ {vs : List Nat}, i ∈ vs → wipe (σ.set i x) vs = wipe σ vs
  | [], h => nomatch h
  | v :: vs, h => by
    have sub : ∀ (vs : List Nat), i ∉ vs → wipe (σ.set i x) vs = (wipe σ vs).set i x := by
      intro vs
      induction vs with
      | nil => intro _; rfl
      | cons w vs ih =>
        intro h
        have h1 : i ≠ w := fun e => h (by simp [e])
        have h2 : i ∉ vs := fun e => h (by simp [e])
        unfold wipe
        rw [ih h2, List.set_comm _ _ h1]
    unfold wipe
    by_cases hv : i ∈ vs
    · rw [wipe_set hv]
    · have e : i = v := by
        rcases List.mem_cons.mp h with e | e
        · exact e
        · exact absurd e hv
      subst e
      rw [sub vs hv, List.set_set]
theorem wipe_in {σ : L2.St} {i : Nat} : ∀ {vs : List Nat}, i ∈ vs → (wipe σ vs).set i none = wipe σ vs
  | [], h => nomatch h
  | v :: vs, h => by
    unfold wipe
    by_cases e : i = v
    · subst e; rw [List.set_set]
    · have hv : i ∈ vs := by
        rcases List.mem_cons.mp h with e' | e'
        · exact absurd e' e
        · exact e'
      rw [List.set_comm _ _ (fun q => e q.symm), wipe_in hv]
theorem wipe_wipe {σ : L2.St} : ∀ {vs ws : List Nat}, (∀ i ∈ vs, i ∈ ws) → wipe (wipe σ ws) vs = wipe σ ws
  | [], _, _ => rfl
  | v :: vs, ws, h => by
    show (wipe (wipe σ ws) vs).set v none = wipe σ ws
    rw [wipe_wipe (fun i hi => h i (List.mem_cons_of_mem _ hi)), wipe_in (h v List.mem_cons_self)]
/-- a target keeps the relation, and stores at S alone -/
def OkTg (K : PySem.W.Frag) (cm : Cm) (S : List Nat) (g : TG) (t : D → En → Option En) : Prop := ∀ H Z d v σ ρ Fs ρ1, Rep K cm H Z d v [] → RepE K cm H Z σ ρ Fs → t d ρ = some ρ1 →
  ∀ Q : L2.St → Hp → Prop, (∀ σ1 Fs1, RepE K cm H Z σ1 ρ1 Fs1 → Fs1.flatten.Sublist Fs.flatten → (∀ vs, (∀ i ∈ S, i ∈ vs) → wipe σ1 vs = wipe σ vs) → (∀ i, i ∉ S → σ1[i]? = σ[i]?) → Q σ1 H) → g v σ H Q
def tgName (i : Nat) : D → En → Option En := fun d ρ => some (ρ.set i (some d))
theorem set_nil_sub : ∀ (Fs : List (List Addr)) (i : Nat), (Fs.set i []).flatten.Sublist Fs.flatten
  | [], _ => List.Sublist.refl _
  | F :: Fs, 0 => by rw [List.set_cons_zero, List.flatten_cons, List.flatten_cons]; exact (List.nil_sublist F).append (List.Sublist.refl _)
  | F :: Fs, i + 1 => by rw [List.set_cons_succ, List.flatten_cons, List.flatten_cons]; exact (List.Sublist.refl _).append (set_nil_sub Fs i)
theorem okTg_name {K : PySem.W.Frag} {cm : Cm} {i : Nat} : OkTg K cm [i] (gName i) (tgName i) := by
  intro H Z d v σ ρ Fs ρ1 hd hr e Q q
  cases e
  exact q _ _ (hr.set i hd) (set_nil_sub _ _) (fun vs h => wipe_set (h i (by simp))) (fun j hj => List.getElem?_set_ne (fun e => hj (by simp [e])))
/-- the parts of a tuple, one by one -/
def tgs : List (D → En → Option En) → List D → En → Option En
  | [], [], ρ => some ρ
  | t :: ts, d :: ds, ρ => (t d ρ).bind fun ρ1 => tgs ts ds ρ1
  | _, _, _ => none
def tgTup (ts : List (D → En → Option En)) : D → En → Option En := fun d ρ => match d with
  | .nd .tup ds => tgs ts ds ρ
  | _ => none
def OkTgs (K : PySem.W.Frag) (cm : Cm) (S : List Nat) (g : TGs) (t : List D → En → Option En) : Prop := ∀ H Z ds vs Gs σ ρ Fs ρ1, RepL K cm H Z ds vs Gs → Gs.flatten = [] → RepE K cm H Z σ ρ Fs → t ds ρ = some ρ1 →
  ∀ Q : L2.St → Hp → Prop, (∀ σ1 Fs1, RepE K cm H Z σ1 ρ1 Fs1 → Fs1.flatten.Sublist Fs.flatten → (∀ vs, (∀ i ∈ S, i ∈ vs) → wipe σ1 vs = wipe σ vs) → (∀ i, i ∉ S → σ1[i]? = σ[i]?) → Q σ1 H) → g vs σ H Q
theorem tgs_len : ∀ {ts : List (D → En → Option En)} {ds : List D} {ρ ρ1 : En}, tgs ts ds ρ = some ρ1 → ds.length = ts.length
  | [], [], _, _, _ => rfl
  | [], _ :: _, _, _, e => nomatch e
  | _ :: _, [], _, _, e => nomatch e
  | t :: ts, d :: ds, ρ, ρ1, e => by
    unfold tgs at e
    cases q1 : t d ρ with
    | none => rw [q1] at e; cases e
    | some ρ2 =>
      rw [q1] at e
      have e : tgs ts ds ρ2 = some ρ1 := e
      simp [tgs_len e]
theorem okTgs_nil {K : PySem.W.Frag} {cm : Cm} : OkTgs K cm [] gNil (tgs []) := by
  intro H Z ds vs Gs σ ρ Fs ρ1 hd _ hr e Q q
  cases ds with
  | nil => cases e; exact ⟨hd.1, q σ Fs hr (List.Sublist.refl _) (fun _ _ => rfl) fun _ _ => rfl⟩
  | cons d ds => cases e
theorem okTgs_cons {K : PySem.W.Frag} {cm : Cm} {S S' : List Nat} {g : TG} {gs : TGs} {t : D → En → Option En} {ts : List (D → En → Option En)} (h : OkTg K cm S g t) (hs : OkTgs K cm S' gs (tgs ts)) : OkTgs K cm (S ++ S') (gCons g gs) (tgs (t :: ts)) := by
  intro H Z ds vs Gs σ ρ Fs ρ1 hd hG hr e Q q
  cases ds with
  | nil => cases e
  | cons d ds =>
    obtain ⟨v, vs', F, Gs', rfl, rfl, h1, h2⟩ := hd
    rw [List.flatten_cons] at hG
    obtain ⟨eF, eG⟩ := List.append_eq_nil_iff.mp hG
    subst eF
    unfold tgs at e
    cases q1 : t d ρ with
    | none => rw [q1] at e; cases e
    | some ρ2 =>
      rw [q1] at e
      have e : tgs ts ds ρ2 = some ρ1 := e
      refine ⟨v, vs', rfl, ?_⟩
      refine h H Z d v σ ρ Fs ρ2 h1 hr q1 _ fun σ1 Fs1 r1 sb w1 k1 => ?_
      refine hs H Z ds vs' Gs' σ1 ρ2 Fs1 ρ1 h2 eG r1 e Q fun σ2 Fs2 r2 sb2 w2 k2 => q σ2 Fs2 r2 (sb2.trans sb) (fun vs hv => (w2 vs fun i hi => hv i (List.mem_append_right _ hi)).trans (w1 vs fun i hi => hv i (List.mem_append_left _ hi))) fun i hi => (k2 i fun z => hi (List.mem_append_right _ z)).trans (k1 i fun z => hi (List.mem_append_left _ z))
theorem okTg_tup {K : PySem.W.Frag} {cm : Cm} {S : List Nat} {gs : TGs} {ts : List (D → En → Option En)} {n : Nat} (hn : ts.length = n) (hs : OkTgs K cm S gs (tgs ts)) : OkTg K cm S (gTup K n gs) (tgTup ts) := by
  intro H Z d v σ ρ Fs ρ1 hd hr e Q q
  unfold tgTup at e
  split at e
  · rename_i ds
    obtain ⟨a, vs, Gs, rfl, hc, hl, eF⟩ := hd
    have eG : Gs.flatten = [] := by simpa [ownA, Kd.isOwn, Kd.fl] using eF.symm
    exact ⟨a, vs, rfl, hc, by rw [hl.len.1, tgs_len e, hn], hs H Z ds vs Gs σ ρ Fs ρ1 hl eG hr e Q q⟩
  · cases e

/-! ### comprehensions -/
def wipeE (ρ : En) : List Nat → En
  | [] => ρ
  | v :: vs => (wipeE ρ vs).set v none
theorem RepE.none {K : PySem.W.Frag} {cm : Cm} {H : Hp} {Z : Zn} {σ : L2.St} {ρ : En} {Fs : List (List Addr)} (r : RepE K cm H Z σ ρ Fs) (i : Nat) : RepE K cm H Z (σ.set i none) (ρ.set i none) (Fs.set i []) := by
  refine ⟨by simp [r.lσ], by simp [r.lF], fun j e q => ?_⟩
  by_cases hj : i = j
  · subst hj
    by_cases hi : i < ρ.length
    · rw [List.getElem?_set_self hi] at q; cases q
    · rw [List.getElem?_eq_none (by simpa using hi)] at q; cases q
  · rw [List.getElem?_set_ne hj] at q ⊢
    rw [List.getElem?_set_ne hj]
    exact r.get j e q
theorem RepE.wiped {K : PySem.W.Frag} {cm : Cm} {H : Hp} {Z : Zn} {σ : L2.St} {ρ : En} {Fs : List (List Addr)} (r : RepE K cm H Z σ ρ Fs) : ∀ vs, ∃ Gs, RepE K cm H Z (wipe σ vs) (wipeE ρ vs) Gs ∧ Gs.flatten.Sublist Fs.flatten
  | [] => ⟨Fs, r, List.Sublist.refl _⟩
  | v :: vs => by
    obtain ⟨Gs, a, b⟩ := RepE.wiped r vs
    exact ⟨Gs.set v [], a.none v, (set_nil_sub _ _).trans b⟩
def compL (tg : D → En → Option En) (c : En → Ot Bool) (f : En → Ot D) (ρ : En) : List D → Option (List D)
  | [] => some []
  | d :: ds => (tg d ρ).bind fun ρ1 => match c ρ1 with
    | .ok true => (match f ρ1 with
      | .ok y => (compL tg c f ρ ds).map (y :: ·)
      | _ => none)
    | .ok false => compL tg c f ρ ds
    | _ => none
def eComp (it : En → Ot Its') (tg : D → En → Option En) (c : En → Ot Bool) (f : En → Ot D) (vs : List Nat) : En → Ot D := fun ρ => (it ρ).bind fun p => match compL tg c f (wipeE ρ vs) p.1 with
  | some ys => if ys.length ≤ sizeLine then .ok (.nd (.lst .own) ys) else .no
  | none => .no
abbrev W0 : WX := fun _ _ _ _ => False
def cYes : En → Ot Bool := fun _ => .ok true
/-- the state between two turns: what the list at D holds so far -/
structure CompAt (K : PySem.W.Frag) (cm : Cm) (H1 : Hp) (Z1 : Zn) (D0 : Addr) (H2 : Hp) (ys : List D) : Prop where
  ex : ∃ (zf : Addr → Prop) (us : List V) (Gs : List (List Addr)), Grow H1 H2 ∧ H2 D0 = some (.lst us) ∧ (∀ a, Z1.f a → zf a) ∧ (∀ a, zf a → Z1.f a ∨ H1 a = none) ∧ (∀ a, zf a → a ≠ D0 ∧ H2 a ≠ none) ∧
    RepL K cm H2 ⟨zf, Z1.b, Z1.t⟩ ys us Gs ∧ Gs.flatten.Nodup ∧ ∀ a ∈ Gs.flatten, H1 a = none ∧ a ≠ D0 ∧ ¬ zf a
section
variable {X : Cx} {cm : Cm} {W : WX}
theorem comp_end {K : PySem.W.Frag} {it : En → Ot Its'} {tg : D → En → Option En} {g : TG} {S : List Nat} {c : En → Ot Bool} {tt : TT} {f : En → Ot D} {vs : List Nat} (hg : OkTg K cm S g tg) (hS : ∀ i ∈ S, i ∈ vs) (hT : ∀ σ H Q, tPT K cm W0 c σ H Q → tt σ H Q)
    {σ : L2.St} {H : Hp} {Q : VK} (q0 : tP K cm W (eComp it tg c f vs) σ H Q) : tLc (tPI K cm W it) g tt (tP K cm W0 f) vs σ H Q := by
  obtain ⟨Z, ρ, Fs, ok, q0⟩ := q0
  unfold eComp at q0
  refine ⟨Z, ρ, Fs, ok, ?_⟩
  cases q : it ρ with
  | no => rw [q] at q0; exact q0
  | ex x => rw [q] at q0; exact q0
  | ok p =>
    rw [q, Ot.bind_ok] at q0
    cases q1 : compL tg c f (wipeE ρ vs) p.1 with
    | none => rw [q1] at q0; exact q0.elim
    | some all =>
      rw [q1] at q0
      have q0 : FinD K cm W σ H Z Q (if all.length ≤ sizeLine then .ok (.nd (.lst .own) all) else .no) := q0
      split at q0
      · rename_i hz
        intro J H1 Z1 ext1 wk D0 hD
        have w := wk [] Z1.t (.inr rfl) (fun _ h => nomatch h)
        have ok1 := ok.ext ext1
        obtain ⟨Es, rE, sE⟩ := ok1.rep.wiped vs
        let Pv : Nat → Hp → Prop := fun i H2 => ∃ ys rest, CompAt K cm H1 Z1 D0 H2 ys ∧ compL tg c f (wipeE ρ vs) (p.1.drop i) = some rest ∧ all = ys ++ rest
        have gD : Grow H1 (L2.upd H1 D0 (.lst [])) := .new hD
        have h0 : Pv 0 (L2.upd H1 D0 (.lst [])) := ⟨[], all, ⟨Z1.f, [], [], gD, upd_same, fun _ h => h, fun _ h => .inl h, fun a h => ⟨fun e => by subst e; exact ok1.dom.f _ h hD, fun e => ok1.dom.f a h (gD.back e)⟩, repL_nil, List.nodup_nil, fun _ h => nomatch h⟩, by simpa using q1, by simp⟩
        refine ⟨fun i m H2 => m = p.1.length - i ∧ i ≤ p.1.length ∧ Pv i H2, ⟨p.1.length, by simp, Nat.zero_le _, h0⟩, ?_⟩
        rintro i m H2 ⟨rfl, hi, ys, rest, ⟨zf, us, Gs, gr, hD2, f1, f2, f3, rl, nd, nf⟩, hc, ea⟩
        by_cases hlt : i < p.1.length
        · refine .inr ⟨w.go i H2 (.grow gr) hlt, Pv (i + 1), fun H' p' => ⟨p.1.length - (i + 1), by omega, rfl, hlt, p'⟩, fun x H3 y => ?_⟩
          obtain ⟨d, hd⟩ : ∃ d, p.1[i]? = some d := ⟨_, List.getElem?_eq_getElem hlt⟩
          obtain ⟨gr3, rx⟩ := w.yld i H2 x H3 (.grow gr) y d hd
          have drop_eq : p.1.drop i = d :: p.1.drop (i + 1) := by
            rw [List.drop_eq_getElem_cons hlt]
            rw [List.getElem?_eq_getElem hlt] at hd
            cases hd; rfl
          rw [drop_eq] at hc
          unfold compL at hc
          cases q2 : tg d (wipeE ρ vs) with
          | none => rw [q2] at hc; cases hc
          | some ρ1 =>
            rw [q2] at hc
            have gr13 : Grow H1 H3 := gr.trans gr3
            let Z3 : Zn := ⟨zf, Z1.b, Z1.t⟩
            have rx3 : Rep K cm H3 Z3 d x [] := rx.grow (.refl _) f1 (fun _ h => h) (fun _ h => h)
            have rE3 : RepE K cm H3 Z3 (wipe σ vs) (wipeE ρ vs) Es := ⟨rE.lσ, rE.lF, fun j e h => by
              obtain ⟨v, F, a1, a2, a3⟩ := rE.get j e h
              exact ⟨v, F, a1, a2, a3.grow gr13 f1 (fun _ h => h) (fun _ h => h)⟩⟩
            refine hg H3 Z3 d x (wipe σ vs) (wipeE ρ vs) Es ρ1 rx3 rE3 q2 _ fun σ1 Fs1 r1 sb wp _ => ⟨?_, ?_⟩
            · rw [wp vs hS, wipe_wipe (fun _ h => h)]
            · have ok3 : OkP K cm H3 σ1 ρ1 Fs1 Z3 := ⟨r1, ⟨fun a h z => (f3 a h).2 (gr3.back z), fun a h z => ok1.dom.b a h (gr13.back z), fun a h z => ok1.dom.t a h (gr13.back z)⟩, fun a h => ok1.tm a (sE.subset (sb.subset h))⟩
              refine hT _ _ _ ⟨Z3, ρ1, Fs1, ok3, ?_⟩
              have hc : (match c ρ1 with
                | .ok true => (match f ρ1 with
                  | .ok y => (compL tg c f (wipeE ρ vs) (p.1.drop (i + 1))).map (y :: ·)
                  | _ => none)
                | .ok false => compL tg c f (wipeE ρ vs) (p.1.drop (i + 1))
                | _ => none) = some rest := hc
              cases q3 : c ρ1 with
              | no => rw [q3] at hc; cases hc
              | ex x => rw [q3] at hc; cases hc
              | ok b =>
                rw [q3] at hc
                intro H4 Z4 ext4
                have nD : ∀ a, Z4.f a → a ≠ D0 := fun a h e => by
                  subst e
                  rcases ext4.fn _ h with h | h
                  · exact (f3 _ h).1 rfl
                  · rw [gr3 _ _ hD2] at h; cases h
                have gr4 : Grow H2 H4 := gr3.trans ext4.gr
                cases b with
                | false =>
                  have hc : compL tg c f (wipeE ρ vs) (p.1.drop (i + 1)) = some rest := hc
                  refine ⟨ys, rest, ⟨Z4.f, us, Gs, gr.trans gr4, gr4 _ _ hD2, fun a h => ext4.f a (f1 a h), fun a h => (ext4.fn a h).elim (f2 a) fun z => .inr (gr13.back z), fun a h => ⟨nD a h, ext4.fd a h⟩, ?_, nd, fun a h => ?_⟩, hc, ea⟩
                  · exact rl.grow gr4 ext4.f (fun _ h => h) (fun _ h => h)
                  · obtain ⟨n1, n2, n3⟩ := nf a h
                    refine ⟨n1, n2, fun z => (ext4.fn a z).elim n3 fun z2 => ?_⟩
                    exact mut_ne (RepL.mut ys rl a h) (gr3.back z2)
                | true =>
                  show tP K cm W0 f σ1 H4 _
                  refine ⟨Z4, ρ1, Fs1, ok3.ext ext4, ?_⟩
                  have hc : (match f ρ1 with
                    | .ok y => (compL tg c f (wipeE ρ vs) (p.1.drop (i + 1))).map (y :: ·)
                    | _ => none) = some rest := hc
                  cases q4 : f ρ1 with
                  | no => rw [q4] at hc; cases hc
                  | ex x => rw [q4] at hc; cases hc
                  | ok yd =>
                    rw [q4] at hc
                    have hc : (compL tg c f (wipeE ρ vs) (p.1.drop (i + 1))).map (yd :: ·) = some rest := hc
                    cases q5 : compL tg c f (wipeE ρ vs) (p.1.drop (i + 1)) with
                    | none => rw [q5] at hc; cases hc
                    | some rest' =>
                      rw [q5] at hc
                      cases hc
                      intro yv H5 Z5 F5 r5
                      have gr5 : Grow H2 H5 := gr4.trans r5.ext.gr
                      have hD5 : H5 D0 = some (.lst us) := gr5 _ _ hD2
                      have mD : Mut (H5 D0) := by rw [hD5]; trivial
                      have hyl : us.length = ys.length := rl.len.1
                      have nD5 : ∀ a, Z5.f a → a ≠ D0 := fun a h e => by
                        subst e
                        rcases r5.ext.fn _ h with h | h
                        · exact nD _ h rfl
                        · rw [gr4 _ _ hD2] at h; cases h
                      refine ⟨us, hD5, ?_, ys ++ [yd], rest', ?_, q5, by simp [ea]⟩
                      · have : all.length = ys.length + (rest'.length + 1) := by rw [ea]; simp
                        omega
                      · have e5b : Z5.b = Z1.b := r5.ext.b.trans ext4.b
                        have e5t : Z5.t = Z1.t := r5.ext.t.trans ext4.t
                        have nbD : ¬ Z1.b D0 := fun h => ok1.dom.b _ h hD
                        have ntD : ¬ Z1.t D0 := fun h => ok1.dom.t _ h hD
                        have hyz : Rep K cm H5 ⟨Z5.f, Z1.b, Z1.t⟩ yd yv F5 := by
                          have := r5.rep
                          rw [show Z5 = ⟨Z5.f, Z1.b, Z1.t⟩ by rw [← e5b, ← e5t]] at this
                          exact this
                        have f15 : ∀ a, zf a → Z5.f a := fun a h => r5.ext.f a (ext4.f a h)
                        have rl5 : RepL K cm H5 ⟨Z5.f, Z1.b, Z1.t⟩ ys us Gs := rl.grow gr5 f15 (fun _ h => h) (fun _ h => h)
                        have newF : ∀ a ∈ F5, H4 a = none := r5.new
                        have nDF : D0 ∉ F5 := fun h => by
                          have := newF D0 h
                          rw [gr4 _ _ hD2] at this; cases this
                        refine ⟨Z5.f, us ++ [yv], Gs ++ [F5], fun a o h => ?_, upd_same, fun a h => f15 a (f1 a h), fun a h => ?_, fun a h => ⟨nD5 a h, ?_⟩, ?_, ?_, fun a h => ?_⟩
                        · have ne : a ≠ D0 := fun e => by subst e; rw [hD] at h; cases h
                          rw [upd_ne ne]; exact gr5 _ _ (gr _ _ h)
                        · rcases r5.ext.fn a h with h | h
                          · rcases ext4.fn a h with h | h
                            · exact f2 a h
                            · exact .inr (gr13.back h)
                          · exact .inr (gr.back (gr4.back h))
                        · rw [upd_ne (nD5 a h)]; exact r5.ext.fd a h
                        · exact (rl5.upd mD (fun h => (nf D0 h).2.1 rfl) (fun h => nD5 _ h rfl) nbD ntD).app (repL_cons (hyz.upd mD nDF (fun h => nD5 _ h rfl) nbD ntD) repL_nil)
                        · rw [List.flatten_append]
                          simp only [List.flatten_cons, List.flatten_nil, List.append_nil]
                          rw [List.nodup_append]
                          exact ⟨nd, r5.nd, fun a ha b hb e => by
                            subst e
                            exact mut_ne (RepL.mut ys rl a ha) (gr4.back (newF a hb))⟩
                        · rw [List.flatten_append] at h
                          simp only [List.flatten_cons, List.flatten_nil, List.append_nil] at h
                          rcases List.mem_append.mp h with h | h
                          · obtain ⟨n1, n2, n3⟩ := nf a h
                            refine ⟨n1, n2, fun z => ?_⟩
                            rcases r5.ext.fn a z with z | z
                            · rcases ext4.fn a z with z | z
                              · exact n3 z
                              · exact mut_ne (RepL.mut ys rl a h) (gr3.back z)
                            · exact mut_ne (RepL.mut ys rl a h) (gr4.back z)
                          · exact ⟨gr.back (gr4.back (newF a h)), fun e => nDF (e ▸ h), r5.nf a h⟩
        · have e : i = p.1.length := by omega
          subst e
          refine .inl ⟨w.stop _ H2 (.grow gr) (Nat.le_refl _), ?_⟩
          rw [List.drop_length] at hc
          cases hc
          rw [List.append_nil] at ea
          subst ea
          refine q0 (.ref D0) H2 ⟨zf, Z1.b, Z1.t⟩ (ownA (.lst .own) D0 ++ Gs.flatten) ⟨⟨ext1.gr.trans gr, fun a h => f1 a (ext1.f a h), fun a h => (f2 a h).elim (ext1.fn a) fun z => .inr (ext1.gr.back z), fun a h => (f3 a h).2, ext1.b, ext1.t⟩, ⟨D0, us, Gs, rfl, ⟨fun _ => hD2, .inl hD2, trivial⟩, rl, rfl⟩, ?_, fun a h => ?_, fun a h => ?_⟩
          · have eo : ownA (.lst .own) D0 = [D0] := by simp [ownA, Kd.isOwn, Kd.fl]
            rw [eo, List.nodup_append]
            refine ⟨by simp, nd, fun a ha b hb e => ?_⟩
            have e2 : a = D0 := by simpa using ha
            exact (nf b hb).2.1 (e ▸ e2)
          · have eo : ownA (.lst .own) D0 = [D0] := by simp [ownA, Kd.isOwn, Kd.fl]
            rw [eo] at h
            rcases List.mem_append.mp h with h | h
            · have e2 : a = D0 := by simpa using h
              rw [e2]; exact .inl (ext1.gr.back hD)
            · exact .inl (ext1.gr.back (nf a h).1)
          · have eo : ownA (.lst .own) D0 = [D0] := by simp [ownA, Kd.isOwn, Kd.fl]
            rw [eo] at h
            rcases List.mem_append.mp h with h | h
            · have e2 : a = D0 := by simpa using h
              rw [e2]; exact fun z => (f3 _ z).1 rfl
            · exact (nf a h).2.2
      · exact q0.elim
variable {elt tgx iter : Expr} {ifs : List Expr} {scope : Scope} {own : List (Str × Nat)} {pos : Pos} {it : En → Ot Its'} {tg : D → En → Option En} {g : TG} {S : List Nat} {c : En → Ot Bool} {tt : TT} {f : En → Ot D} {t : Expr}
/-- [elt for target in iter if ..] -/
theorem s_comp (hc : X.calm = true) (hN : X.N.Nodup) (hi : SI X cm W tgx iter it) (ok : BlkOk X.N X.env.scope scope own) (hS : (S.all fun i => (own.map (·.2)).contains i) = true) (hgo : OkTg X.K cm S g tg)
    (hg : ∀ (s : Shared) (H : Hp) (C : Addr) (cl : List (Str × Addr)) (fp : List Addr), PG (X.blk s H scope (compEnvC scope cl C X.env) fp) tgx g) (ht : ∀ (s : Shared) (H : Hp) (C : Addr) (cl : List (Str × Addr)) (fp : List Addr), PTs (X.blk s H scope (compEnvC scope cl C X.env) fp) ifs tt)
    (hT : ∀ σ H Q, tPT X.K cm W0 c σ H Q → tt σ H Q)
    (he : ∀ (s : Shared) (H : Hp) (C : Addr) (cl : List (Str × Addr)) (fp : List Addr), SE (X.blk s H scope (compEnvC scope cl C X.env) fp) cm W0 elt f) (hs : ∀ x, foldedSetIterable iter X.env x = pure x := by intro _; rfl) :
    SE X cm W (.ListComp elt [⟨tgx, iter, ifs, 0⟩] scope pos) (eComp it tg c f (own.map (·.2))) :=
  PE.imp (pe_lc hc hN hi ok hg ht he hs) fun σ H Q q0 => comp_end hgo (fun i hi => by
    have := List.all_eq_true.mp hS i hi
    simpa using this) hT q0
theorem yes_T {K : PySem.W.Frag} : ∀ σ H Q, tPT K cm W0 cYes σ H Q → tYes σ H Q := fun σ H Q q0 => by
  obtain ⟨Z, ρ, Fs, ok, q0⟩ := q0
  exact q0 H Z (.refl ok.dom)
end
end OB

namespace OB
open PySem PySem.Spec PyProof.Rows L2

inductive Out where
  | nx | brk | cnt | ret (d : D) | ex (x : XD)
abbrev Mst := En → Option (Out × En)
structure Ok (K : PySem.W.Frag) (cm : Cm) (H : Hp) (σ : L2.St) (ρ : En) (Fs : List (List Addr)) (Z : Zn) : Prop where
  rep : RepE K cm H Z σ ρ Fs
  dom : Dom H Z
  mu : ∀ a ∈ Fs.flatten, Mut (H a)
  nd : Fs.flatten.Nodup
  nz : ∀ a ∈ Fs.flatten, ¬ Z.f a ∧ ¬ Z.b a
  t : ∀ a, ¬ Z.t a
structure SStep (P : List Nat) (σ : L2.St) (H : Hp) (Z : Zn) (Fs : List (List Addr)) (σ' : L2.St) (H' : Hp) (Z' : Zn) (Fs' : List (List Addr)) : Prop where
  keep : Kept H Fs.flatten H'
  own : ∀ a ∈ Fs'.flatten, a ∈ Fs.flatten ∨ H a = none
  f : ∀ a, Z.f a → Z'.f a
  fn : ∀ a, Z'.f a → Z.f a ∨ a ∈ Fs.flatten ∨ H a = none
  b : Z'.b = Z.b
  prot : ∀ i ∈ P, σ'[i]? = σ[i]?
section
variable {K : PySem.W.Frag} {cm : Cm} {P : List Nat} {H H1 H' : Hp} {Z Z1 Z' : Zn} {σ σ1 σ' : L2.St} {ρ ρ1 : En} {Fs Fs1 Fs' : List (List Addr)}
theorem Kept.back {O : List Addr} (k : Kept H O H') {a : Addr} (h : H' a = none) : H a = none ∨ a ∈ O := by
  cases e : H a with
  | none => exact .inl rfl
  | some o =>
    by_cases ho : a ∈ O
    · exact .inr ho
    · have := k a o e ho; rw [h] at this; cases this
theorem SStep.refl : SStep P σ H Z Fs σ H Z Fs := ⟨.refl, fun _ h => .inl h, fun _ h => h, fun _ h => .inl h, rfl, fun _ _ => rfl⟩
theorem SStep.trans (a : SStep P σ H Z Fs σ1 H1 Z1 Fs1) (b : SStep P σ1 H1 Z1 Fs1 σ' H' Z' Fs') : SStep P σ H Z Fs σ' H' Z' Fs' where
  keep := fun x o h n => b.keep x o (a.keep x o h n) fun z => (a.own x z).elim n fun q => by rw [h] at q; cases q
  own := fun x h => (b.own x h).elim (a.own x) fun q => (a.keep.back q).elim .inr .inl
  f := fun x h => b.f x (a.f x h)
  fn := fun x h => by
    rcases b.fn x h with h | h | h
    · exact a.fn x h
    · exact .inr (a.own x h)
    · exact .inr ((a.keep.back h).symm)
  b := b.b.trans a.b
  prot := fun i h => (b.prot i h).trans (a.prot i h)
/-- for expressions: what is owned may be lent -/
def lendZ (Z : Zn) (Fs : List (List Addr)) : Zn := ⟨Z.f, Z.b, fun a => a ∈ Fs.flatten⟩
theorem Ok.pure (ok : Ok K cm H σ ρ Fs Z) : OkP K cm H σ ρ Fs (lendZ Z Fs) :=
  ⟨⟨ok.rep.lσ, ok.rep.lF, fun i d q => by
    obtain ⟨v, F, a, b, c⟩ := ok.rep.get i d q
    exact ⟨v, F, a, b, c.grow (.refl _) (fun _ h => h) (fun _ h => h) fun a h => (ok.t a h).elim⟩⟩, ⟨ok.dom.f, ok.dom.b, fun a h => mut_ne (ok.mu a h)⟩, fun _ h => h⟩
theorem Grow.mut (g : Grow H H') {a : Addr} (h : Mut (H a)) : Mut (H' a) := by
  cases e : H a with
  | none => rw [e] at h; exact h.elim
  | some o => rw [g a o e, ← e]; exact h
/-- behind an expression -/
theorem Ok.ext (ok : Ok K cm H σ ρ Fs Z) (e : Ext H (lendZ Z Fs) H1 Z1) : Ok K cm H1 σ ρ Fs ⟨Z1.f, Z.b, fun _ => False⟩ := by
  have nf : ∀ a ∈ Fs.flatten, ¬ Z1.f a := fun a h q => (e.fn a q).elim (ok.nz a h).1 (mut_ne (ok.mu a h))
  refine ⟨⟨ok.rep.lσ, ok.rep.lF, fun i d q => ?_⟩, ⟨e.fd, fun a h q => ok.dom.b a h (e.gr.back q), fun _ h => h.elim⟩, fun a h => e.gr.mut (ok.mu a h), ok.nd, fun a h => ⟨nf a h, (ok.nz a h).2⟩, fun _ h => h⟩
  obtain ⟨v, F, a, b, c⟩ := ok.rep.get i d q
  exact ⟨v, F, a, b, c.grow e.gr e.f (fun _ h => h) fun a h => (ok.t a h).elim⟩
theorem SStep.ext (ok : Ok K cm H σ ρ Fs Z) (e : Ext H (lendZ Z Fs) H1 Z1) : SStep P σ H Z Fs σ H1 ⟨Z1.f, Z.b, fun _ => False⟩ Fs :=
  ⟨.grow e.gr, fun _ h => .inl h, e.f, fun a h => (e.fn a h).elim .inl fun q => .inr (.inr q), rfl, fun _ _ => rfl⟩
/-- .. with values in hand that are new, nothing in them lent -/
structure OkT (K : PySem.W.Frag) (cm : Cm) (H : Hp) (σ : L2.St) (ρ : En) (Fs : List (List Addr)) (Z : Zn) (ds : List D) (vs : List V) (Gs : List (List Addr)) : Prop where
  ok : Ok K cm H σ ρ Fs Z
  rep : RepL K cm H Z ds vs Gs
  nd : (Fs.flatten ++ Gs.flatten).Nodup
  nz : ∀ a ∈ Gs.flatten, ¬ Z.f a ∧ ¬ Z.b a
theorem noT_rep {d : D} {v : V} {F : List Addr} {t' : Addr → Prop} (r : Rep K cm H Z d v F) (h : noT d = true) : Rep K cm H ⟨Z.f, Z.b, t'⟩ d v F :=
  Rep.only (pf := fun f => f != .tmp) (fun a f hf hz => by
    cases f with
    | tmp => cases hf
    | _ => exact hz) d r h
theorem Ok.one (ok : Ok K cm H σ ρ Fs Z) {d : D} {v : V} {F : List Addr} (r : Res K cm H (lendZ Z Fs) H1 Z1 [] d v F) (h : noT d = true) : OkT K cm H1 σ ρ Fs ⟨Z1.f, Z.b, fun _ => False⟩ [d] [v] [F] := by
  have hb : Z1.b = Z.b := r.ext.b
  refine ⟨ok.ext r.ext, repL_cons ?_ repL_nil, ?_, fun a ha => ?_⟩
  · have := noT_rep (t' := fun _ => False) r.rep h
    rwa [hb] at this
  · simp only [List.flatten_cons, List.flatten_nil, List.append_nil]
    rw [List.nodup_append]
    exact ⟨ok.nd, r.nd, fun a ha b hb e => by subst e; exact mut_ne (ok.mu a ha) (r.new a hb)⟩
  · have ha : a ∈ F := by simpa using ha
    exact ⟨r.nf a ha, fun q => ok.dom.b a q (r.new a ha)⟩
theorem set_mem {α : Type} : ∀ {Fs : List (List α)} {i : Nat} {F : List α} {x : α}, x ∈ (Fs.set i F).flatten → x ∈ Fs.flatten ∨ x ∈ F
  | [], _, _, _, h => .inl h
  | G :: Fs, 0, F, x, h => by
    rw [List.set_cons_zero, List.flatten_cons] at h
    rcases List.mem_append.mp h with h | h
    · exact .inr h
    · exact .inl (by rw [List.flatten_cons]; exact List.mem_append_right _ h)
  | G :: Fs, i + 1, F, x, h => by
    rw [List.set_cons_succ, List.flatten_cons] at h
    rw [List.flatten_cons]
    rcases List.mem_append.mp h with h | h
    · exact .inl (List.mem_append_left _ h)
    · rcases set_mem h with h | h
      · exact .inl (List.mem_append_right _ h)
      · exact .inr h
theorem set_nodup {α : Type} : ∀ {Fs : List (List α)} {i : Nat} {F : List α}, Fs.flatten.Nodup → F.Nodup → (∀ x ∈ Fs.flatten, x ∉ F) → (Fs.set i F).flatten.Nodup
  | [], _, _, h, _, _ => h
  | G :: Fs, 0, F, h, hF, hx => by
    rw [List.flatten_cons, List.nodup_append] at h
    rw [List.set_cons_zero, List.flatten_cons, List.nodup_append]
    exact ⟨hF, h.2.1, fun a ha b hb e => hx b (by rw [List.flatten_cons]; exact List.mem_append_right _ hb) (e ▸ ha)⟩
  | G :: Fs, i + 1, F, h, hF, hx => by
    rw [List.flatten_cons, List.nodup_append] at h
    rw [List.set_cons_succ, List.flatten_cons, List.nodup_append]
    refine ⟨h.1, set_nodup h.2.1 hF fun x hx' => hx x (by rw [List.flatten_cons]; exact List.mem_append_right _ hx'), fun a ha b hb e => ?_⟩
    rcases set_mem hb with q | q
    · exact h.2.2 a ha b q e
    · exact hx a (by rw [List.flatten_cons]; exact List.mem_append_left _ ha) (e ▸ q)
/-- a slot takes the first value in hand -/
theorem OkT.set {d : D} {ds : List D} {v : V} {vs : List V} {F : List Addr} {Gs : List (List Addr)} (o : OkT K cm H σ ρ Fs Z (d :: ds) (v :: vs) (F :: Gs)) (i : Nat) : OkT K cm H (σ.set i (some v)) (ρ.set i (some d)) (Fs.set i F) Z ds vs Gs := by
  obtain ⟨ok, rp, nd, nz⟩ := o
  obtain ⟨_, _, _, _, e1, e2, h1, h2⟩ := rp
  cases e1
  cases e2
  rw [List.flatten_cons] at nd nz
  rw [List.nodup_append] at nd
  obtain ⟨n1, n2, n3⟩ := nd
  rw [List.nodup_append] at n2
  obtain ⟨n4, n5, n6⟩ := n2
  have hm := Rep.mut d h1
  have sm : ∀ a ∈ (Fs.set i F).flatten, a ∈ Fs.flatten ∨ a ∈ F := fun a h => set_mem h
  refine ⟨⟨ok.rep.set i h1, ok.dom, fun a h => (sm a h).elim (ok.mu a) (hm a), set_nodup ok.nd n4 (fun x hx hf => n3 x hx x (List.mem_append_left _ hf) rfl), fun a h => (sm a h).elim (ok.nz a) fun q => nz a (List.mem_append_left _ q), ok.t⟩, h2, ?_, fun a h => nz a (List.mem_append_right _ h)⟩
  rw [List.nodup_append]
  refine ⟨set_nodup ok.nd n4 (fun x hx hf => n3 x hx x (List.mem_append_left _ hf) rfl), n5, fun a ha b hb e => ?_⟩
  rcases sm a ha with q | q
  · exact n3 a q b (List.mem_append_right _ hb) e
  · exact n6 a q b hb e
theorem Ok.drop {ds : List D} {vs : List V} {Gs : List (List Addr)} (o : OkT K cm H σ ρ Fs Z ds vs Gs) : Ok K cm H σ ρ Fs Z := o.ok
end

/-! ### the reading of a statement -/
def EndO (K : PySem.W.Frag) (cm : Cm) (W : WX) (D0 : Ends) (H0 : Hp) (Fs0 : List (List Addr)) (σ : L2.St) (H : Hp) (Z : Zn) (Fs : List (List Addr)) : Out → Prop
  | .nx => D0.nx σ H
  | .brk => D0.bk σ H
  | .cnt => D0.ct σ H
  | .ret d => ∀ v F, Rep K cm H Z d v F → (Fs.flatten ++ F).Nodup → (∀ a ∈ F, ¬ Z.f a ∧ ¬ Z.b a) → (∀ a ∈ F, a ∈ Fs0.flatten ∨ H0 a = none) → D0.rt v H
  | .ex x => ∀ cls dd, XRep K cm H Z x cls dd → W cls dd σ H
def FinS (K : PySem.W.Frag) (cm : Cm) (W : WX) (P : List Nat) (D0 : Ends) (σ : L2.St) (H : Hp) (Z : Zn) (Fs : List (List Addr)) : Option (Out × En) → Prop
  | none => False
  | some p => ∀ σ' H' Z' Fs', SStep P σ H Z Fs σ' H' Z' Fs' → Ok K cm H' σ' p.2 Fs' Z' → EndO K cm W D0 H Fs σ' H' Z' Fs' p.1
def tS (K : PySem.W.Frag) (cm : Cm) (W : WX) (P : List Nat) (g : Mst) : TS := fun D0 σ H => ∃ Z ρ Fs, Ok K cm H σ ρ Fs Z ∧ FinS K cm W P D0 σ H Z Fs (g ρ)
abbrev SS (X : Cx) (cm : Cm) (W : WX) (P : List Nat) (st : Stmt) (g : Mst) : Prop := PS X st (tS X.K cm W P g)
abbrev SB (X : Cx) (cm : Cm) (W : WX) (P : List Nat) (sts : List Stmt) (g : Mst) : Prop := PSs X sts (tS X.K cm W P g)
theorem PS.imp {X : Cx} {e : Stmt} {t t' : TS} (h : PS X e t) (i : ∀ D σ H, t' D σ H → t D σ H) : PS X e t' := ⟨fun pins s σ H D I q => h.run pins s σ H D I (i D σ H q)⟩
theorem PSs.imp {X : Cx} {e : List Stmt} {t t' : TS} (h : PSs X e t) (i : ∀ D σ H, t' D σ H → t D σ H) : PSs X e t' := ⟨fun pins s σ H D I q => h.run pins s σ H D I (i D σ H q)⟩
def sNil : Mst := fun ρ => some (.nx, ρ)
def sSeq (g h : Mst) : Mst := fun ρ => match g ρ with
  | some (.nx, ρ1) => h ρ1
  | r => r
section
variable {K : PySem.W.Frag} {cm : Cm} {W : WX} {P : List Nat} {D0 : Ends} {H H1 : Hp} {Z Z1 : Zn} {σ σ1 : L2.St} {ρ ρ1 : En} {Fs Fs1 : List (List Addr)}
/-- from a later point -/
theorem FinS.step {r : Option (Out × En)} (h : FinS K cm W P D0 σ H Z Fs r) (s : SStep P σ H Z Fs σ1 H1 Z1 Fs1) : FinS K cm W P D0 σ1 H1 Z1 Fs1 r := by
  cases r with
  | none => exact h
  | some p =>
    intro σ' H' Z' Fs' s' ok'
    have := h σ' H' Z' Fs' (s.trans s') ok'
    cases e : p.1 with
    | ret d =>
      rw [e] at this
      exact fun v F r nd nz org => this v F r nd nz fun a ha => (org a ha).elim (s.own a) fun q => (s.keep.back q).symm
    | _ => rw [e] at this; exact this
theorem FinS.at_ (h : FinS K cm W P D0 σ H Z Fs (some (.nx, ρ1))) (s : SStep P σ H Z Fs σ1 H1 Z1 Fs1) (ok : Ok K cm H1 σ1 ρ1 Fs1 Z1) : D0.nx σ1 H1 := h σ1 H1 Z1 Fs1 s ok
theorem tS.of {g : Mst} (ok : Ok K cm H σ ρ Fs Z) (h : FinS K cm W P D0 σ H Z Fs (g ρ)) : tS K cm W P g D0 σ H := ⟨Z, ρ, Fs, ok, h⟩
/-- other ends -/
theorem FinS.ends {D1 : Ends} {r : Option (Out × En)} (h : FinS K cm W P D0 σ H Z Fs r) (h1 : ∀ σ' H' Z' Fs' p, r = some p → SStep P σ H Z Fs σ' H' Z' Fs' → Ok K cm H' σ' p.2 Fs' Z' → EndO K cm W D0 H Fs σ' H' Z' Fs' p.1 → EndO K cm W D1 H Fs σ' H' Z' Fs' p.1) : FinS K cm W P D1 σ H Z Fs r := by
  cases r with
  | none => exact h
  | some p => exact fun σ' H' Z' Fs' s ok => h1 σ' H' Z' Fs' p rfl s ok (h σ' H' Z' Fs' s ok)
end
section
variable {X : Cx} {cm : Cm} {W : WX} {P : List Nat} {st : Stmt} {rest : List Stmt} {g h : Mst} {e : Expr} {f : En → Ot D} {pos : Pos}
theorem sb_nil : SB X cm W P [] sNil := PSs.imp pss_nil fun D0 σ H q => by
  obtain ⟨Z, ρ, Fs, ok, q⟩ := q
  exact q.at_ .refl ok
theorem sb_cons (h1 : SS X cm W P st g) (h2 : SB X cm W P rest h) : SB X cm W P (st :: rest) (sSeq g h) := PSs.imp (pss_cons h1 h2) fun D0 σ H q => by
  obtain ⟨Z, ρ, Fs, ok, q⟩ := q
  refine ⟨Z, ρ, Fs, ok, ?_⟩
  unfold sSeq at q
  cases e : g ρ with
  | none => rw [e] at q; exact q
  | some p =>
    obtain ⟨o, ρ1⟩ := p
    rw [e] at q
    cases o with
    | nx => exact fun σ1 H1 Z1 Fs1 s ok1 => ⟨Z1, ρ1, Fs1, ok1, q.step s⟩
    | brk => exact q
    | cnt => exact q
    | ret d => exact q
    | ex x => exact q
theorem sb_one (h1 : SS X cm W P st g) : SB X cm W P [st] g := pss_one h1
theorem ss_pass : SS X cm W P (.Pass pos) sNil := PS.imp ps_pass fun D0 σ H q => by
  obtain ⟨Z, ρ, Fs, ok, q⟩ := q
  exact q.at_ .refl ok
theorem ss_cont : SS X cm W P (.Continue pos) (fun ρ => some (.cnt, ρ)) := PS.imp ps_continue fun D0 σ H q => by
  obtain ⟨Z, ρ, Fs, ok, q⟩ := q
  exact q σ H Z Fs .refl ok
theorem ss_brk : SS X cm W P (.Break pos) (fun ρ => some (.brk, ρ)) := PS.imp ps_break fun D0 σ H q => by
  obtain ⟨Z, ρ, Fs, ok, q⟩ := q
  exact q σ H Z Fs .refl ok
/-- never reached -/
theorem ss_never : SS X cm W P st (fun _ => none) := PS.imp ps_never fun D0 σ H q => by
  obtain ⟨Z, ρ, Fs, ok, q⟩ := q
  exact q
/-! an expression ahead of a statement's own work -/
def sOn (f : En → Ot D) (k : D → Mst) : Mst := fun ρ => match f ρ with
  | .no => none
  | .ok d => k d ρ
  | .ex x => some (.ex x, ρ)
theorem on_go {K : PySem.W.Frag} {k : D → Mst} {D0 : Ends} {σ : L2.St} {H : Hp} {Z : Zn} {ρ : En} {Fs : List (List Addr)} {Q : VK} (ok : Ok K cm H σ ρ Fs Z) (q : FinS K cm W P D0 σ H Z Fs (sOn f k ρ))
    (hk : ∀ d v H1 Z1 F, f ρ = .ok d → Res K cm H (lendZ Z Fs) H1 Z1 [] d v F → FinS K cm W P D0 σ H1 ⟨Z1.f, Z.b, fun _ => False⟩ Fs (k d ρ) → Q v H1) : tP K cm W f σ H Q := by
  refine ⟨lendZ Z Fs, ρ, Fs, ok.pure, ?_⟩
  unfold sOn at q
  cases e : f ρ with
  | no => rw [e] at q; exact q.elim
  | ok d =>
    rw [e] at q
    exact fun v H1 Z1 F r => hk d v H1 Z1 F e r (q.step (.ext ok r.ext))
  | ex x =>
    rw [e] at q
    intro cls dd H1 Z1 ex xr
    exact q σ H1 _ Fs (.ext ok ex) (ok.ext ex) cls dd (xr.back fun _ h => h)
/-- x = e -/
def sSet (i : Nat) (f : En → Ot D) : Mst := sOn f fun d ρ => if noT d then some (.nx, ρ.set i (some d)) else none
theorem prot_set {P : List Nat} {i : Nat} {σ : L2.St} {x : Option V} (hi : (!P.contains i) = true) : ∀ j ∈ P, (σ.set i x)[j]? = σ[j]? := fun j hj => List.getElem?_set_ne (fun e => by
  subst e
  rw [Bool.not_eq_true'] at hi
  rw [List.contains_iff_mem.mpr hj] at hi
  cases hi)
theorem SStep.set' {K : PySem.W.Frag} {cm : Cm} {H H1 : Hp} {Z Z1 : Zn} {σ : L2.St} {Fs : List (List Addr)} {ρ : En} {i : Nat} {d : D} {v : V} {F : List Addr} (ok : Ok K cm H σ ρ Fs Z) (r : Res K cm H (lendZ Z Fs) H1 Z1 [] d v F) (hi : (!P.contains i) = true) :
    SStep P σ H1 ⟨Z1.f, Z.b, fun _ => False⟩ Fs (σ.set i (some v)) H1 ⟨Z1.f, Z.b, fun _ => False⟩ (Fs.set i F) → True := fun _ => trivial
theorem ss_set {i : Nat} (hi : (!P.contains i) = true) (hs : PS X st (tAsg (tP X.K cm W f) (gName i))) : SS X cm W P st (sSet i f) := PS.imp hs fun D0 σ H q => by
  obtain ⟨Z, ρ, Fs, ok, q⟩ := q
  refine on_go ok q fun d v H1 Z1 F e r q1 => ?_
  split at q1
  · rename_i nt
    have o := (ok.one r nt).set i
    have ok1 := ok.ext r.ext
    -- one step from the very start: what the slot takes is new
    have s : SStep P σ H Z Fs (σ.set i (some v)) H1 ⟨Z1.f, Z.b, fun _ => False⟩ (Fs.set i F) :=
      ⟨.grow r.ext.gr, fun a h => (set_mem h).elim .inl fun q => .inr (r.new a q), r.ext.f, fun a h => (r.ext.fn a h).elim .inl fun q => .inr (.inr q), rfl, prot_set hi⟩
    have q2 : FinS X.K cm W P D0 σ H Z Fs (some (.nx, ρ.set i (some d))) := by
      have q3 := q
      unfold sSet sOn at q3
      rw [e] at q3
      have q3 : FinS X.K cm W P D0 σ H Z Fs (if noT d then some (.nx, ρ.set i (some d)) else none) := q3
      rw [if_pos nt] at q3
      exact q3
    exact q2.at_ s o.ok
  · exact q1.elim
/-- an expression alone -/
def sExpr (f : En → Ot D) : Mst := sOn f fun _ ρ => some (.nx, ρ)
theorem ss_expr (he : SE X cm W e f) (hs : swapsWith e none pos.line X.env = pure false := by rfl) : SS X cm W P (.Expr e pos) (sExpr f) := PS.imp (ps_expr he hs) fun D0 σ H q => by
  obtain ⟨Z, ρ, Fs, ok, q⟩ := q
  exact on_go ok q fun d v H1 Z1 F e r q1 => q1.at_ .refl (ok.ext r.ext)
/-- return e, nothing in it lent -/
def sRet (f : En → Ot D) : Mst := sOn f fun d ρ => if noT d then some (.ret d, ρ) else none
theorem ss_ret (he : SE X cm W e f) : SS X cm W P (.Return (some e) pos) (sRet f) := PS.imp (ps_ret he) fun D0 σ H q => by
  obtain ⟨Z, ρ, Fs, ok, q⟩ := q
  refine on_go ok q fun d v H1 Z1 F e r q1 => ?_
  have q2 := q
  unfold sRet sOn at q2
  rw [e] at q2
  have q2 : FinS X.K cm W P D0 σ H Z Fs (if noT d then some (.ret d, ρ) else none) := q2
  split at q2
  · rename_i nt
    have o := ok.one r nt
    obtain ⟨v', F', e1, e2, hr⟩ := repL1 o.rep
    cases e1
    cases e2
    exact q2 σ H1 _ Fs (.ext ok r.ext) o.ok v F hr (by simpa using o.nd) (by simpa using o.nz) fun a ha => .inr (r.new a ha)
  · exact q2.elim
def sRetN : Mst := fun ρ => some (.ret .non, ρ)
theorem ss_retN : SS X cm W P (.Return none pos) sRetN := PS.imp ps_retN fun D0 σ H q => by
  obtain ⟨Z, ρ, Fs, ok, q⟩ := q
  exact q σ H Z Fs .refl ok .non [] rep_non (by simpa using ok.nd) (fun _ h => nomatch h) fun _ h => nomatch h
/-- return x: the name's own thing goes along -/
def sRetV (i : Nat) : Mst := fun ρ => (getV ρ i).map fun d => (.ret d, ρ.set i none)
theorem flat_set_nil {Fs : List (List Addr)} {i : Nat} {F : List Addr} (h : Fs[i]? = some F) (nd : Fs.flatten.Nodup) : ((Fs.set i []).flatten ++ F).Nodup ∧ ∀ a ∈ F, a ∈ Fs.flatten := by
  refine ⟨?_, fun a ha => flat_mem h ha⟩
  have key : ∀ (Fs : List (List Addr)) (i : Nat) (F : List Addr), Fs[i]? = some F → Fs.flatten.Nodup → ((Fs.set i []).flatten ++ F).Nodup := by
    intro Fs
    induction Fs with
    | nil => intro i F h; simp at h
    | cons G Fs ih =>
      intro i F h nd
      rw [List.flatten_cons, List.nodup_append] at nd
      cases i with
      | zero =>
        simp at h
        subst h
        rw [List.set_cons_zero, List.flatten_cons, List.nil_append, List.nodup_append]
        exact ⟨nd.2.1, nd.1, fun a ha b hb e => nd.2.2 b hb a ha e.symm⟩
      | succ i =>
        have h : Fs[i]? = some F := by simpa using h
        have q := ih i F h nd.2.1
        rw [List.set_cons_succ, List.flatten_cons, List.append_assoc, List.nodup_append]
        refine ⟨nd.1, q, fun a ha b hb e => ?_⟩
        rcases List.mem_append.mp hb with hb | hb
        · rcases set_mem hb with hb | hb
          · exact nd.2.2 a ha b hb e
          · cases hb
        · exact nd.2.2 a ha b (flat_mem h hb) e
  exact key Fs i F h nd
theorem Ok.gone {K : PySem.W.Frag} {H : Hp} {σ : L2.St} {ρ : En} {Fs : List (List Addr)} {Z : Zn} (ok : Ok K cm H σ ρ Fs Z) (i : Nat) : Ok K cm H (σ.set i none) (ρ.set i none) (Fs.set i []) Z :=
  ⟨ok.rep.none i, ok.dom, fun a h => ok.mu a ((set_nil_sub _ _).subset h), ok.nd.sublist (set_nil_sub _ _), fun a h => ok.nz a ((set_nil_sub _ _).subset h), ok.t⟩
theorem ss_retV {i : Nat} {x : Str} {p : Pos} (hi : (!P.contains i) = true) (he : PE X (.Name x p) (tVar i)) : SS X cm W P (.Return (some (.Name x p)) pos) (sRetV i) := PS.imp (ps_ret he) fun D0 σ H q => by
  obtain ⟨Z, ρ, Fs, ok, q⟩ := q
  unfold sRetV at q
  cases e : getV ρ i with
  | none => rw [e] at q; exact q.elim
  | some d =>
    rw [e] at q
    obtain ⟨v, F, e1, e2, r⟩ := ok.rep.get i d (getV_some e)
    obtain ⟨n1, n2⟩ := flat_set_nil e2 ok.nd
    refine ⟨v, e1, ?_⟩
    exact q (σ.set i none) H Z (Fs.set i []) ⟨.refl, fun a h => .inl ((set_nil_sub _ _).subset h), fun _ h => h, fun _ h => .inl h, rfl, prot_set hi⟩ (ok.gone i) v F r n1 (fun a h => ok.nz a (n2 a h)) fun a h => .inl (n2 a h)
/-- return of what is lent: all is frozen -/
def Fl.tmpFrz : Fl → Fl
  | .own => .frz
  | .tmp => .frz
  | f => f
theorem flat_nils : ∀ (Fs : List (List Addr)), (Fs.map fun _ => ([] : List Addr)).flatten = []
  | [] => rfl
  | _ :: Fs => by rw [List.map_cons, List.flatten_cons, flat_nils Fs]; rfl
def frzE (ρ : En) : En := ρ.map (Option.map toFrz)
def sRetF (f : En → Ot D) : Mst := sOn f fun d ρ => some (.ret (mapF Fl.tmpFrz d), frzE ρ)
theorem Ok.frozen {K : PySem.W.Frag} {H : Hp} {σ : L2.St} {ρ : En} {Fs : List (List Addr)} {Z : Zn} (ok : Ok K cm H σ ρ Fs Z) {zf : Addr → Prop} (h1 : ∀ a, Z.f a → zf a) (h2 : ∀ a ∈ Fs.flatten, zf a) (h3 : ∀ a, zf a → H a ≠ none) : Ok K cm H σ (frzE ρ) (Fs.map fun _ => []) ⟨zf, Z.b, fun _ => False⟩ := by
  have fl0 : (Fs.map fun _ => ([] : List Addr)).flatten = [] := flat_nils Fs
  refine ⟨⟨by simp [frzE, ok.rep.lσ], by simp [frzE, ok.rep.lF], fun i d q => ?_⟩, ⟨h3, ok.dom.b, fun _ h => h.elim⟩, (by rw [fl0]; exact fun _ h => (nomatch h)), (by rw [fl0]; exact List.nodup_nil), (by rw [fl0]; exact fun _ h => (nomatch h)), fun _ h => h⟩
  unfold frzE at q
  rw [List.getElem?_map] at q
  cases e : ρ[i]? with
  | none => rw [e] at q; cases q
  | some o =>
    rw [e] at q
    cases o with
    | none => cases q
    | some d0 =>
      cases q
      obtain ⟨v, F, a, b, c⟩ := ok.rep.get i d0 e
      refine ⟨v, [], a, by rw [List.getElem?_map, b]; rfl, ?_⟩
      refine Rep.give (g := Fl.toFrz) (O := fun a => a ∈ F) (cell_flag (fun a ha f ef _ => by subst ef; exact h2 a (flat_mem b ha)) (fun a f hf hz => by cases f with
        | own => exact absurd rfl hf
        | frz => exact h1 a hz
        | bor => exact hz
        | tmp => exact (ok.t a hz).elim) (fun f e z => by subst z; exact e rfl)) (fun f e => by cases f <;> cases e) d0 c fun a h => h
theorem ss_retF (he : SE X cm W e f) : SS X cm W P (.Return (some e) pos) (sRetF f) := PS.imp (ps_ret he) fun D0 σ H q => by
  obtain ⟨Z, ρ, Fs, ok, q⟩ := q
  refine on_go ok q fun d v H1 Z1 F e r q1 => ?_
  have q2 := q
  unfold sRetF sOn at q2
  rw [e] at q2
  have ok1 := ok.ext r.ext
  have hm := Rep.mut d r.rep
  have ok2 := ok1.frozen (zf := fun a => Z1.f a ∨ a ∈ Fs.flatten ∨ a ∈ F) (fun a h => .inl h) (fun a h => .inr (.inl h)) (fun a h => h.elim (r.ext.fd a) fun h => h.elim (fun h => mut_ne (ok1.mu a h)) fun h => mut_ne (hm a h))
  have rr : Rep X.K cm H1 ⟨fun a => Z1.f a ∨ a ∈ Fs.flatten ∨ a ∈ F, Z.b, fun _ => False⟩ (mapF Fl.tmpFrz d) v [] :=
    Rep.give (g := Fl.tmpFrz) (O := fun a => a ∈ F) (cell_flag (fun a ha f ef _ => by subst ef; exact .inr (.inr ha)) (fun a f hf hz => by cases f with
        | own => exact absurd rfl hf
        | frz => exact .inl hz
        | bor => exact (show Z.b a by have := r.ext.b; rw [show (lendZ Z Fs).b = Z.b from rfl] at this; rw [← this]; exact hz)
        | tmp => exact .inr (.inl (show a ∈ Fs.flatten by have := r.ext.t; rw [show (lendZ Z Fs).t = fun a => a ∈ Fs.flatten from rfl] at this; have hz : Z1.t a := hz; rw [this] at hz; exact hz))) (fun f e z => by subst z; exact e rfl)) (fun f e => by cases f <;> cases e) d r.rep fun a h => h
  have fl0 : (Fs.map fun _ => ([] : List Addr)).flatten = [] := flat_nils Fs
  refine q2 σ H1 ⟨fun a => Z1.f a ∨ a ∈ Fs.flatten ∨ a ∈ F, Z.b, fun _ => False⟩ _ ⟨.grow r.ext.gr, (by rw [fl0]; exact fun _ h => (nomatch h)), fun a h => Or.inl (r.ext.f a h), fun a h => ?_, rfl, fun _ _ => rfl⟩ ok2 v [] rr (by rw [fl0]; exact List.nodup_nil) (fun _ h => (nomatch h)) fun _ h => (nomatch h)
  rcases h with h | h | h
  · exact (r.ext.fn a h).elim .inl fun q => .inr (.inr q)
  · exact .inr (.inl h)
  · exact .inr (.inr (r.new a h))

/-! ### if -/
def sIf (t : En → Ot Bool) (g h : Mst) : Mst := fun ρ => match t ρ with
  | .no => none
  | .ok b => if b then g ρ else h ρ
  | .ex x => some (.ex x, ρ)
theorem test_go {K : PySem.W.Frag} {t : En → Ot Bool} {k : Bool → Mst} {D0 : Ends} {σ : L2.St} {H : Hp} {Z : Zn} {ρ : En} {Fs : List (List Addr)} {Q : Bool → Hp → Prop} (ok : Ok K cm H σ ρ Fs Z)
    (q : FinS K cm W P D0 σ H Z Fs (match t ρ with
      | .no => none
      | .ok b => k b ρ
      | .ex x => some (.ex x, ρ)))
    (hk : ∀ b H1 Z1, t ρ = .ok b → Ext H (lendZ Z Fs) H1 Z1 → FinS K cm W P D0 σ H1 ⟨Z1.f, Z.b, fun _ => False⟩ Fs (k b ρ) → Q b H1) : tPT K cm W t σ H Q := by
  refine ⟨lendZ Z Fs, ρ, Fs, ok.pure, ?_⟩
  cases e : t ρ with
  | no => rw [e] at q; exact q.elim
  | ok d =>
    rw [e] at q
    exact fun H1 Z1 ex => hk d H1 Z1 e ex (q.step (.ext ok ex))
  | ex x =>
    rw [e] at q
    intro cls dd H1 Z1 ex xr
    exact q σ H1 _ Fs (.ext ok ex) (ok.ext ex) cls dd (xr.back fun _ h => h)
theorem ss_if {c : Expr} {a b : List Stmt} {t : En → Ot Bool} (hc : ST X cm W c t) (ha : SB X cm W P a g) (hb : SB X cm W P b h) : SS X cm W P (.If c a b pos) (sIf t g h) := PS.imp (ps_if hc ha hb) fun D0 σ H q => by
  obtain ⟨Z, ρ, Fs, ok, q⟩ := q
  refine test_go (k := fun b => if b then g else h) ok (by
    have q2 := q
    unfold sIf at q2
    cases e : t ρ with
    | no => rw [e] at q2; exact q2
    | ok b => rw [e] at q2; cases b <;> exact q2
    | ex x => rw [e] at q2; exact q2) fun k H1 Z1 e ex q1 => ?_
  cases k with
  | true => exact ⟨_, ρ, Fs, ok.ext ex, q1⟩
  | false => exact ⟨_, ρ, Fs, ok.ext ex, q1⟩

/-! ### for -/
def forL (tg : D → En → Option En) (body : Mst) : List D → Mst
  | [], ρ => some (.nx, ρ)
  | d :: ds, ρ => match tg d ρ with
    | none => none
    | some ρ1 => match body ρ1 with
      | none => none
      | some (.nx, ρ2) => forL tg body ds ρ2
      | some (.cnt, ρ2) => forL tg body ds ρ2
      | some (.brk, ρ2) => some (.nx, ρ2)
      | some (.ret d, ρ2) => some (.ret d, ρ2)
      | some (.ex x, ρ2) => some (.ex x, ρ2)
def sFor (it : En → Ot Its') (tg : D → En → Option En) (body : Mst) : Mst := fun ρ => match it ρ with
  | .no => none
  | .ok p => if p.2 then forL tg body p.1 ρ else none
  | .ex x => some (.ex x, ρ)
theorem Ok.grow {K : PySem.W.Frag} {H H1 : Hp} {σ : L2.St} {ρ : En} {Fs : List (List Addr)} {Z : Zn} (ok : Ok K cm H σ ρ Fs Z) (g : Grow H H1) : Ok K cm H1 σ ρ Fs Z :=
  ⟨⟨ok.rep.lσ, ok.rep.lF, fun i d q => by
    obtain ⟨v, F, a, b, c⟩ := ok.rep.get i d q
    exact ⟨v, F, a, b, c.grow g (fun _ h => h) (fun _ h => h) fun _ h => h⟩⟩, ⟨fun a h q => ok.dom.f a h (g.back q), fun a h q => ok.dom.b a h (g.back q), fun a h q => ok.dom.t a h (g.back q)⟩, fun a h => g.mut (ok.mu a h), ok.nd, ok.nz, ok.t⟩
theorem ss_for {tg iter : Expr} {body : List Stmt} {it : En → Ot Its'} {g : TG} {S : List Nat} {t : D → En → Option En} {b : Mst} (hp : PassesOwn (model X.prog X.w) X.A X.env X.xe) (hc : X.calm = true) (hi : SI X cm W tg iter it) (hg : PG X tg g) (hgo : OkTg X.K cm S g t)
    (hS : (S.all fun i => !P.contains i) = true) (hb : SB X cm W P body b) (hs : ∀ x, foldedSetIterable iter X.env x = pure x := by intro _; rfl) : SS X cm W P (.For tg iter body [] pos) (sFor it t b) := PS.imp (ps_for hp hc hi hg hb hs) fun D0 σ H q => by
  obtain ⟨Z, ρ, Fs, ok, q⟩ := q
  refine ⟨lendZ Z Fs, ρ, Fs, ok.pure, ?_⟩
  unfold sFor at q
  cases e : it ρ with
  | no => rw [e] at q; exact q.elim
  | ex x =>
    rw [e] at q
    intro cls dd H1 Z1 ex xr
    exact q σ H1 _ Fs (.ext ok ex) (ok.ext ex) cls dd (xr.back fun _ h => h)
  | ok p =>
    rw [e] at q
    have q : FinS X.K cm W P D0 σ H Z Fs (if p.2 then forL t b p.1 ρ else none) := q
    split at q
    · rename_i hp2
      intro J H1 Z1 ex wk
      have ok1 := ok.ext ex
      have q1 := q.step (.ext ok ex)
      have w := wk Fs.flatten (fun _ => False) (.inl hp2) fun a h => ⟨ok1.mu a h, (ok1.nz a h).1, (by have := (ok1.nz a h).2; have eb := ex.b; rw [show (lendZ Z Fs).b = Z.b from rfl] at eb; rw [eb]; exact this), fun h => h⟩
      let Zs : Zn := ⟨Z1.f, Z.b, fun _ => False⟩
      let Pv : Nat → L2.St → Hp → Prop := fun i σ2 H2 => ∃ Z2 ρ2 Fs2, Ok X.K cm H2 σ2 ρ2 Fs2 Z2 ∧ SStep P σ H1 Zs Fs σ2 H2 Z2 Fs2 ∧ FinS X.K cm W P D0 σ2 H2 Z2 Fs2 (forL t b (p.1.drop i) ρ2)
      have h0 : Pv 0 σ H1 := ⟨Zs, ρ, Fs, ok1, .refl, by simpa using q1⟩
      refine ⟨fun i m σ2 H2 => m = p.1.length - i ∧ i ≤ p.1.length ∧ Pv i σ2 H2, ⟨p.1.length, by simp, Nat.zero_le _, h0⟩, ?_⟩
      rintro i m σ2 H2 ⟨rfl, hi2, Z2, ρ2, Fs2, ok2, s2, q2⟩
      have kp : Kept H1 Fs.flatten H2 := s2.keep
      by_cases hlt : i < p.1.length
      · refine .inr ⟨w.go i H2 kp hlt, Pv (i + 1), fun σ' H' p' => ⟨p.1.length - (i + 1), by omega, rfl, hlt, p'⟩, fun x H3 y => ?_⟩
        obtain ⟨d, hd⟩ : ∃ d, p.1[i]? = some d := ⟨_, List.getElem?_eq_getElem hlt⟩
        obtain ⟨gr3, rx⟩ := w.yld i H2 x H3 kp y d hd
        have drop_eq : p.1.drop i = d :: p.1.drop (i + 1) := by
          rw [List.drop_eq_getElem_cons hlt]
          rw [List.getElem?_eq_getElem hlt] at hd
          cases hd; rfl
        rw [drop_eq] at q2
        unfold forL at q2
        cases e2 : t d ρ2 with
        | none => rw [e2] at q2; exact q2.elim
        | some ρ3 =>
          rw [e2] at q2
          have ok3 := ok2.grow gr3
          have rx3 : Rep X.K cm H3 Z2 d x [] := rx.grow (.refl _) (fun a h => s2.f a h) (fun a h => by rw [s2.b]; have eb := ex.b; rw [show (lendZ Z Fs).b = Z.b from rfl] at eb; have h : Z1.b a := h; rw [eb] at h; exact h) fun a h => h.elim
          refine hgo H3 Z2 d x σ2 ρ2 Fs2 ρ3 rx3 ok3.rep e2 _ fun σ3 Fs3 r3 sb _ kpr => ?_
          have ok4 : Ok X.K cm H3 σ3 ρ3 Fs3 Z2 := ⟨r3, ok3.dom, fun a h => ok3.mu a (sb.subset h), ok3.nd.sublist sb, fun a h => ok3.nz a (sb.subset h), ok3.t⟩
          have s3 : SStep P σ2 H2 Z2 Fs2 σ3 H3 Z2 Fs3 := ⟨.grow gr3, fun a h => .inl (sb.subset h), fun _ h => h, fun _ h => .inl h, rfl, fun j hj => kpr j fun hjS => by
            have := List.all_eq_true.mp hS j hjS
            rw [Bool.not_eq_true'] at this
            rw [List.contains_iff_mem.mpr hj] at this
            cases this⟩
          refine ⟨Z2, ρ3, Fs3, ok4, ?_⟩
          have q3 := q2.step s3
          dsimp only at q3
          cases e3 : b ρ3 with
          | none => rw [e3] at q3; exact q3
          | some r =>
            obtain ⟨o, ρ4⟩ := r
            rw [e3] at q3
            intro σ4 H4 Z4 Fs4 s4 ok5
            cases o with
            | nx => exact ⟨Z4, ρ4, Fs4, ok5, s2.trans (s3.trans s4), q3.step s4⟩
            | cnt => exact ⟨Z4, ρ4, Fs4, ok5, s2.trans (s3.trans s4), q3.step s4⟩
            | brk => exact (q3.step s4).at_ .refl ok5
            | ret dd => exact q3 σ4 H4 Z4 Fs4 s4 ok5
            | ex x => exact q3 σ4 H4 Z4 Fs4 s4 ok5
      · have ei : i = p.1.length := by omega
        subst ei
        rw [List.drop_length] at q2
        exact .inl ⟨w.stop _ H2 kp (Nat.le_refl _), q2.at_ .refl ok2⟩
    · exact q.elim

/-! ### while -/
def whileL (t : En → Ot Bool) (body : Mst) : Nat → Mst
  | 0, _ => none
  | n + 1, ρ => match t ρ with
    | .no => none
    | .ex x => some (.ex x, ρ)
    | .ok b => if b then (match body ρ with
      | none => none
      | some (.nx, ρ2) => whileL t body n ρ2
      | some (.cnt, ρ2) => whileL t body n ρ2
      | some (.brk, ρ2) => some (.nx, ρ2)
      | some (.ret d, ρ2) => some (.ret d, ρ2)
      | some (.ex x, ρ2) => some (.ex x, ρ2)) else some (.nx, ρ)
open Classical in
noncomputable def sWhile (t : En → Ot Bool) (body : Mst) : Mst := fun ρ => if h : ∃ n, (whileL t body n ρ).isSome then whileL t body (Classical.choose h) ρ else none
theorem ss_while {c : Expr} {body : List Stmt} {t : En → Ot Bool} {b : Mst} (hp : PassesOwn (model X.prog X.w) X.A X.env X.xe) (hc : ST X cm W c t) (hb : SB X cm W P body b) : SS X cm W P (.While c body [] pos) (sWhile t b) := PS.imp (ps_while hp hc hb) fun D0 σ H q => by
  obtain ⟨Z, ρ, Fs, ok, q⟩ := q
  unfold sWhile at q
  split at q
  · rename_i hex
    generalize Classical.choose hex = n at q
    refine ⟨fun m σ2 H2 => ∃ Z2 ρ2 Fs2, Ok X.K cm H2 σ2 ρ2 Fs2 Z2 ∧ FinS X.K cm W P D0 σ2 H2 Z2 Fs2 (whileL t b m ρ2), ⟨n, Z, ρ, Fs, ok, q⟩, ?_⟩
    rintro m σ2 H2 ⟨Z2, ρ2, Fs2, ok2, q2⟩
    cases m with
    | zero => exact q2.elim
    | succ m =>
      unfold whileL at q2
      refine test_go (k := fun bb ρ2 => if bb then (match b ρ2 with
        | none => none
        | some (.nx, ρ2) => whileL t b m ρ2
        | some (.cnt, ρ2) => whileL t b m ρ2
        | some (.brk, ρ2) => some (.nx, ρ2)
        | some (.ret d, ρ2) => some (.ret d, ρ2)
        | some (.ex x, ρ2) => some (.ex x, ρ2)) else some (.nx, ρ2)) ok2 (by
          cases e : t ρ2 with
          | no => rw [e] at q2; exact q2
          | ok bb => rw [e] at q2; exact q2
          | ex x => rw [e] at q2; exact q2) fun k H3 Z3 e ex q3 => ?_
      have ok3 := ok2.ext ex
      cases k with
      | false => exact q3.at_ .refl ok3
      | true =>
        rw [if_pos rfl]
        rw [if_pos rfl] at q3
        refine ⟨fun σ' H' => ∃ Z2 ρ2 Fs2, Ok X.K cm H' σ' ρ2 Fs2 Z2 ∧ FinS X.K cm W P D0 σ' H' Z2 Fs2 (whileL t b m ρ2), fun σ' H' n => ⟨m, Nat.lt_succ_self _, n⟩, _, ρ2, Fs2, ok3, ?_⟩
        cases e3 : b ρ2 with
        | none => rw [e3] at q3; exact q3
        | some r =>
          obtain ⟨o, ρ4⟩ := r
          rw [e3] at q3
          intro σ4 H4 Z4 Fs4 s4 ok5
          cases o with
          | nx => exact ⟨Z4, ρ4, Fs4, ok5, q3.step s4⟩
          | cnt => exact ⟨Z4, ρ4, Fs4, ok5, q3.step s4⟩
          | brk => exact (q3.step s4).at_ .refl ok5
          | ret dd => exact q3 σ4 H4 Z4 Fs4 s4 ok5
          | ex x => exact q3 σ4 H4 Z4 Fs4 s4 ok5
  · exact q.elim
/-- more turns change nothing -/
theorem whileL_mono {t : En → Ot Bool} {b : Mst} : ∀ {n m : Nat} {ρ : En} {r : Out × En}, whileL t b n ρ = some r → n ≤ m → whileL t b m ρ = some r
  | 0, _, _, _, h, _ => nomatch h
  | n + 1, 0, _, _, _, l => absurd l (by omega)
  | n + 1, m + 1, ρ, r, h, l => by
    have ih := fun ρ2 => whileL_mono (t := t) (b := b) (n := n) (m := m) (ρ := ρ2) (r := r)
    unfold whileL at h ⊢
    cases e : t ρ with
    | no => rw [e] at h; cases h
    | ex x => rw [e] at h; exact h
    | ok bb =>
      rw [e] at h
      cases bb with
      | false => exact h
      | true =>
        simp only [if_true] at h ⊢
        cases e2 : b ρ with
        | none => rw [e2] at h; cases h
        | some q =>
          obtain ⟨o, ρ2⟩ := q
          rw [e2] at h
          cases o with
          | nx => exact ih ρ2 h (by omega)
          | cnt => exact ih ρ2 h (by omega)
          | brk => exact h
          | ret d => exact h
          | ex x => exact h
theorem sWhile_of {t : En → Ot Bool} {b : Mst} {n : Nat} {ρ : En} {r : Out × En} (h : whileL t b n ρ = some r) : sWhile t b ρ = some r := by
  have hex : ∃ n, (whileL t b n ρ).isSome := ⟨n, by rw [h]; rfl⟩
  unfold sWhile
  rw [dif_pos hex]
  have h2 := Classical.choose_spec hex
  obtain ⟨r2, e2⟩ := Option.isSome_iff_exists.mp h2
  rw [e2]
  rcases Nat.le_total n (Classical.choose hex) with l | l
  · rw [← e2, whileL_mono h l]
  · rw [← h, whileL_mono e2 l]
end
end OB

namespace OB
open PySem PySem.Spec PyProof.Rows L2

def initE (n : Nat) (ds : List D) : En := ds.map some ++ List.replicate (n - ds.length) none
def bodyM (n : Nat) (g : Mst) : List D → Ot D := fun ds => match g (initE n ds) with
  | some (.nx, _) => .ok .non
  | some (.ret d, _) => .ok d
  | some (.ex x, _) => .ex x
  | _ => .no
section
variable {P : Program} {w : World} {K : PySem.W.Frag} {mg : Str → Option Value} {base : Heap} {cm : Cm}
theorem init_ok {H : Hp} {f : Addr → Prop} {ds : List D} {vs : List V} {Gs : List (List Addr)} {N : List Str} (hf : ∀ a, f a → H a ≠ none) (e : Gs.flatten = []) (r : RepL K cm H (lentZ H f) ds vs Gs) (hl : vs.length ≤ N.length) :
    Ok K cm H (start N vs) (initE N.length ds) (Gs ++ List.replicate (N.length - ds.length) []) (lentZ H f) := by
  have fl : (Gs ++ List.replicate (N.length - ds.length) ([] : List Addr)).flatten = [] := by
    rw [List.flatten_append, e, List.nil_append]
    induction N.length - ds.length with
    | zero => rfl
    | succ n ih => rw [List.replicate_succ, List.flatten_cons, ih]; rfl
  obtain ⟨l1, l2⟩ := r.len
  refine ⟨⟨?_, ?_, ?_⟩, dom_lent hf, (by rw [fl]; exact fun _ h => (nomatch h)), (by rw [fl]; exact List.nodup_nil), (by rw [fl]; exact fun _ h => (nomatch h)), fun _ h => h⟩
  · simp [L2.start, initE, l1]
  · simp [initE, l1, l2]
  · intro i d q
    unfold L2.start
    unfold initE at q
    by_cases hi : i < ds.length
    · rw [List.getElem?_append_left (by simpa using hi), List.getElem?_map] at q
      cases qd : ds[i]? with
      | none => rw [qd] at q; cases q
      | some d' =>
        rw [qd] at q
        cases q
        obtain ⟨v, F, a, b, c⟩ := r.get qd
        refine ⟨v, F, ?_, ?_, c⟩
        · rw [List.getElem?_append_left (by rw [List.length_map, l1]; exact hi), List.getElem?_map, a]; rfl
        · rw [List.getElem?_append_left (by rw [l2]; exact hi), b]
    · rw [List.getElem?_append_right (by simp; omega), List.getElem?_replicate] at q
      split at q <;> cases q
theorem body_fin {H : Hp} {f : Addr → Prop} {ds : List D} {vs : List V} {Gs : List (List Addr)} {N : List Str} {g : Mst} {Q : VK} {E : XK} (hf : ∀ a, f a → H a ≠ none) (e : Gs.flatten = []) (r : RepL K cm H (lentZ H f) ds vs Gs) (hl : vs.length ≤ N.length)
    (q : FinD K cm (fun cls dd _ H' => E cls dd H') [] H (lentZ H f) Q (bodyM N.length g ds)) : tS K cm (fun cls dd _ H' => E cls dd H') [] g { nx := fun _ H' => Q .non H', rt := Q } (start N vs) H := by
  refine ⟨_, _, _, init_ok hf e r hl, ?_⟩
  have fl : (Gs ++ List.replicate (N.length - ds.length) ([] : List Addr)).flatten = [] := by
    rw [List.flatten_append, e, List.nil_append]
    induction N.length - ds.length with
    | zero => rfl
    | succ n ih => rw [List.replicate_succ, List.flatten_cons, ih]; rfl
  have ext : ∀ {σ' H' Z' Fs'}, SStep [] (start N vs) H (lentZ H f) (Gs ++ List.replicate (N.length - ds.length) []) σ' H' Z' Fs' → Dom H' Z' → Ext H (lentZ H f) H' ⟨Z'.f, (lentZ H f).b, (lentZ H f).t⟩ := fun {σ' H' Z' Fs'} s dm =>
    ⟨fun a o h => s.keep a o h (by rw [fl]; exact fun h => (nomatch h)), s.f, fun a h => (s.fn a h).elim .inl fun h => h.elim (by rw [fl]; exact fun h => (nomatch h)) .inr, dm.f, rfl, rfl⟩
  have ze : ∀ {σ' H' Z' Fs' ρ'}, SStep [] (start N vs) H (lentZ H f) (Gs ++ List.replicate (N.length - ds.length) []) σ' H' Z' Fs' → Ok K cm H' σ' ρ' Fs' Z' → Z' = ⟨Z'.f, (lentZ H f).b, (lentZ H f).t⟩ := fun {σ' H' Z' Fs' ρ'} s ok => by
    have h1 := s.b
    have h2 : Z'.t = fun _ => False := funext fun a => propext ⟨ok.t a, fun h => h.elim⟩
    cases Z'
    simp only at h1 h2
    rw [h1, h2]
    rfl
  unfold bodyM at q
  cases e1 : g (initE N.length ds) with
  | none => rw [e1] at q; exact q.elim
  | some p =>
    obtain ⟨o, ρ1⟩ := p
    rw [e1] at q
    intro σ' H' Z' Fs' s ok
    have xt := ext s ok.dom
    have zz := ze s ok
    cases o with
    | nx => exact q .non H' _ [] ⟨xt, ⟨rfl, rfl⟩, List.nodup_nil, fun _ h => (nomatch h), fun _ h => (nomatch h)⟩
    | brk => exact q.elim
    | cnt => exact q.elim
    | ret d =>
      intro v F r nd nz org
      rw [zz] at r
      exact q v H' _ F ⟨xt, r, (List.nodup_append.mp nd).2.1, fun a h => (org a h).elim (by rw [fl]; exact fun h => (nomatch h)) .inl, fun a h => (nz a h).1⟩
    | ex x =>
      intro cls dd xr
      rw [zz] at xr
      exact q cls dd H' _ xt xr
theorem fn_pure {x qual : Str} {st : Stmt} {f : Addr} {fd : FuncData} {N ps : List Str} {k : Nat} {g : Mst} (F : Fun K x qual st f fd) (S : FnScope N ps (defScope st)) (hl : ps.length ≤ N.length)
    (hb : ∀ (cdv : Value) (A : Around) (outer : List Env) (s : Shared) (H : Hp) (E : XK), Room k (A.deeper (envOfC qual (defScope st) s.heap.objs.size f cdv)) →
      SB (cxOf (L2.CX P w) P w K mg base N qual (defScope st) f cdv A outer s H E) cm (fun cls dd _ H' => E cls dd H') [] (defBody st) g) :
    FnOk P w K mg base (L2.CX P w) (k + 1) f fd ps (spP K cm ps.length (bodyM N.length g)) :=
  F.okX S (fun _ _ _ _ h => spP_len h) fun cdv A outer s H vs Q E hr h => ⟨_, hb cdv A outer s H E hr, by
    have hv := spP_len h
    obtain ⟨f, ds, Gs, hf, _, e, r, q⟩ := h
    exact body_fin hf e r (by rw [hv]; exact hl) q⟩
end
end OB

namespace OB
open PySem PySem.Spec PyProof.Rows L2

def getP : D → List Nat → Option D
  | d, [] => some d
  | .nd _ ds, j :: js => match ds[j]? with
    | some dj => getP dj js
    | none => none
  | _, _ :: _ => none
def putP (d : D) (js : List Nat) (d1 : D) : D := match js with
  | [] => d1
  | j :: js => match d with
    | .nd k ds => match ds[j]? with
      | some dj => .nd k (ds.set j (putP dj js d1))
      | none => d
    | d => d
def Reach (K : PySem.W.Frag) (cm : Cm) (H : Hp) (Z : Zn) : D → V → List Nat → V → Prop
  | _, v, [], v0 => v = v0
  | .nd k ds, v, j :: js, v0 => ∃ a vs vj dj, v = .ref a ∧ Cell K cm H Z a k vs ∧ ds[j]? = some dj ∧ vs[j]? = some vj ∧ Reach K cm H Z dj vj js v0
  | _, _, _ :: _, _ => False
section
variable {K : PySem.W.Frag} {cm : Cm} {H H' : Hp} {Z Z' : Zn}
theorem RepL.focus : ∀ (ds : List D) {vs : List V} {Fs : List (List Addr)} {j : Nat} {dj : D}, RepL K cm H Z ds vs Fs → ds[j]? = some dj → ∃ vj Fj A B, vs[j]? = some vj ∧ Fs.flatten = A ++ Fj ++ B ∧ Rep K cm H Z dj vj Fj ∧
    ∀ (H' : Hp) (Z' : Zn) (d1 : D) (F1 : List Addr), (∀ d v F, Rep K cm H Z d v F → (∀ x ∈ F, x ∈ A ∨ x ∈ B) → Rep K cm H' Z' d v F) → Rep K cm H' Z' d1 vj F1 → ∃ Fs', Fs'.flatten = A ++ F1 ++ B ∧ RepL K cm H' Z' (ds.set j d1) vs Fs'
  | [], _, _, _, _, _, e => by simp at e
  | d :: ds, _, _, 0, dj, h, e => by
    obtain ⟨v, vs', F, Fs', rfl, rfl, h1, h2⟩ := h
    cases e
    refine ⟨v, F, [], Fs'.flatten, rfl, by simp, h1, fun H' Z' d1 F1 m r => ⟨F1 :: Fs', by simp, repL_cons r ?_⟩⟩
    have key : ∀ (ds : List D) (vs : List V) (Gs : List (List Addr)), RepL K cm H Z ds vs Gs → (∀ x ∈ Gs.flatten, x ∈ Fs'.flatten) → RepL K cm H' Z' ds vs Gs := by
      intro ds
      induction ds with
      | nil => exact fun vs Gs h _ => h
      | cons d ds ih =>
        intro vs Gs h sub
        obtain ⟨v, vs', F, Fs', rfl, rfl, h1, h2⟩ := h
        exact repL_cons (m d v F h1 fun x hx => .inr (sub x (by rw [List.flatten_cons]; exact List.mem_append_left _ hx))) (ih _ _ h2 fun x hx => sub x (by rw [List.flatten_cons]; exact List.mem_append_right _ hx))
    exact key ds vs' Fs' h2 fun _ h => h
  | d :: ds, _, _, j + 1, dj, h, e => by
    obtain ⟨v, vs', F, Fs', rfl, rfl, h1, h2⟩ := h
    obtain ⟨vj, Fj, A, B, e1, e2, r, k⟩ := RepL.focus ds (j := j) h2 (by simpa using e)
    refine ⟨vj, Fj, F ++ A, B, by simpa using e1, by rw [List.flatten_cons, e2]; simp, r, fun H' Z' d1 F1 m r1 => ?_⟩
    obtain ⟨Gs, g1, g2⟩ := k H' Z' d1 F1 (fun d v F' h hx => m d v F' h fun x q => (hx x q).elim (fun q => .inl (List.mem_append_right _ q)) .inr) r1
    exact ⟨F :: Gs, by rw [List.flatten_cons, g1]; simp, repL_cons (m d v F h1 fun x hx => .inl (List.mem_append_left _ hx)) g2⟩
theorem Rep.focus : ∀ (js : List Nat) {d : D} {v : V} {F : List Addr} {d0 : D}, Rep K cm H Z d v F → getP d js = some d0 → ∃ v0 F0 A B, F = A ++ F0 ++ B ∧ Rep K cm H Z d0 v0 F0 ∧ Reach K cm H Z d v js v0 ∧
    ∀ (p : Addr) (H' : Hp) (Z' : Zn) (d1 : D) (F1 : List Addr), p ∈ F0 → F.Nodup → CellMove K cm H H' Z Z' id (fun a => a ≠ p) → Rep K cm H' Z' d1 v0 F1 → Rep K cm H' Z' (putP d js d1) v (A ++ F1 ++ B)
  | [], d, v, F, d0, h, e => by
    simp only [getP, Option.some.injEq] at e
    subst e
    exact ⟨v, F, [], [], by simp, h, by unfold Reach; rfl, fun p H' Z' d1 F1 _ _ _ r => by simpa [putP] using r⟩
  | j :: js, .nd k ds, v, F, d0, h, e => by
    obtain ⟨a, vs, Fs, rfl, c, l, rfl⟩ := h
    unfold getP at e
    cases ej : ds[j]? with
    | none => rw [ej] at e; cases e
    | some dj =>
      rw [ej] at e
      obtain ⟨vj, Fj, A, B, e1, e2, r, kk⟩ := RepL.focus ds l ej
      obtain ⟨v0, F0, A2, B2, e3, r0, rc, k2⟩ := Rep.focus js r e
      refine ⟨v0, F0, ownA k a ++ A ++ A2, B2 ++ B, by rw [e2, e3]; simp, r0, ⟨a, vs, vj, dj, rfl, c, ej, e1, rc⟩, fun p H' Z' d1 F1 hp nd mv r1 => ?_⟩
      have nd2 := nd
      rw [e2, e3] at nd2
      have hpA : p ∉ ownA k a := fun q => (List.nodup_append.mp nd2).2.2 p q p (by simp [hp]) rfl
      have nd3 := (List.nodup_append.mp nd2).2.1
      have ndj : Fj.Nodup := by
        rw [← e3] at nd3
        exact (List.nodup_append.mp (List.nodup_append.mp nd3).1).2.1
      have hx : ∀ x, x ∈ A ∨ x ∈ B → x ≠ p := fun x hx q => by
        subst q
        rw [← e3, List.append_assoc] at nd3
        have pj : x ∈ Fj := by rw [e3]; simp [hp]
        rcases hx with hx | hx
        · exact (List.nodup_append.mp nd3).2.2 x hx x (List.mem_append_left _ pj) rfl
        · exact (List.nodup_append.mp (List.nodup_append.mp nd3).2.1).2.2 x pj x hx rfl
      obtain ⟨Gs, g1, g2⟩ := kk H' Z' (putP dj js d1) (A2 ++ F1 ++ B2) (fun d v F h hF => h.stay mv fun x q => hx x (hF x q)) (k2 p H' Z' d1 F1 hp ndj mv r1)
      have cc := mv a k vs c (fun q z => hpA (by unfold ownA; rw [if_pos q, z]; exact List.mem_cons_self))
      rw [Kd.mapF_id] at cc
      refine (show Rep K cm H' Z' (putP (.nd k ds) (j :: js) d1) (.ref a) _ from ?_)
      unfold putP
      dsimp only
      rw [ej]
      exact ⟨a, vs, Gs, rfl, cc, g2, by rw [g1]; simp⟩
  | _ :: _, .non, _, _, _, _, e => by simp [getP] at e
  | _ :: _, .bl _, _, _, _, _, e => by simp [getP] at e
  | _ :: _, .int _, _, _, _, _, e => by simp [getP] at e
  | _ :: _, .str _, _, _, _, _, e => by simp [getP] at e
theorem set_nodup2 : ∀ {Fs : List (List Addr)} {i : Nat} {F F' : List Addr}, Fs.flatten.Nodup → Fs[i]? = some F → F'.Nodup → (∀ x ∈ F', x ∈ F ∨ x ∉ Fs.flatten) → (Fs.set i F').flatten.Nodup
  | [], _, _, _, h, e, _, _ => h
  | G :: Fs, 0, F, F', h, e, hF, hx => by
    cases e
    rw [List.flatten_cons, List.nodup_append] at h
    rw [List.set_cons_zero, List.flatten_cons, List.nodup_append]
    exact ⟨hF, h.2.1, fun a ha b hb e => by
      subst e
      rcases hx a ha with q | q
      · exact h.2.2 a q a hb rfl
      · exact q (by rw [List.flatten_cons]; exact List.mem_append_right _ hb)⟩
  | G :: Fs, i + 1, F, F', h, e, hF, hx => by
    rw [List.flatten_cons, List.nodup_append] at h
    rw [List.set_cons_succ, List.flatten_cons, List.nodup_append]
    have e : Fs[i]? = some F := by simpa using e
    refine ⟨h.1, set_nodup2 h.2.1 e hF fun x q => (hx x q).imp id fun z w => z (by rw [List.flatten_cons]; exact List.mem_append_right _ w), fun a ha b hb ee => ?_⟩
    subst ee
    rcases set_mem hb with q | q
    · exact h.2.2 a ha a q rfl
    · rcases hx a q with z | z
      · exact h.2.2 a ha a (flat_mem e z) rfl
      · exact z (by rw [List.flatten_cons]; exact List.mem_append_left _ ha)
theorem RepE.upd1 {σ : L2.St} {ρ : En} {Fs : List (List Addr)} {i : Nat} {d' : D} {v : V} {F F' : List Addr} {p : Addr} (r : RepE K cm H Z σ ρ Fs) (nd : Fs.flatten.Nodup) (hs : σ[i]? = some (some v)) (hF : Fs[i]? = some F) (hp : p ∈ F)
    (mv : CellMove K cm H H' Z Z' id (fun a => a ≠ p)) (h : Rep K cm H' Z' d' v F') : RepE K cm H' Z' σ (ρ.set i (some d')) (Fs.set i F') := by
  refine ⟨by simpa using r.lσ, by simpa using r.lF, fun j d q => ?_⟩
  by_cases e : i = j
  · subst e
    rw [List.getElem?_set] at q
    split at q
    · split at q
      · cases q
        refine ⟨v, F', hs, ?_, h⟩
        rw [List.getElem?_set_self]
        have := (List.getElem?_eq_some_iff.mp hF).1
        exact this
      · cases q
    · rename_i n
      exact absurd rfl n
  · rw [List.getElem?_set_ne e] at q
    obtain ⟨v2, F2, a, b, c⟩ := r.get j d q
    refine ⟨v2, F2, a, by rw [List.getElem?_set_ne e]; exact b, c.stay mv (fun x z => ?_)⟩
    intro e2
    rw [e2] at z
    -- p is in slot i alone
    have key : ∀ {Fs : List (List Addr)} {i j : Nat} {F F2 : List Addr}, Fs.flatten.Nodup → Fs[i]? = some F → Fs[j]? = some F2 → i ≠ j → p ∈ F → p ∈ F2 → False := by
      intro Fs
      induction Fs with
      | nil => intro i j F F2 _ e; simp at e
      | cons G Fs ih =>
        intro i j F F2 nd e1 e2 ne h1 h2
        rw [List.flatten_cons, List.nodup_append] at nd
        cases i with
        | zero =>
          cases j with
          | zero => exact ne rfl
          | succ j =>
            cases e1
            exact nd.2.2 p h1 p (flat_mem (by simpa using e2) h2) rfl
        | succ i =>
          cases j with
          | zero =>
            cases e2
            exact nd.2.2 p h2 p (flat_mem (by simpa using e1) h1) rfl
          | succ j => exact ih nd.2.1 (by simpa using e1) (by simpa using e2) (fun q => ne (by rw [q])) h1 h2
    exact key nd hF b e hp z
theorem cell_then {H1 H2 : Hp} {Z1 Z2 : Zn} {O : Addr → Prop} (m1 : CellMove K cm H H1 Z Z1 id (fun _ => True)) (m2 : CellMove K cm H1 H2 Z1 Z2 id O) : CellMove K cm H H2 Z Z2 id O := fun a k vs h ho => by
  have c1 := m1 a k vs h fun _ => trivial
  rw [Kd.mapF_id] at c1
  exact m2 a k vs c1 ho
/-- the place js within the i-th local takes other content -/
theorem Ok.mutP {σ : L2.St} {ρ : En} {Fs : List (List Addr)} {i : Nat} {js : List Nat} {d : D} {k : Kd} {es : List D} (ok : Ok K cm H σ ρ Fs Z) (hi : ρ[i]? = some (some d)) (hj : getP d js = some (.nd k es)) (hk : k.isOwn = true) :
    ∃ v a us Es, σ[i]? = some (some v) ∧ Reach K cm H Z d v js (.ref a) ∧ a ∈ Fs.flatten ∧ Cell K cm H Z a k us ∧ RepL K cm H Z es us Es ∧ (∀ x ∈ Es.flatten, x ∈ Fs.flatten) ∧ Es.flatten.Nodup ∧ a ∉ Es.flatten ∧
      ∀ H1 Z1 ds vs Gs, Ext H (lendZ Z Fs) H1 Z1 → OkT K cm H1 σ ρ Fs ⟨Z1.f, Z.b, fun _ => False⟩ ds vs Gs →
      ∀ k' es' us' Es' o', k'.isOwn = true → Cell K cm (L2.upd H1 a o') ⟨Z1.f, Z.b, fun _ => False⟩ a k' us' → Mut (some o') → RepL K cm H1 ⟨Z1.f, Z.b, fun _ => False⟩ es' us' Es' → (∀ x ∈ Es'.flatten, x ∈ Es.flatten ∨ x ∈ Gs.flatten) → Es'.flatten.Nodup →
        ∃ Fs', Ok K cm (L2.upd H1 a o') σ (ρ.set i (some (putP d js (.nd k' es')))) Fs' ⟨Z1.f, Z.b, fun _ => False⟩ ∧ (∀ x ∈ Fs'.flatten, x ∈ Fs.flatten ∨ x ∈ Gs.flatten) := by
  obtain ⟨v, F, hs, hF, r⟩ := ok.rep.get i d hi
  obtain ⟨v0, F0, A, B, eF, r0, rc, kk⟩ := r.focus js hj
  obtain ⟨a, us, Es, rfl, c, l, rfl⟩ := r0
  have hO : ownA k a = [a] := by unfold ownA; rw [if_pos hk]
  rw [hO] at eF kk
  have sub : ∀ x ∈ F, x ∈ Fs.flatten := fun x hx => flat_mem hF hx
  have ndF : F.Nodup := by
    have := ok.nd
    have key : ∀ {Fs : List (List Addr)} {i : Nat}, Fs.flatten.Nodup → Fs[i]? = some F → F.Nodup := by
      intro Fs
      induction Fs with
      | nil => intro i _ e; simp at e
      | cons G Fs ih =>
        intro i nd e
        rw [List.flatten_cons, List.nodup_append] at nd
        cases i with
        | zero => cases e; exact nd.1
        | succ i => exact ih nd.2.1 (by simpa using e)
    exact key this hF
  have ha : a ∈ Fs.flatten := sub a (by rw [eF]; simp)
  have hEs : ∀ x ∈ Es.flatten, x ∈ Fs.flatten := fun x hx => sub x (by rw [eF]; exact List.mem_append_left _ (List.mem_append_right _ (List.mem_append_right _ hx)))
  have ndF2 := ndF
  rw [eF] at ndF2
  have n1 := List.nodup_append.mp ndF2
  have n2 := List.nodup_append.mp n1.1
  have n3 := List.nodup_append.mp n2.2.1
  have ndEs : Es.flatten.Nodup := n3.2.1
  have aE : a ∉ Es.flatten := fun q => n3.2.2 a (List.mem_singleton.mpr rfl) a q rfl
  refine ⟨v, a, us, Es, hs, rc, ha, c, l, hEs, ndEs, aE, fun H1 Z1 ds vs Gs ex o k' es' us' Es' o' hk' c' mu' l' sub' nd' => ?_⟩
  have ndG := List.nodup_append.mp o.nd
  have mu := o.ok.mu a ha
  have nz := o.ok.nz a ha
  have nt := o.ok.t a
  have aG : a ∉ Gs.flatten := fun q => ndG.2.2 a ha a q rfl
  have l2 := l'.upd (p := a) (o := o') mu (fun q => (sub' a q).elim aE aG) nz.1 nz.2 nt
  have mv : CellMove K cm H (L2.upd H1 a o') Z ⟨Z1.f, Z.b, fun _ => False⟩ id (fun x => x ≠ a) :=
    cell_then (Z1 := ⟨Z1.f, Z.b, fun _ => False⟩) (cell_grow ex.gr ex.f (fun _ h => h) fun x h => (ok.t x h).elim) (cell_upd mu nz.1 nz.2 nt)
  have rr := kk a (L2.upd H1 a o') ⟨Z1.f, Z.b, fun _ => False⟩ (.nd k' es') ([a] ++ Es'.flatten) (by simp) ndF mv ⟨a, us', Es', rfl, c', l2, by unfold ownA; rw [if_pos hk']⟩
  have hF' : ∀ x ∈ A ++ ([a] ++ Es'.flatten) ++ B, x ∈ F ∨ x ∈ Gs.flatten := fun x hx => by
    rw [eF]
    simp only [List.mem_append] at hx ⊢
    rcases hx with (hx | hx | hx) | hx
    · exact .inl (.inl (.inl hx))
    · exact .inl (.inl (.inr (.inl hx)))
    · exact (sub' x hx).elim (fun q => .inl (.inl (.inr (.inr q)))) .inr
    · exact .inl (.inr hx)
  have gF : ∀ x ∈ Gs.flatten, x ∉ Fs.flatten := fun x hx q => ndG.2.2 x q x hx rfl
  have nF' : (A ++ ([a] ++ Es'.flatten) ++ B).Nodup := by
    have old : ∀ x, x ∈ Es'.flatten → x ∈ ([a] ++ Es.flatten) ∨ x ∉ Fs.flatten := fun x hx => (sub' x hx).elim (fun q => .inl (List.mem_append_right _ q)) fun q => .inr (gF x q)
    have old2 : ∀ x, x ∈ [a] ++ Es'.flatten → x ∈ ([a] ++ Es.flatten) ∨ x ∉ Fs.flatten := fun x hx => (List.mem_append.mp hx).elim (fun q => .inl (List.mem_append_left _ q)) (old x)
    have inA : ∀ x ∈ A, x ∈ Fs.flatten := fun x hx => sub x (by rw [eF]; exact List.mem_append_left _ (List.mem_append_left _ hx))
    have inB : ∀ x ∈ B, x ∈ Fs.flatten := fun x hx => sub x (by rw [eF]; exact List.mem_append_right _ hx)
    rw [List.nodup_append, List.nodup_append]
    refine ⟨⟨n2.1, List.nodup_append.mpr ⟨n3.1, nd', fun x hx y hy e => ?_⟩, fun x hx y hy e => ?_⟩, n1.2.1, fun x hx y hy e => ?_⟩
    · rw [List.mem_singleton] at hx
      subst hx; subst e
      exact (sub' x hy).elim aE aG
    · subst e
      exact (old2 x hy).elim (fun q => n2.2.2 x hx x q rfl) fun q => q (inA x hx)
    · subst e
      rcases List.mem_append.mp hx with q | q
      · exact n1.2.2 x (List.mem_append_left _ q) x hy rfl
      · exact (old2 x q).elim (fun z => n1.2.2 x (List.mem_append_right _ z) x hy rfl) fun z => z (inB x hy)
  have smem : ∀ x ∈ (Fs.set i (A ++ ([a] ++ Es'.flatten) ++ B)).flatten, x ∈ Fs.flatten ∨ x ∈ Gs.flatten := fun x hx => (set_mem hx).elim .inl fun q => (hF' x q).imp (sub x) id
  have gm : ∀ x ∈ Gs.flatten, Mut (H1 x) := RepL.mut ds o.rep
  refine ⟨Fs.set i (A ++ ([a] ++ Es'.flatten) ++ B), ⟨ok.rep.upd1 ok.nd hs hF (by rw [eF]; simp) mv rr, ?_, fun x hx => ?_, set_nodup2 ok.nd hF nF' fun x hx => (hF' x hx).imp id (gF x), fun x hx => (smem x hx).elim (o.ok.nz x) (o.nz x), o.ok.t⟩, smem⟩
  · refine ⟨fun x hx => ?_, fun x hx => ?_, fun x hx => (o.ok.t x hx).elim⟩
    · by_cases e : x = a
      · subst e; exact absurd hx nz.1
      · rw [upd_ne e]; exact o.ok.dom.f x hx
    · by_cases e : x = a
      · subst e; exact absurd hx nz.2
      · rw [upd_ne e]; exact o.ok.dom.b x hx
  · by_cases e : x = a
    · subst e; rw [upd_same]; exact mu'
    · rw [upd_ne e]; exact (smem x hx).elim (o.ok.mu x) (gm x)
end
end OB

namespace OB
open PySem PySem.Spec PyProof.Rows L2

/-- the place π within the i-th local -/
abbrev Pi' := En → Option (List Nat)
def tPth (K : PySem.W.Frag) (cm : Cm) (i : Nat) (π : Pi') : TE := fun σ H Q => ∃ Z ρ d js v v0, σ[i]? = some (some v) ∧ ρ[i]? = some (some d) ∧ π ρ = some js ∧ Reach K cm H Z d v js v0 ∧ Q v0 H
def pHere : Pi' := fun _ => some []
abbrev SPth (X : Cx) (cm : Cm) (e : Expr) (i : Nat) (π : Pi') : Prop := PE X e (tPth X.K cm i π)
theorem sp_name {X : Cx} {cm : Cm} {x : Str} {p : Pos} {i : Nat} (he : PE X (.Name x p) (tVar i)) : SPth X cm (.Name x p) i pHere := PE.imp he fun σ H Q q => by
  obtain ⟨Z, ρ, d, js, v, v0, h1, h2, h3, h4, q⟩ := q
  cases h3
  have h4 : v = v0 := by
    cases d <;> exact h4
  subst h4
  exact ⟨v, h1, q⟩
def placeOf (i : Nat) (π : Pi') (ρ : En) : Option (D × List Nat × Kd × List D) := match ρ[i]? with
  | some (some d) => match π ρ with
    | some js => match getP d js with
      | some (.nd k es) => if k.isOwn then some (d, js, k, es) else none
      | _ => none
    | none => none
  | _ => none
theorem placeOf_eq {i : Nat} {π : Pi'} {ρ : En} {d : D} {js : List Nat} {k : Kd} {es : List D} (h : placeOf i π ρ = some (d, js, k, es)) : ρ[i]? = some (some d) ∧ π ρ = some js ∧ getP d js = some (.nd k es) ∧ k.isOwn = true := by
  unfold placeOf at h
  split at h
  · split at h
    · split at h
      · split at h
        · cases h; exact ⟨by assumption, by assumption, by assumption, by assumption⟩
        · cases h
      · cases h
    · cases h
  · cases h
def putAt (i : Nat) (ρ : En) (d : D) (js : List Nat) (x : D) : En := ρ.set i (some (putP d js x))

section
variable {K : PySem.W.Frag} {cm : Cm} {H H1 H' : Hp} {Z Z1 Z' : Zn} {σ : L2.St} {ρ : En} {Fs : List (List Addr)} {P : List Nat} {W : WX}
theorem noT_repL : ∀ {ds : List D} {vs : List V} {Gs : List (List Addr)} {t' : Addr → Prop}, RepL K cm H Z ds vs Gs → ds.all noT = true → RepL K cm H ⟨Z.f, Z.b, t'⟩ ds vs Gs
  | [], _, _, _, r, _ => r
  | d :: ds, _, _, t', r, h => by
    obtain ⟨v, vs', F, Fs', rfl, rfl, h1, h2⟩ := r
    rw [List.all_cons, Bool.and_eq_true] at h
    exact repL_cons (noT_rep h1 h.1) (noT_repL h2 h.2)
theorem Ok.many (ok : Ok K cm H σ ρ Fs Z) {ds : List D} {vs : List V} {Gs : List (List Addr)} (r : ResL K cm H (lendZ Z Fs) H1 Z1 [] ds vs Gs) (h : ds.all noT = true) : OkT K cm H1 σ ρ Fs ⟨Z1.f, Z.b, fun _ => False⟩ ds vs Gs := by
  have hb : Z1.b = Z.b := r.ext.b
  have fr : ∀ a ∈ Gs.flatten, H a = none := fun a h => (r.fr a h).elim id fun q => nomatch q
  refine ⟨ok.ext r.ext, ?_, ?_, fun a ha => ?_⟩
  · have := noT_repL (t' := fun _ => False) r.rep h
    rwa [hb] at this
  · rw [List.nodup_append]
    exact ⟨ok.nd, r.nd, fun a ha b hb e => by subst e; exact mut_ne (ok.mu a ha) (fr a hb)⟩
  · exact ⟨r.nf a ha, fun q => ok.dom.b a q (fr a ha)⟩
/-- values ahead of a statement's own work -/
def sOnL (f : En → Ot (List D)) (k : List D → Mst) : Mst := fun ρ => match f ρ with
  | .no => none
  | .ok ds => k ds ρ
  | .ex x => some (.ex x, ρ)
theorem on_goF {f : En → Ot (List D)} {k : List D → Mst} {D0 : Ends} {Q : List V → Hp → Prop} (ok : Ok K cm H σ ρ Fs Z) (q : FinS K cm W P D0 σ H Z Fs (sOnL f k ρ))
    (hk : ∀ ds vs H1 Z1 Gs, f ρ = .ok ds → ResL K cm H (lendZ Z Fs) H1 Z1 [] ds vs Gs → FinS K cm W P D0 σ H Z Fs (k ds ρ) → Q vs H1) : FinL K cm W σ H (lendZ Z Fs) Q (f ρ) := by
  unfold sOnL at q
  cases e : f ρ with
  | no => rw [e] at q; exact q.elim
  | ok d =>
    rw [e] at q
    exact fun vs H1 Z1 Gs r => hk d vs H1 Z1 Gs e r q
  | ex x =>
    rw [e] at q
    intro cls dd H1 Z1 ex xr
    exact q σ H1 _ Fs (.ext ok ex) (ok.ext ex) cls dd (xr.back fun _ h => h)
theorem on_goL {f : En → Ot (List D)} {k : List D → Mst} {D0 : Ends} {Q : List V → Hp → Prop} (ok : Ok K cm H σ ρ Fs Z) (q : FinS K cm W P D0 σ H Z Fs (sOnL f k ρ))
    (hk : ∀ ds vs H1 Z1 Gs, f ρ = .ok ds → ResL K cm H (lendZ Z Fs) H1 Z1 [] ds vs Gs → FinS K cm W P D0 σ H Z Fs (k ds ρ) → Q vs H1) : tPL K cm W f σ H Q := ⟨lendZ Z Fs, ρ, Fs, ok.pure, on_goF ok q hk⟩
/-- a change of a place as a step -/
theorem SStep.put {a : Addr} {o' : HO} {Fs' Gs : List (List Addr)} (ex : Ext H (lendZ Z Fs) H1 Z1) (ha : a ∈ Fs.flatten) (sub : ∀ x ∈ Fs'.flatten, x ∈ Fs.flatten ∨ x ∈ Gs.flatten) (fr : ∀ x ∈ Gs.flatten, H x = none) :
    SStep P σ H Z Fs σ (L2.upd H1 a o') ⟨Z1.f, Z.b, fun _ => False⟩ Fs' :=
  ⟨fun x o h n => by rw [upd_ne (fun e => n (by rw [e]; exact ha))]; exact ex.gr x o h, fun x h => (sub x h).imp id (fr x), ex.f, fun x h => (ex.fn x h).elim .inl fun q => .inr (.inr q), rfl, fun _ _ => rfl⟩
end

/-! ### methods of lists that change them -/
/-- what a method makes of a list -/
def MutR (K : PySem.W.Frag) (cm : Cm) (r : V → List V → Hp → VK → Prop) (m : List D → List D → Option (List D)) : Prop := ∀ (H : Hp) (Z : Zn) (l : Addr) (us : List V) (es : List D) (Es : List (List Addr)) (ds : List D) (vs : List V) (Gs : List (List Addr)) (es' : List D),
  H l = some (.lst us) → RepL K cm H Z es us Es → RepL K cm H Z ds vs Gs → (∀ x ∈ Gs.flatten, x ≠ l) → m es ds = some es' → ∃ us' Es', RepL K cm H Z es' us' Es' ∧ (∀ x ∈ Es'.flatten, x ∈ Es.flatten ∨ x ∈ Gs.flatten) ∧ ((Es.flatten ++ Gs.flatten).Nodup → Es'.flatten.Nodup) ∧
    ∀ Q : VK, (∀ y, Q y (L2.upd H l (.lst us'))) → r (.ref l) vs H Q
def mApp (es ds : List D) : Option (List D) := match ds with
  | [d] => if es.length < sizeLine then some (es ++ [d]) else none
  | _ => none
theorem mut_append {K : PySem.W.Frag} {cm : Cm} : MutR K cm rAppend mApp := fun H Z l us es Es ds vs Gs es' hl re rd _ h => by
  unfold mApp at h
  split at h
  · split at h
    · rename_i d hs
      cases h
      obtain ⟨v, F, rfl, rfl, hd⟩ := repL1 rd
      refine ⟨us ++ [v], Es ++ [F], re.app (repL_cons hd repL_nil), fun x hx => ?_, fun nd => by simpa using nd, fun Q q => ⟨l, us, v, rfl, rfl, hl, by rw [re.len.1]; exact hs, q _⟩⟩
      rw [List.flatten_append] at hx
      exact List.mem_append.mp hx
    · cases h
  · cases h
def sMut (i : Nat) (π : Pi') (m : List D → List D → Option (List D)) (f : En → Ot (List D)) : Mst := fun ρ => match placeOf i π ρ with
  | some (d, js, .lst .own, es) => sOnL f (fun ds ρ => if ds.all noT then (match m es ds with
      | some es' => some (.nx, putAt i ρ d js (.lst .own es'))
      | none => none) else none) ρ
  | _ => none
section
variable {X : Cx} {cm : Cm} {W : WX} {P : List Nat} {o e : Expr} {es : List Expr} {fs : List (En → Ot D)} {name : Str} {apos cpos pos : Pos} {id : String} {r : V → List V → Hp → VK → Prop} {m : List D → List D → Option (List D)} {i : Nat} {π : Pi'}
theorem mut_end {K : PySem.W.Frag} {t : TA} {f : En → Ot (List D)} (ht : ∀ σ H Q, tPL K cm W f σ H Q → t σ H Q) (hm : MutR K cm r m) {D0 : Ends} {σ : L2.St} {H : Hp} (q : tS K cm W P (sMut i π m f) D0 σ H) :
    tPth K cm i π σ H fun x H1 => tyV K "list" x H1 ∧ t σ H1 fun xs H2 => r x xs H2 fun _ H3 => D0.nx σ H3 := by
  obtain ⟨Z, ρ, Fs, ok, q⟩ := q
  unfold sMut at q
  split at q
  · rename_i d js es hp
    obtain ⟨h1, h2, h3, h4⟩ := placeOf_eq hp
    obtain ⟨v, a, us, Es, hs, rc, ha, c, l, hEs, ndE, aE, kk⟩ := ok.mutP h1 h3 h4
    refine ⟨Z, ρ, d, js, v, _, hs, h1, h2, rc, .inl ⟨rfl, us, .inl c.2.1⟩, ht _ _ _ (on_goL ok q fun ds vs H1 Z1 Gs e r1 q1 => ?_)⟩
    split at q1
    · rename_i hc
      split at q1
      · rename_i es' hm'
        have o := ok.many r1 hc
        have l1 : RepL K cm H1 ⟨Z1.f, Z.b, fun _ => False⟩ es us Es := l.grow r1.ext.gr r1.ext.f (fun _ h => h) fun x h => (ok.t x h).elim
        have fr : ∀ a ∈ Gs.flatten, H a = none := fun a h => (r1.fr a h).elim id fun q => nomatch q
        obtain ⟨us', Es', l2, sub, nd, fin⟩ := hm H1 ⟨Z1.f, Z.b, fun _ => False⟩ a us es Es ds vs Gs es' (r1.ext.gr _ _ (c.1 (by decide))) l1 o.rep (fun x hx e => mut_ne (ok.mu a ha) (e ▸ fr x hx)) hm'
        have nd2 := List.nodup_append.mp o.nd
        have ndEG : (Es.flatten ++ Gs.flatten).Nodup := List.nodup_append.mpr ⟨ndE, nd2.2.1, fun x hx y hy e => nd2.2.2 x (hEs x hx) y hy e⟩
        refine fin _ fun y => ?_
        obtain ⟨Fs', ok', sub'⟩ := kk H1 Z1 ds vs Gs r1.ext o (.lst .own) es' us' Es' (.lst us') rfl ⟨fun _ => upd_same, .inl upd_same, trivial⟩ trivial l2 sub (nd ndEG)
        exact q1 σ _ _ Fs' (.put r1.ext ha sub' fr) ok'
      · exact q1.elim
    · exact q1.elim
  · exact q.elim
theorem ss_mut (slot : Slot "list" name id) (hty : typeOf (.builtin id) = pure (.type "method_descriptor")) (hr : MtR X id r) (hm : MutR X.K cm r m) (ho : SPth X cm o i π) (ha : SA X cm W (e :: es) (eL fs))
    (hsw : swapsWith (.Call (.Attribute o name apos) (e :: es) [] cpos) none pos.line X.env = pure false := by rfl)
    (hbase : attributeBase o name X.env (eval o X.env) = eval o X.env := by rfl)
    (hfew : ((backTo cpos (starEach (e :: es) X.env)).all (fun x => !x.1) && (backToKw cpos (keywordEach [] X.env)).all (fun x => x.1.isSome)
      && decide ((e :: es).length + ([] : List Keyword).length + (if ([] : List Keyword).isEmpty then 0 else 1) < 30)) = true := by rfl)
    (hline : (apos.endLine == cpos.line) = true := by rfl) (hs : starEach (e :: es) X.env = (false, eval e X.env) :: starEach es X.env := by rfl) (hplain : (backTo cpos (starEach es X.env)).any (·.1) = false := by rfl) :
    SS X cm W P (.Expr (.Call (.Attribute o name apos) (e :: es) [] cpos) pos) (sMut i π m (eL fs)) :=
  PS.imp (ps_expr (pe_bm PySem.F.plainAttrs_list slot hty hr ho ha hbase hfew hline hs hplain) hsw) fun D0 σ H q => mut_end (fun _ _ _ h => h) hm q
end

/-! ### o[i] = v -/
def putD (k : Kd) (es : List D) (key x : D) : Option (Kd × List D) := match k with
  | .lst .own => match key with
    | .int z => match ixN es.length z with
      | some j => some (.lst .own, es.set j x)
      | none => none
    | _ => none
  | _ => none
section
variable {K : PySem.W.Frag} {cm : Cm} {H H1 H' : Hp} {Z Z1 Z' : Zn} {σ : L2.St} {ρ : En} {Fs : List (List Addr)} {P : List Nat} {W : WX}
theorem Reach.move {O : Addr → Prop} (m : CellMove K cm H H' Z Z' id (fun _ => True)) : ∀ (js : List Nat) {d : D} {v v0 : V}, Reach K cm H Z d v js v0 → Reach K cm H' Z' d v js v0
  | [], d, v, v0, h => by cases d <;> exact h
  | j :: js, d, v, v0, h => by
    cases d with
    | nd k ds =>
      obtain ⟨a, vs, vj, dj, rfl, c, e1, e2, r⟩ := h
      have cc := m a k vs c fun _ => trivial
      rw [Kd.mapF_id] at cc
      exact ⟨a, vs, vj, dj, rfl, cc, e1, e2, Reach.move (O := O) m js r⟩
    | _ => exact h.elim
/-- two values, a place between -/
theorem two_mid {f g : En → Ot D} {i : Nat} {π : Pi'} {Q : List V → Hp → Prop} {R : V → V → V → Hp → Prop} {v0 : V} (ok : OkP K cm H σ ρ Fs Z) (h : FinL K cm W σ H Z Q (eL [f, g] ρ)) (mid : ∀ H1 Z1, Ext H Z H1 Z1 → ∀ Q' : VK, Q' v0 H1 → tPth K cm i π σ H1 Q') (hQ : ∀ x y H', Q [x, y] H' → R v0 x y H') :
    tP K cm W f σ H (fun x H1 => tPth K cm i π σ H1 fun o H2 => tP K cm W g σ H2 (fun y H3 => R o x y H3)) := by
  simp only [eL] at h
  refine tP_bind ok (fun q => ?_) (fun d q v H1 Z1 F r => ?_) (fun x q => ?_)
  · rw [q] at h; exact h
  · rw [q, Ot.bind_ok] at h
    refine mid H1 Z1 r.ext _ (tP_bind (ok.ext r.ext) (fun q2 => ?_) (fun d2 q2 v2 H2 Z2 F2 r2 => ?_) (fun x q2 => ?_))
    · rw [q2] at h; exact h
    · rw [q2] at h
      exact hQ _ _ _ (h [v, v2] H2 Z2 _ (ResL.cons r (ResL.cons r2 (.nil ((ok.ext r.ext).dom.ext r2.ext)))))
    · rw [q2] at h; exact fun cls dd H' Z' ex xr => h cls dd H' Z' (r.ext.trans ex) xr
  · rw [q] at h; exact h
def sPut (i : Nat) (π : Pi') (fv fi : En → Ot D) : Mst := fun ρ => match placeOf i π ρ with
  | some (d, js, k, es) => sOnL (eL [fv, fi]) (fun ds ρ => match ds with
    | [x, y] => if noT x && isAt y then (match putD k es y x with
      | some (k', es') => some (.nx, putAt i ρ d js (.nd k' es'))
      | none => none) else none
    | _ => none) ρ
  | none => none
/-- what o[i] = v makes -/
theorem put_ok {a : Addr} {k k' : Kd} {us : List V} {es es' : List D} {Es : List (List Addr)} {key x : D} {ky v : V} {F G : List Addr} (c : Cell K cm H Z a k us) (l : RepL K cm H Z es us Es) (rk : Rep K cm H Z key ky G) (rx : Rep K cm H Z x v F) (h : putD k es key x = some (k', es')) :
    ∃ us' Es' o', k'.isOwn = true ∧ Cell K cm (L2.upd H a o') Z a k' us' ∧ Mut (some o') ∧ RepL K cm H Z es' us' Es' ∧ (∀ y ∈ Es'.flatten, y ∈ Es.flatten ∨ y ∈ F) ∧ ((Es.flatten ++ F).Nodup → Es'.flatten.Nodup) ∧ ∀ Q : Hp → Prop, Q (L2.upd H a o') → rSetL (.ref a) ky v H Q := by
  unfold putD at h
  split at h
  · split at h
    · split at h
      · rename_i _ z _ j hj
        cases h
        have e : ky = .int z := rk.1
        subst e
        have hl := l.len.1
        refine ⟨us.set j v, Es.set j F, .lst (us.set j v), rfl, ⟨fun _ => upd_same, .inl upd_same, trivial⟩, trivial, l.set j rx, fun y hy => set_mem hy, fun nd => ?_, fun Q q => ⟨a, us, z, j, rfl, rfl, c.1 (by decide), by rw [hl]; exact hj, q⟩⟩
        rw [List.nodup_append] at nd
        exact set_nodup nd.1 nd.2.1 fun y hy hf => nd.2.2 y hy y hf rfl
      · cases h
    · cases h
  · cases h
theorem put_end {fv fi : En → Ot D} {i : Nat} {π : Pi'} {D0 : Ends} (q : tS K cm W P (sPut i π fv fi) D0 σ H) :
    tP K cm W fv σ H fun x H1 => tPth K cm i π σ H1 fun o H2 => tP K cm W fi σ H2 fun y H3 => rSetL o y x H3 fun H4 => D0.nx σ H4 := by
  obtain ⟨Z, ρ, Fs, ok, q⟩ := q
  unfold sPut at q
  split at q
  · rename_i d js k es hp
    obtain ⟨h1, h2, h3, h4⟩ := placeOf_eq hp
    obtain ⟨v, a, us, Es, hs, rc, ha, c, l, hEs, ndE, aE, kk⟩ := ok.mutP h1 h3 h4
    have key := on_goF (K := K) (cm := cm) (W := W) (P := P) (D0 := D0) (Q := fun vs H3 => ∃ x y, vs = [x, y] ∧ rSetL (.ref a) y x H3 fun H4 => D0.nx σ H4) ok q (fun ds vs H1 Z1 Gs e r1 q1 => by
      split at q1
      · rename_i x y
        split at q1
        · rename_i hc
          rw [Bool.and_eq_true] at hc
          split at q1
          · rename_i k' es' hm'
            obtain ⟨vx, vy, Gx, Gy, rfl, rfl, rx, ry⟩ := repL2 r1.rep
            have gy : Gy = [] := by
              cases y with
              | nd k ds => cases hc.2
              | _ => exact ry.2
            subst gy
            have o := ok.many (ds := [x, y]) r1 (by
              rw [List.all_cons, hc.1, List.all_cons, Bool.true_and]
              cases y with
              | nd k ds => cases hc.2
              | _ => rfl)
            obtain ⟨vx', vy', Gx', Gy', e1, e2, rx', ry'⟩ := repL2 o.rep
            cases e1
            cases e2
            have mv : CellMove K cm H H1 Z ⟨Z1.f, Z.b, fun _ => False⟩ id (fun _ => True) := cell_grow r1.ext.gr r1.ext.f (fun _ h => h) fun x h => (ok.t x h).elim
            have l1 : RepL K cm H1 ⟨Z1.f, Z.b, fun _ => False⟩ es us Es := l.stay mv fun _ _ => trivial
            have c1 := mv a k us c fun _ => trivial
            rw [Kd.mapF_id] at c1
            have fr : ∀ a ∈ ([Gx, []] : List (List Addr)).flatten, H a = none := fun a h => (r1.fr a h).elim id fun q => nomatch q
            obtain ⟨us', Es', o', g1, g2, g3, g4, g5, g6, fin⟩ := put_ok c1 l1 ry' rx' hm'
            have nd2 := List.nodup_append.mp o.nd
            have fl : ([Gx, []] : List (List Addr)).flatten = Gx := by simp
            have ndEG : (Es.flatten ++ Gx).Nodup := List.nodup_append.mpr ⟨ndE, by rw [← fl]; exact nd2.2.1, fun x hx y hy e => nd2.2.2 x (hEs x hx) y (by rw [fl]; exact hy) e⟩
            obtain ⟨Fs', ok', sub'⟩ := kk H1 Z1 _ _ _ r1.ext o k' es' us' Es' o' g1 g2 g3 g4 (by rw [fl]; exact g5) (g6 ndEG)
            exact ⟨vx, vy, rfl, fin _ (q1 σ _ _ Fs' (.put r1.ext ha sub' fr) ok')⟩
          · exact q1.elim
        · exact q1.elim
      · exact q1.elim)
    refine (two_mid (i := i) (π := π) (v0 := .ref a) ok.pure key (fun H1 Z1 ex Q' q' => ⟨Z1, ρ, d, js, v, _, hs, h1, h2, ?_, q'⟩) (R := fun o x y H3 => rSetL o y x H3 fun H4 => D0.nx σ H4) fun x y H' ⟨x', y', e, q⟩ => by cases e; exact q)
    exact rc.move (O := fun _ => True) (cell_grow (Z := Z) ex.gr (fun x h => ex.f x h) (fun x h => by rw [ex.b]; exact h) fun x h => (ok.t x h).elim) js
  · exact q.elim
end
section
variable {X : Cx} {cm : Cm} {W : WX} {P : List Nat} {o ix value : Expr} {pos' pos : Pos} {i : Nat} {π : Pi'} {fv fi : En → Ot D}
theorem ss_put (ho : SPth X cm o i π) (hv : SE X cm W value fv) (hi : SE X cm W ix fi)
    (ha : ∀ v, assign (.Subscript o ix pos') X.env v = (do
      let ov ← holding [v] (eval o X.env)
      let iv ← holding [v, ov] (eval ix X.env)
      standAt pos'
      holding [v, ov, iv] (setItem ov iv v)
      release [v, ov, iv] []) := by intro _; rfl)
    (hs : swapsWithSole [.Subscript o ix pos'] value pos.line X.env = pure false := by rfl) (hw : swappedStores [.Subscript o ix pos'] value X.env = pure none := by rfl)
    (h1 : (assignEach [.Subscript o ix pos'] X.env).map (·.2) = [assign (.Subscript o ix pos') X.env] := by rfl) : SS X cm W P (.Assign [.Subscript o ix pos'] value pos) (sPut i π fv fi) :=
  PS.imp (ps_asg hv (pg_sub ho hi (set_list) ha) hs hw h1) fun D0 σ H q => put_end q
end
end OB

namespace OB
open PySem PySem.Spec PyProof.Rows L2

section
variable {prog : Program} {w : World} {A : Around} {E : Value → Shared → Prop} {s : Shared}
theorem call_join_rev {x : Str} {t : Tok} {zs : List V} {ys : List Str} {it l : Addr} {its : List Value} {Q : Value → Shared → Prop} (hh : A.handled = none) (hit : s.heap.IsRevIter it l ((its.toArray.size : Int) - 1)) (hl : s.heap.IsList l its.toArray) (hne : l ≠ it)
    (hn : its.toArray.size ≤ sizeLine) (hv : Vals zs its) (hys : zs.reverse = ys.map V.str) (hok : (ys.map (·.length)).sum + ys.length * x.length ≤ 16777216)
    (hq : ∀ (h' : Heap) (t' : Tok) (tk : Nat), (∀ b o, b ≠ it → s.heap.get? b = some o → h'.get? b = some o) → Q (.str (Txt.join x ys) t') { s with heap := h', toks := tk }) :
    wpAny (model prog w) A (call (.builtin "str.join") [.str x t, .ref it]) Q E s := by
  have hT : s.TypeIs (.ref it) "list_reverseiterator" := hit.typeIs
  refine wpAny_call (codeAny_call_builtin F.slot_str_join.plain F.entry_str_join (F.slot_str_join.check _ _ _ _ _ _ _ _ (typeIs_str _ _ _) (F.args_str_join_2 _ _) ?_))
  rw [PySem.join_tree_other]
  refine wpAny_bind (wpAny_typeOf hT ?_)
  show wpAny _ A.in1 ((pyIter (.ref it)).tryCatch _ >>= fun it => collect it >>= fun items => joinTail x items) _ _ s
  refine wpAny_bind (wpAny_tryCatch (wpAny_pyIter_revIter hit ?_))
  refine wpAny_bind (RT.collect_rev (A := A.in1) hh hit hl hne hn fun h' tk acc hk hacc => ?_)
  have hs : StrsAre acc.toList ys := strs_of_vals (by rw [← hys]; exact RT.vals_rev hv hacc)
  obtain ⟨l, hl, ht⟩ := strsAre_values hs
  subst ht
  rw [hl]
  have hok' := joinOk_of hok
  unfold JoinOk at hok'
  rw [Bool.not_eq_true'] at hok'
  have g : Gives (joinTail x (strValues l)) (joinMade x l) := by
    have g0 := gives_joinTail x l hok'
    cases l with
    | nil => exact g0
    | cons p r => cases r with
      | nil => exact g0
      | cons q r' => exact g0
  exact g prog w A (wants Q E) _ (post_join l ⟨joinFit_length hok', fun t' k => hq h' t' k hk⟩)
end
def tJoinRev (K : PySem.W.Frag) (to te : TE) : TE := fun σ H Q => to σ H fun x H1 => (∃ a, x = .str a) ∧ te σ H1 fun v H2 => ∃ (a : Str) (p : Addr) (ys : List Str), x = .str a ∧ v = .ref p ∧ SqL K H2 p (ys.map V.str).reverse ∧
  (ys.map (·.length)).sum + ys.length * a.length ≤ 16777216 ∧ Q (.str (Txt.join a ys)) H2
section
variable {X : Cx}
theorem pe_joinRev {o e : Expr} {to te : TE} {p apos pos pos2 : Pos} (hc : X.calm = true) (ho : PE X o to) (hg2 : Gl X "reversed") (hm2 : X.mg "reversed" = none) (he : PE X e te)
    (hs : starEach [e] X.env = (false, eval e X.env) :: starEach [] X.env := by rfl)
    (hs1 : starEach [.Call (.Name "reversed" p) [e] [] pos2] X.env = [(false, eval (.Call (.Name "reversed" p) [e] [] pos2) X.env)] := by rfl)
    (hbase : attributeBase o "join" X.env (eval o X.env) = eval o X.env := by rfl) (hline : (apos.endLine == pos.line) = true := by rfl) :
    PE X (.Call (.Attribute o "join" apos) [.Call (.Name "reversed" p) [e] [] pos2] [] pos) (tJoinRev X.K to te) := by
  refine ⟨fun pins s σ H Q I h => ?_⟩
  refine PySem.Call_method1 hbase hs1 hline (thn (ho.run pins s σ H _ I h) fun v s1 ⟨x, H1, I1, r1, q1⟩ => ?_)
  obtain ⟨⟨a, rfl⟩, q1⟩ := q1
  obtain ⟨t, rfl⟩ := _root_.id r1
  refine ⟨"str", _, F.plainAttrs_str, F.slot_str_join, F.type_str_join, typeIs_str _ _ _, (fun _ e => nomatch e), Calls.callWith_builtin rfl (Calls.evalArgs_plain (Calls.spliced_cons ?_))⟩
  refine Call_ (ld_blt I1 hg2 hm2 PyProof.Rows.boot_reversed (PyProof.Rows.callWith_type1 (args_cons (thn (he.run pins s1 σ H1 _ I1 q1) fun u s2 ⟨v, H2, I2, r2, q2⟩ => args_nil ?_) hs) hs rfl))
  obtain ⟨a', q, ys, ea, ev, hq, hz, q2⟩ := q2
  cases ea
  subst ev
  obtain rfl : u = Value.ref q := r2
  obtain ⟨its, rv, pl, hsz⟩ := I2.list hq
  refine call_reversed_list pl.isList (Calls.spliced_nil ?_)
  have k0 : ∀ b o, s2.heap.get? b = some o → (s2.heap.push (revObj q ((its.toArray.size : Int) - 1))).get? b = some o := fun b o e => Heap.get?_push_of_some _ e
  have I3 : Inv X pins σ H2 { s2 with heap := s2.heap.push (revObj q ((its.toArray.size : Int) - 1)) } := I2.kept (t' := s2.toks) k0
  obtain ⟨f0, f1, f2, f3, f4, f5⟩ := I2.fpOk (H' := H2) (b := s2.heap.objs.size) (Nat.le_refl _) (I2.hok.fresh (Nat.le_refl _))
  have hl := pl.isList
  obtain ⟨ol, hol, _⟩ := id hl
  have hne : q ≠ s2.heap.objs.size := Nat.ne_of_lt (Heap.lt_size hol)
  have hn : its.toArray.size ≤ sizeLine := by rw [List.size_toArray, ← rv.length]; exact hsz
  refine call_join_rev (s := { s2 with heap := s2.heap.push (revObj q ((its.toArray.size : Int) - 1)) }) (I2.ok.hd hc) ⟨_, Heap.get?_push_size _ rfl, rfl, rfl⟩ (hl.push _) hne hn rv (by rw [List.reverse_reverse]) hz fun h' t' tk hk => ?_
  exact ⟨.str _, H2, I3.turned (t' := tk) (fun b o hb e => hk b o hb e) f0 f1 f3 f4 f5, ⟨t', rfl⟩, q2⟩
end
theorem tP_mono {K : PySem.W.Frag} {cm : Cm} {W : WX} {f : En → Ot D} {σ : L2.St} {H : Hp} {Q Q' : VK} (q : tP K cm W f σ H Q) (h : ∀ v H', Q v H' → Q' v H') : tP K cm W f σ H Q' := by
  obtain ⟨Z, ρ, Fs, ok, q⟩ := q
  refine ⟨Z, ρ, Fs, ok, ?_⟩
  cases e : f ρ with
  | no => rw [e] at q; exact q
  | ok d => rw [e] at q; exact fun v H' Z' F r => h _ _ (q v H' Z' F r)
  | ex x => rw [e] at q; exact q
def pJoinRev : List D → Option D
  | [.str a, .nd (.lst _) ds] => match strsD ds with
    | some ys => if (ys.map (·.length)).sum + ys.length * a.length ≤ 16777216 then some (.str (Txt.join a ys.reverse)) else none
    | none => none
  | _ => none
def rJoinRev (K : PySem.W.Frag) : V → List V → Hp → VK → Prop := fun x xs H Q => ∃ (a : Str) (p : Addr) (ys : List Str), x = .str a ∧ xs = [.ref p] ∧ SqL K H p (ys.map V.str).reverse ∧ (ys.map (·.length)).sum + ys.length * a.length ≤ 16777216 ∧ Q (.str (Txt.join a ys)) H
theorem ok_joinRev {K : PySem.W.Frag} {cm : Cm} : OkPr K cm (rM (rJoinRev K)) pJoinRev := by
  intro H Z ds vs Fs d dm rp nd nf e Q q
  unfold pJoinRev at e
  split at e
  · rename_i a f ds'
    split at e
    · rename_i ys hy
      split at e
      · rename_i hz
        cases e
        obtain ⟨v, u, F, G, rfl, rfl, ⟨rfl, rfl⟩, r⟩ := repL2 rp
        obtain ⟨p, vs', Fs', rfl, c, l, rfl⟩ := r
        have e2 := strsD_eq hy
        subst e2
        have e3 := repL_strS l
        subst e3
        refine ⟨_, _, rfl, a, p, ys.reverse, rfl, rfl, .inl ?_, ?_, q _ H Z [] (.atom (.refl dm) rep_str)⟩
        · rw [List.map_reverse, List.reverse_reverse]; exact c.2.1
        · rw [List.map_reverse, List.sum_reverse, List.length_reverse]; exact hz
      · cases e
    · cases e
  · cases e
def pSIdx : List D → Option D
  | [.str a, .str b] => match Builtin.Str.occurrences a b 0 a.length 1 with
    | i :: _ => some (.int (i : Nat))
    | [] => none
  | _ => none
theorem ok_sindex {K : PySem.W.Frag} {cm : Cm} : OkPr K cm (rM (fun x xs H Q => ∃ a b i rest, x = .str a ∧ xs = [.str b] ∧ Builtin.Str.occurrences a b 0 a.length 1 = i :: rest ∧ Q (.int (i : Nat)) H)) pSIdx := by
  intro H Z ds vs Fs d dm rp nd nf e Q q
  unfold pSIdx at e
  split at e
  · split at e
    · rename_i i rest hy
      cases e
      obtain ⟨v, u, F, G, rfl, rfl, ⟨rfl, rfl⟩, ⟨rfl, rfl⟩⟩ := repL2 rp
      exact ⟨_, _, rfl, _, _, i, rest, rfl, rfl, hy, q _ H Z [] (.atom (.refl dm) rep_int)⟩
    · cases e
  · cases e
section
variable {X : Cx} {cm : Cm} {W : WX} {P : List Nat} {o e tg : Expr} {f g : En → Ot D} {p apos pos pos2 : Pos}
theorem s_joinRev (hc : X.calm = true) (ho : SE X cm W o f) (hg2 : Gl X "reversed") (hm2 : X.mg "reversed" = none) (he : SE X cm W e g)
    (hs : starEach [e] X.env = (false, eval e X.env) :: starEach [] X.env := by rfl)
    (hs1 : starEach [.Call (.Name "reversed" p) [e] [] pos2] X.env = [(false, eval (.Call (.Name "reversed" p) [e] [] pos2) X.env)] := by rfl)
    (hbase : attributeBase o "join" X.env (eval o X.env) = eval o X.env := by rfl) (hline : (apos.endLine == pos.line) = true := by rfl) :
    SE X cm W (.Call (.Attribute o "join" apos) [.Call (.Name "reversed" p) [e] [] pos2] [] pos) (eM "str" pJoinRev f [g]) :=
  PE.imp (pe_joinRev hc ho hg2 hm2 he hs hs1 hbase hline) fun σ H Q q => tP_mono (m_end ok_joinRev q) fun x H1 ⟨ty, q1⟩ => by
    refine ⟨?_, ?_⟩
    · cases x with
      | str a => exact ⟨a, rfl⟩
      | ref p =>
        exfalso
        rcases ty with ⟨h, _⟩ | ⟨h, _⟩ | ⟨h, _⟩ | ⟨h, _⟩ <;> exact absurd h (by decide)
      | int i => exact absurd (show ("str" : String) = "int" from ty) (by decide)
      | _ => exact ty.elim
    · obtain ⟨Z, ρ, Fs, ok, q2⟩ := q1
      exact one_of ⟨Z, ρ, Fs, ok, by
        cases e : eL [g] ρ with
        | no => rw [e] at q2; exact q2
        | ok d =>
          rw [e] at q2
          intro vs H' Z' Gs r
          obtain ⟨a, p, ys, h1, h2, h3, h4, h5⟩ := q2 vs H' Z' Gs r
          exact ⟨_, h2, a, p, ys, h1, rfl, h3, h4, h5⟩
        | ex x => rw [e] at q2; exact q2⟩
/-- a, b = a value, what is new in it frozen -/
def sTgt (f : En → Ot D) (t : D → En → Option En) : Mst := sOn f fun d ρ => if noT d then (match t (toFrz d) ρ with
  | some ρ1 => some (.nx, ρ1)
  | none => none) else none
theorem ss_tgt {g : TG} {S : List Nat} {t : D → En → Option En} (hS : (S.all fun i => !P.contains i) = true) (he : SE X cm W e f) (hg : PG X tg g) (hgo : OkTg X.K cm S g t) (hs : swapsWithSole [tg] e pos.line X.env = pure false := by rfl) (hw : swappedStores [tg] e X.env = pure none := by rfl)
    (h1 : (assignEach [tg] X.env).map (·.2) = [assign tg X.env] := by rfl) : SS X cm W P (.Assign [tg] e pos) (sTgt f t) := PS.imp (ps_asg he hg hs hw h1) fun D0 σ H q => by
  obtain ⟨Z, ρ, Fs, ok, q⟩ := q
  refine on_go ok q fun d v H1 Z1 F e r q1 => ?_
  have q2 := q
  unfold sTgt sOn at q2
  rw [e] at q2
  dsimp only at q2
  split at q2
  · rename_i nt
    split at q2
    · rename_i ρ1 ht
      have ok1 := ok.ext r.ext
      have eb : Z1.b = Z.b := r.ext.b
      have hm := Rep.mut d r.rep
      let Z2 : Zn := ⟨fun a => Z1.f a ∨ a ∈ F, Z.b, fun _ => False⟩
      have ok2 : RepE X.K cm H1 Z2 σ ρ Fs := ⟨ok1.rep.lσ, ok1.rep.lF, fun i d q => by
        obtain ⟨v, F, a, b, c⟩ := ok1.rep.get i d q
        exact ⟨v, F, a, b, c.grow (.refl _) (fun _ h => .inl h) (fun _ h => h) fun _ h => h⟩⟩
      have rr : Rep X.K cm H1 Z2 (toFrz d) v [] :=
        Rep.give (Z := ⟨Z1.f, Z.b, fun _ => False⟩) (g := Fl.toFrz) (O := fun a => a ∈ F) (cell_flag (fun a ha f ef _ => by subst ef; exact .inr ha) (fun a f hf hz => by cases f with
          | own => exact absurd rfl hf
          | frz => exact .inl hz
          | bor => exact hz
          | tmp => exact hz.elim) (fun f e z => by subst z; exact e rfl)) (fun f e => by cases f <;> cases e) d (by
            have := noT_rep (t' := fun _ => False) r.rep nt
            rw [eb] at this
            exact this) fun a h => h
      have nF : ∀ a ∈ F, H a = none := fun a h => r.new a h
      refine hgo H1 Z2 (toFrz d) v σ ρ Fs ρ1 rr ok2 ht _ fun σ1 Fs1 r1 sb _ kpr => ?_
      refine q2 σ1 H1 Z2 Fs1 ⟨.grow r.ext.gr, fun a h => .inl (sb.subset h), fun a h => .inl (r.ext.f a h), fun a h => ?_, rfl, fun j hj => kpr j fun hjS => ?_⟩ ⟨r1, ⟨fun a h => h.elim (r.ext.fd a) fun h => mut_ne (hm a h), fun a h q => ok.dom.b a h (r.ext.gr.back q), fun _ h => h.elim⟩, fun a h => ok1.mu a (sb.subset h), ok1.nd.sublist sb, fun a h => ⟨fun z => z.elim (ok1.nz a (sb.subset h)).1 fun z => mut_ne (ok.mu a (sb.subset h)) (nF a z), (ok1.nz a (sb.subset h)).2⟩, fun _ h => h⟩
      · exact h.elim (fun h => (r.ext.fn a h).elim .inl fun q => .inr (.inr q)) fun h => .inr (.inr (nF a h))
      · have := List.all_eq_true.mp hS j hjS
        rw [Bool.not_eq_true'] at this
        rw [List.contains_iff_mem.mpr hj] at this
        cases this
    · exact q2.elim
  · exact q2.elim
end
end OB

namespace OB
open PySem PySem.Calls PySem.NumText PyProof.Rows

def NoDig (h : Heap) : Prop := ∀ M : Model, PySem.W.Looks M h (nsGet cStatics "sys.int_max_str_digits") none
theorem wp_intMax {M : Model} {A : Around} {E : Value → Shared → Prop} {s : Shared} {Q : Nat → Shared → Prop} (hd : NoDig s.heap) (h : Q 4300 s) : wpAny M A Builtin.intMaxStrDigits Q E s := by
  unfold Builtin.intMaxStrDigits
  exact wpAny_bind (hd _ _ _ _ _ (fun _ _ e => e) (wpAny_pure h))
theorem wp_text2 {M : Model} {A : Around} {E : Value → Shared → Prop} {s : Shared} {Q : Value → Shared → Prop} {v : Value} {text : List Nat} {n : Int}
    (hs : ¬ (text.takeWhile (· != 0)).length ≤ 640) (hr : (int_private% "readNumeral") 4300 10 (text.takeWhile (· != 0)) = (int_private% "Numeral.value") n)
    (ha : ((text.takeWhile (· != 0)).length == text.length) = true) (hd : NoDig s.heap) (h : Q (.int n s.toks) { s with toks := s.toks + 1 }) :
    wpAny M A ((int_private% "intFromText") v text 10) Q E s := by
  have hd2 := @wp_intMax M A E s
  obtain ⟨hp, g, d, tk, os⟩ := s
  repeat (any_goals (first
    | assumption
    | (with_reducible refine wpAny_ite_false (decide_eq_false hs) ?_)
    | (with_reducible refine hd2 hd ?_)
    | wp_step))
  all_goals (try rw [hr])
  all_goals (try dsimp only)
  repeat (any_goals (first
    | assumption
    | (with_reducible refine wpAny_ite_true (decide_eq_true ha) ?_)
    | wp_step))
structure Hid (p : Prop) : Prop where
  out : p
theorem meets_text2 {x : PySem.Str} {u : Tok} {n : Int} (hl : ¬ (numSeenOf x).length ≤ 640) (hx : x.length ≤ sizeLine) (hn : PySem.intText? x = some n) :
    Meets (Builtin.«int.__new__» ⟨[.type "int", .str x u], []⟩) (fun A R s => NoDig s.heap ∧ (Made.int n).post (fun v s' => R (.ok (.ret v)) s') s) := fun prog w A R s h => by
  have key : ∀ (M : Model) (A : Around) (E : Value → Shared → Prop) (s : Shared) (Q : Value → Shared → Prop), NoDig s.heap → (Made.int n).post Q s → wpAny M A (Builtin.«int.__new__» ⟨[.type "int", .str x u], []⟩) (fun fin s' => ∃ v, fin = .done (.ret v) ∧ Q v s') E s := fun M A E s Q hd h => by
    obtain ⟨hp, g, d, tk, os⟩ := s
    have f1 := F.conv_sub_int
    have f2 := F.madeHere_int
    have f3 := PySem.W.KIN.str_int
    have f4 := PySem.W.KIN.str_idx
    have f5 := PySem.W.KIN.str_trunc
    have f6 : typeOf (.str x u) = pure (.type "str") := rfl
    have hr : (int_private% "readNumeral") 4300 10 (numSeenOf x) = (int_private% "Numeral.value") n ∧ ((numSeenOf x).length == (numTextOf x).length) = true := by
      rcases read4300 x hx with ⟨m, h1, h2, h3⟩ | ⟨h1, _⟩
      · rw [hn] at h1
        injection h1 with h1
        subst h1
        exact ⟨h3, h2⟩
      · rw [hn] at h1
        cases h1
    have hk := Hid.mk (And.intro hl (And.intro hr hd))
    clear hr hl hn hd
    repeat (any_goals (first
      | assumption
      | ((with_reducible show wpAny _ _ ((int_private% "intFromText") _ _ _) _ _ _); refine wp_text2 hk.out.1 hk.out.2.1.1 hk.out.2.1.2 hk.out.2.2 ?_)
      | wp_step))
    all_goals first | exact ⟨_, rfl, h⟩ | skip
  refine wpAny_mono (key _ _ _ s _ h.1 h.2) (fun fin s' q => ?_) fun _ _ z => z
  obtain ⟨v, rfl, q⟩ := q
  exact q
theorem gives_text1 {x : PySem.Str} {u : Tok} {n : Int} (hs : (numSeenOf x).length ≤ 640) (hn : PySem.intText? x = some n) : Gives (Builtin.«int.__new__» ⟨[.type "int", .str x u], []⟩) (.int n) :=
  .of_wp fun M A E s Q h => by
    obtain ⟨hp, g, d, tk, os⟩ := s
    have f1 := F.conv_sub_int
    have f2 := F.madeHere_int
    have f3 := PySem.W.KIN.str_int
    have f4 := PySem.W.KIN.str_idx
    have f5 := PySem.W.KIN.str_trunc
    have f6 : typeOf (.str x u) = pure (.type "str") := rfl
    have hr : (int_private% "readNumeral") 0 10 (numSeenOf x) = (int_private% "Numeral.value") n ∧ ((numSeenOf x).length == (numTextOf x).length) = true := by
      rcases read0 x hs with ⟨m, h1, h2, h3⟩ | ⟨h1, _⟩
      · rw [hn] at h1
        injection h1 with h1
        subst h1
        exact ⟨h3, h2⟩
      · rw [hn] at h1
        cases h1
    have hk := Hid.mk (And.intro hs hr)
    clear hs hr hn
    repeat (any_goals (first
      | assumption
      | ((with_reducible show wpAny _ _ ((int_private% "intFromText") _ _ _) _ _ _); refine PySem.W.KIN.wp_text hk.out.1 hk.out.2.1 hk.out.2.2 ?_)
      | wp_step))
    all_goals first | exact ⟨_, rfl, h⟩ | skip
section
open PySem.Spec L2
variable {X : Cx}
theorem call_int_long (hdg : PySem.W.nsIn X.K cStatics "sys.int_max_str_digits" = some none) : CallR X (.type "int") (fun xs H Q => ∃ a n, xs = [.str a] ∧ PySem.intText? a = some n ∧ a.length ≤ 4300 ∧ Q (.int n) H) := by
  intro pins s σ H xs us Q I rs h
  obtain ⟨a, n, rfl, hn, hl, h⟩ := h
  cases rs with
  | cons r1 rs =>
    cases rs
    obtain ⟨t, rfl⟩ := r1
    by_cases h6 : a.length ≤ 640
    · exact PySem.W.KIN.call_text hn h6 ⟨.int n, H, I.tok _, ⟨_, rfl⟩, h⟩
    · by_cases h7 : (numSeenOf a).length ≤ 640
      · exact call_int_1 (gives_text1 h7 hn).meets (show (Made.int n).post _ s from ⟨rfl, .int n, H, I.tok _, ⟨_, rfl⟩, h⟩)
      · refine call_int_1 (meets_text2 h7 (Nat.le_trans hl (by decide)) hn) ⟨fun M => PySem.W.looks_nsIn I.kIn hdg, (show (Made.int n).post _ s from ⟨rfl, .int n, H, I.tok _, ⟨_, rfl⟩, h⟩)⟩
theorem call_int4 (hdg : PySem.W.nsIn X.K cStatics "sys.int_max_str_digits" = some none) : CallR X (.type "int") (fun xs H Q => (((∃ i, xs = [.int i] ∧ Q (.int i) H) ∨ ∃ k, xs = [.bl k] ∧ Q (.int (if k then 1 else 0)) H) ∨ ∃ a n, xs = [.str a] ∧ PySem.intText? a = some n ∧ a.length ≤ 4300 ∧ Q (.int n) H)) :=
  CallR.or2 call_int1 (call_int_long hdg)
end
def pInt4 : List D → Option D
  | [.int i] => some (.int i)
  | [.bl b] => some (.int (if b then 1 else 0))
  | [.str a] => if a.length ≤ 4300 then (PySem.intText? a).map .int else none
  | _ => none
open L2 in
theorem ok_int4 {K : PySem.W.Frag} {cm : Cm} : OkPr K cm (fun xs H Q => (((∃ i, xs = [.int i] ∧ Q (.int i) H) ∨ ∃ k, xs = [.bl k] ∧ Q (.int (if k then 1 else 0)) H) ∨ ∃ a n, xs = [.str a] ∧ PySem.intText? a = some n ∧ a.length ≤ 4300 ∧ Q (.int n) H)) pInt4 := by
  intro H Z ds vs Fs d dm rp nd nf e Q q
  unfold pInt4 at e
  split at e
  · cases e
    obtain ⟨v, F, rfl, rfl, ⟨rfl, rfl⟩⟩ := repL1 rp
    exact .inl (.inl ⟨_, rfl, q _ H Z [] (.atom (.refl dm) rep_int)⟩)
  · cases e
    obtain ⟨v, F, rfl, rfl, ⟨rfl, rfl⟩⟩ := repL1 rp
    exact .inl (.inr ⟨_, rfl, q _ H Z [] (.atom (.refl dm) rep_int)⟩)
  · split at e
    · rename_i hl
      rename_i a
      cases e2 : PySem.intText? a with
      | none => rw [e2] at e; cases e
      | some n =>
        rw [e2] at e
        cases e
        obtain ⟨v, F, rfl, rfl, ⟨rfl, rfl⟩⟩ := repL1 rp
        exact .inr ⟨_, n, rfl, e2, hl, q _ H Z [] (.atom (.refl dm) rep_int)⟩
    · cases e
  · cases e
end OB

namespace OB
open PySem PySem.Spec PyProof.Rows L2
section
variable {X : Cx} {cm : Cm} {W : WX} {P : List Nat}
variable {elt tgx iter : Expr} {ifs : List Expr} {scope : Scope} {own : List (Str × Nat)} {pos py spos : Pos} {it : En → Ot Its'} {tg : D → En → Option En} {g : TG} {S : List Nat} {c : En → Ot Bool} {tt : TT} {f : En → Ot D} {t : Expr} {i : Nat} {y : Str}
theorem ss_setC (hP : (!P.contains i) = true) (hy : X.N[i]? = some y) (hyl : X.env.scope.names.lookup y = some .local) (hsw : swapsWith (.ListComp elt [⟨tgx, iter, ifs, 0⟩] scope pos) (some (.Name y py)) spos.line X.env = pure true)
    (hc : X.calm = true) (hN : X.N.Nodup) (hi : SI X cm W tgx iter it) (ok : BlkOk X.N X.env.scope scope own) (hS : (S.all fun i => (own.map (·.2)).contains i) = true) (hgo : OkTg X.K cm S g tg)
    (hg : ∀ (s : Shared) (H : Hp) (C : Addr) (cl : List (Str × Addr)) (fp : List Addr), PG (X.blk s H scope (compEnvC scope cl C X.env) fp) tgx g) (ht : ∀ (s : Shared) (H : Hp) (C : Addr) (cl : List (Str × Addr)) (fp : List Addr), PTs (X.blk s H scope (compEnvC scope cl C X.env) fp) ifs tt)
    (hT : ∀ σ H Q, tPT X.K cm W0 c σ H Q → tt σ H Q)
    (he : ∀ (s : Shared) (H : Hp) (C : Addr) (cl : List (Str × Addr)) (fp : List Addr), SE (X.blk s H scope (compEnvC scope cl C X.env) fp) cm W0 elt f) (hs : ∀ x, foldedSetIterable iter X.env x = pure x := by intro _; rfl) :
    SS X cm W P (.Assign [.Name y py] (.ListComp elt [⟨tgx, iter, ifs, 0⟩] scope pos) spos) (sSet i (eComp it tg c f (own.map (·.2)))) :=
  ss_set hP (PS.imp (ps_setLc hc hN hy hyl hsw hi ok hg ht he hs) fun D σ H q => comp_end hgo (fun i hi => by
    have := List.all_eq_true.mp hS i hi
    simpa using this) hT q)
end

/-! ### a def by its name -/
def Good (P : Program) (w : World) (K : PySem.W.Frag) (mg : Str → Option Value) (base : Heap) (cm : Cm) (x : Str) (n k : Nat) (m : List D → Ot D) : Prop :=
  ∃ (a : Addr) (fd : FuncData) (ps : List Str), mg x = some (.ref a) ∧ PySem.W.keepIn K (.ref a) = true ∧ Binds K fd ps [] ∧ FnOk P w K mg base (L2.CX P w) k a fd ps (spP K cm n m)
def eCall0 (m : List D → Ot D) (dd : List D) : En → Ot D := fun ρ => noX (eCall m dd [] ρ)
section
variable {X : Cx} {cm : Cm} {W : WX} {x : Str} {p pos : Pos} {e : Expr} {es : List Expr} {fs : List (En → Ot D)} {k j n : Nat} {m : List D → Ot D}
theorem s_callG (tk : Takes X W) (G : Good X.prog X.w X.K X.mg X.base cm x n k m) (hr : Room j X.A) (hk : k ≤ j) (hg : Gl X x) (hn : fs.length = n) (ha : SA X cm W (e :: es) (eL fs))
    (hdb : (x == ("__debug__" : Str)) = false := by decide) (he : starEach (e :: es) X.env = (false, eval e X.env) :: starEach es X.env := by rfl) (hpl : (backTo pos (starEach es X.env)).any (·.1) = false := by rfl) :
    SE X cm W (.Call (.Name x p) (e :: es) [] pos) (eCall m [] fs) := by
  obtain ⟨a, fd, ps, hm, kp, b, F⟩ := G
  exact s_call tk F (hr.mono hk) hg hm kp b .nil rfl rfl (by rw [← hn]; rfl) ha hdb he hpl
theorem s_callG0 (G : Good X.prog X.w X.K X.mg X.base cm x 0 k m) (hr : Room j X.A) (hk : k ≤ j) (hg : Gl X x) (hdb : (x == ("__debug__" : Str)) = false := by decide) :
    SE X cm W (.Call (.Name x p) [] [] pos) (eCall0 m []) := by
  obtain ⟨a, fd, ps, hm, kp, b, F⟩ := G
  exact s_call0 F (hr.mono hk) hg hm kp b .nil rfl rfl rfl hdb
end
end OB

namespace OB
open PySem PySem.Spec PyProof.Rows L2
def isLst : Value → Bool
  | .type n => n == "list"
  | _ => false
def frZ (g : Addr → Option Obj) (as : List Addr) : PySem.W.Frag := (He.frG g as).filter fun p => !isLst p.2.cls
theorem lookup_mem {α : Type} : ∀ {l : List (Addr × α)} {a : Addr} {o : α}, l.lookup a = some o → (a, o) ∈ l
  | [], _, _, h => nomatch h
  | (b, u) :: l, a, o, h => by
    unfold List.lookup at h
    split at h
    · rename_i e
      have e : a = b := by simpa using e
      cases h; subst e
      exact List.mem_cons_self
    · exact List.mem_cons_of_mem _ (lookup_mem h)
theorem frZ_at {g : Addr → Option Obj} {as : List Addr} {a : Addr} {o : Obj} (h : (frZ g as).lookup a = some o) : g a = some o ∧ isLst o.cls = false := by
  have m := lookup_mem h
  unfold frZ at m
  rw [List.mem_filter] at m
  obtain ⟨m1, m2⟩ := m
  unfold He.frG at m1
  rw [List.mem_filterMap] at m1
  obtain ⟨b, _, e⟩ := m1
  cases q : g b with
  | none => rw [q] at e; cases e
  | some u => rw [q] at e; cases e; exact ⟨q, by simpa using m2⟩
def obsZ (n : Nat) (fa : List He.Fa) (fn : List He.DefD) (g : Addr → Option Obj) : He.AlD :=
  ((He.obsD fa fn (frZ g (He5.asA g n))).1 && He.eqO (PySem.W.nsIn (frZ g (He5.asA g n)) cStatics "sys.int_max_str_digits") (some none), (He.obsD fa fn (frZ g (He5.asA g n))).2)
structure SaysZ (fa : List He.Fa) (fn : List He.DefD) (K : PySem.W.Frag) : Prop where
  c : He.SaysD fa fn K
  dig : PySem.W.nsIn K cStatics "sys.int_max_str_digits" = some none
  nol : ∀ a o, K.lookup a = some o → isLst o.cls = false
def hookZ (n : Nat) (fa : List He.Fa) (fn : List He.DefD) : PySem.W.Hook where
  α := He.AlD
  obs := fun s => obsZ n fa fn s.heap.get?
  val := fun _ => He.valD fn
  says := fun _ h => ∃ K : PySem.W.Frag, K.In h ∧ SaysZ fa fn K
  of := fun _ s e => by
    have e : obsZ n fa fn s.heap.get? = He.valD fn := e
    unfold obsZ at e
    obtain ⟨e1, e2⟩ := Prod.ext_iff.mp e
    have e1 : ((He.obsD fa fn (frZ s.heap.get? (He5.asA s.heap.get? n))).1 && He.eqO (PySem.W.nsIn (frZ s.heap.get? (He5.asA s.heap.get? n)) cStatics "sys.int_max_str_digits") (some none)) = true := e1
    rw [Bool.and_eq_true] at e1
    exact ⟨_, fun a o h => (frZ_at h).1, Prod.ext e1.1 e2, He.eqO_ok e1.2, fun a o h => (frZ_at h).2⟩
  keeps := fun _ _ _ ⟨K, hK, c⟩ k => ⟨K, PySem.W.Frag.In.keeps hK k, c⟩
theorem obsZ_eq {n : Nat} {fa : List He.Fa} {fn : List He.DefD} {g : Addr → Option Obj} {s : Shared} (h : ∀ a, g a = s.heap.get? a) : obsZ n fa fn g = (hookZ n fa fn).obs s := by
  have e : g = s.heap.get? := funext h
  rw [e] <;> rfl
/-- a law by its mirror -/
theorem spP_script {K : PySem.W.Frag} {cm : Cm} {H : Hp} {a : Addr} {ns : List Int} {m : List D → Ot D} (nol : ∀ a o, K.lookup a = some o → isLst o.cls = false) (hS : SqL K H a (ns.map V.int)) (hm : m [.nd (.lst .bor) (ns.map .int)] = .ok (.bl true)) :
    spP K cm 1 m [.ref a] H (fun v _ => v = .bl true) fun _ _ _ => False := by
  have rd : Rd H a (.lst (ns.map V.int)) := by
    rcases hS with h | ⟨o, its, n, h1, h2, _⟩
    · exact h
    · have := nol a o h1
      rw [h2] at this
      cases this
  have hne : H a ≠ none := by
    rcases rd with h | ⟨o, h⟩ <;> exact fun z => by rw [z] at h; cases h
  have rl : ∀ (ns : List Int) (Z : Zn), ∃ Fs, Fs.flatten = [] ∧ RepL K cm H Z (ns.map .int) (ns.map V.int) Fs := by
    intro ns Z
    induction ns with
    | nil => exact ⟨[], rfl, repL_nil⟩
    | cons n ns ih =>
      obtain ⟨Fs, e, r⟩ := ih
      exact ⟨[] :: Fs, by simpa using e, repL_cons rep_int r⟩
  obtain ⟨Fs, e, r⟩ := rl ns (lentZ H fun _ => False)
  refine ⟨fun _ => False, [.nd (.lst .bor) (ns.map .int)], [[]], fun _ h => h.elim, rfl, rfl, repL_cons ⟨a, ns.map V.int, Fs, rfl, ⟨fun h => absurd rfl h, rd, hne⟩, r, by rw [e]; rfl⟩ repL_nil, ?_⟩
  rw [hm]
  intro v H' Z' F r
  exact r.rep.1
theorem walk_ofEB {l : PySem.W.OpenLaw} {n k : Nat} {q : Program} {loose : List Str} {XP : (Str → Option Value) → Heap → Prop} {YP : World → Heap → Prop} {d : DefRec} {CX : World → CXT} {x : Str}
    (hn : l.most = some n) (hn2 : n ≤ sizeLine) (hdf : d.params.defaults = []) (hr : Room k callerA)
    (F : ∀ (w : World) (mg : Str → Option Value) (fa : Addr) (h : Heap), YP w h → h.Ns mainGlobals mg → mg d.name = some (.ref fa) →
      ∃ (K : PySem.W.Frag) (fd : FuncData) (sp : Sp), K.In h ∧ (∀ (s : Shared) (u : Value), BindsTo s fd ⟨[u], []⟩ [(x, u)]) ∧
        (∀ (H : Hp) (a : Addr) (ns : List Int), ns.length ≤ n → (∀ z ∈ ns, Builtin.Int.intBits z ≤ 1048576) → Only H → SqL K H a (ns.map V.int) → sp [.ref a] H (fun v _ => v = .bl true) fun _ _ _ => False) ∧
        ∀ base : Heap, K.In base → base.Ns mainGlobals mg → FnOk l.prog w K mg base (CX w) k fa fd [x] sp)
    (hCX : ∀ (w : World) (H : Hp) (s : Shared) (e : Value) (s' : Shared), CX w [] H s (fun _ _ _ => False) e s' → False) :
    PySem.W.WalkO q loose XP YP l.row.toRowW d [] (fun f vs => PySem.call f vs) := by
  refine Att.attach_callB hn hdf fun w s₀ s₁ mg mb fa o pm cd doc a vs ns G Y ho hd hcd hmg hobj hints hlen hbits hg => ?_
  obtain ⟨K, fd, sp, KX, hb, hsp, hF⟩ := F w mg fa _ Y G.T.g hmg
  exact law_call KX G.T.g G.T.b G.T.builtins G.T.nolimit hg hobj hints (Nat.le_trans hlen hn2) hr hF hb (fun H hO hS => hsp H a ns hlen hbits hO hS) fun H e s' => hCX w H s₁ e s'
theorem cx_no {P : Program} {w : World} (H : Hp) (s : Shared) (e : Value) (s' : Shared) : L2.CX P w [] H s (fun _ _ _ => False) e s' → False := fun h => by
  obtain ⟨_, _, _, _, _, _, _, _, _, _, _, _, z⟩ := h
  exact z
end OB

namespace OB
open PySem PySem.Spec PyProof.Rows L2
def fzE (i : Nat) (ρ : En) : En := match ρ[i]? with
  | some (some d) => ρ.set i (some (toFrz d))
  | _ => ρ
def sFz (i : Nat) (g : Mst) : Mst := fun ρ => g (fzE i ρ)
theorem Ok.fz {K : PySem.W.Frag} {cm : Cm} {H : Hp} {σ : L2.St} {ρ : En} {Fs : List (List Addr)} {Z : Zn} {P : List Nat} (ok : Ok K cm H σ ρ Fs Z) (i : Nat) : ∃ Fs' Z', Ok K cm H σ (fzE i ρ) Fs' Z' ∧ SStep P σ H Z Fs σ H Z' Fs' := by
  unfold fzE
  split
  · rename_i d hd
    obtain ⟨v, F, e1, e2, r⟩ := ok.rep.get i d hd
    have hF : ∀ a ∈ F, a ∈ Fs.flatten := fun a h => flat_mem e2 h
    obtain ⟨n1, n2⟩ := flat_set_nil e2 ok.nd
    have sub := set_nil_sub Fs i
    refine ⟨Fs.set i [], ⟨fun a => Z.f a ∨ a ∈ F, Z.b, Z.t⟩, ⟨⟨by simpa using ok.rep.lσ, by simpa using ok.rep.lF, fun j dj q => ?_⟩, ⟨fun a h => h.elim (ok.dom.f a) fun h => mut_ne (ok.mu a (hF a h)), ok.dom.b, ok.dom.t⟩, fun a h => ok.mu a (sub.subset h), ok.nd.sublist sub, fun a h => ⟨fun z => z.elim (ok.nz a (sub.subset h)).1 fun z => ?_, (ok.nz a (sub.subset h)).2⟩, ok.t⟩,
      ⟨.refl, fun a h => .inl (sub.subset h), fun a h => .inl h, fun a h => h.elim .inl fun h => .inr (.inl (hF a h)), rfl, fun _ _ => rfl⟩⟩
    · by_cases hj : i = j
      · subst hj
        rw [List.getElem?_set] at q
        split at q
        · split at q
          · cases q
            refine ⟨v, [], e1, by rw [List.getElem?_set_self (List.getElem?_eq_some_iff.mp e2).1], ?_⟩
            exact Rep.give (g := Fl.toFrz) (O := fun a => a ∈ F) (cell_flag (fun a ha f ef _ => by subst ef; exact .inr ha) (fun a f hf hz => by cases f with
              | own => exact absurd rfl hf
              | frz => exact .inl hz
              | bor => exact hz
              | tmp => exact (ok.t a hz).elim) (fun f e z => by subst z; exact e rfl)) (fun f e => by cases f <;> cases e) d r fun a h => h
          · cases q
        · rename_i n; exact absurd rfl n
      · rw [List.getElem?_set_ne hj] at q
        obtain ⟨v2, F2, a, b, c⟩ := ok.rep.get j dj q
        exact ⟨v2, F2, a, by rw [List.getElem?_set_ne hj]; exact b, c.grow (.refl _) (fun _ h => .inl h) (fun _ h => h) fun _ h => h⟩
    · have key : ∀ {Fs : List (List Addr)} {i : Nat}, Fs[i]? = some F → Fs.flatten.Nodup → a ∈ F → a ∈ (Fs.set i []).flatten → False := by
        intro Fs
        induction Fs with
        | nil => intro i h; simp at h
        | cons G Fs ih =>
          intro i h nd h1 h2
          rw [List.flatten_cons, List.nodup_append] at nd
          cases i with
          | zero =>
            cases h
            rw [List.set_cons_zero, List.flatten_cons] at h2
            exact nd.2.2 a h1 a (by simpa using h2) rfl
          | succ i =>
            rw [List.set_cons_succ, List.flatten_cons] at h2
            have h : Fs[i]? = some F := by simpa using h
            rcases List.mem_append.mp h2 with q | q
            · exact nd.2.2 a q a (flat_mem h h1) rfl
            · exact ih h nd.2.1 h1 q
      exact key e2 ok.nd z h
  · exact ⟨Fs, Z, ok, .refl⟩
theorem ss_fz {X : Cx} {cm : Cm} {W : WX} {P : List Nat} {st : Stmt} {g : Mst} (i : Nat) (h : SS X cm W P st g) : SS X cm W P st (sFz i g) := PS.imp h fun D0 σ H q => by
  obtain ⟨Z, ρ, Fs, ok, q⟩ := q
  obtain ⟨Fs', Z', ok', s⟩ := ok.fz (P := P) i
  exact ⟨Z', _, Fs', ok', q.step s⟩
end OB

namespace OB
open PySem PySem.Spec PyProof.Rows L2
section
variable {f g h : En → Ot D} {fs : List (En → Ot D)} {ρ : En} {t u : En → Ot Bool} {p q : List D → Option D}
@[simp] theorem eL_nil : eL [] ρ = .ok [] := rfl
@[simp] theorem eL_cons : eL (f :: fs) ρ = (f ρ).bind fun d => (eL fs ρ).bind fun ds => .ok (d :: ds) := rfl
@[simp] theorem eC_eq {d : D} : eC d ρ = .ok d := rfl
@[simp] theorem ePr_eq : ePr p fs ρ = (eL fs ρ).bind fun ds => .of (p ds) := rfl
@[simp] theorem eAnd_eq : eAnd f g ρ = (f ρ).bind fun d => (asB d).bind fun b => if b then g ρ else .ok (.bl false) := rfl
@[simp] theorem eOr_eq : eOr f g ρ = (f ρ).bind fun d => (asB d).bind fun b => if b then .ok (.bl true) else g ρ := rfl
@[simp] theorem eNot_eq : eNot f ρ = (f ρ).bind fun d => (asB d).bind fun b => .ok (.bl (!b)) := rfl
@[simp] theorem eT_eq : eT f ρ = (f ρ).bind asB := rfl
@[simp] theorem bAnd_eq : bAnd t u ρ = (t ρ).bind fun b => if b then u ρ else .ok false := rfl
@[simp] theorem bOr_eq : bOr t u ρ = (t ρ).bind fun b => if b then .ok true else u ρ := rfl
@[simp] theorem bNot_eq : bNot t ρ = (t ρ).bind fun b => .ok (!b) := rfl
@[simp] theorem eIf_eq : eIf t f g ρ = (t ρ).bind fun b => if b then f ρ else g ρ := rfl
@[simp] theorem asB_bl {b : Bool} : asB (.bl b) = .ok b := rfl
@[simp] theorem eIsi_eq {nb : String → Option Bool} {ob : Str → Option Bool} : eIsi nb ob f ρ = (f ρ).bind fun d => .of ((isiD nb ob d).map .bl) := rfl
@[simp] theorem eChain_eq : eChain p q f g h ρ = (f ρ).bind fun x => (g ρ).bind fun y => (Ot.of (p [x, y])).bind fun z => (asB z).bind fun b => if b then (h ρ).bind (fun w => .of (q [y, w])) else .ok (.bl false) := rfl
@[simp] theorem eCall_eq {m : List D → Ot D} {dd : List D} : eCall m dd fs ρ = (eL fs ρ).bind fun ds => back (m (ds.map toArg ++ dd)) := rfl
@[simp] theorem eCall0_eq {m : List D → Ot D} : eCall0 m [] ρ = noX (back (m [])) := rfl
@[simp] theorem noX_ok {d : D} : noX (.ok d) = .ok d := rfl
@[simp] theorem back_ok {d : D} : back (.ok d) = if noB d then .ok d else .no := rfl
@[simp] theorem eM_eq {T : String} : eM T p f fs ρ = (f ρ).bind fun x => if tyB T x then (eL fs ρ).bind fun ds => .of (p (x :: ds)) else .no := rfl
@[simp] theorem oNone_eq : oNone ρ = .ok none := rfl
@[simp] theorem oSome_eq : oSome f ρ = (f ρ).bind fun d => (asI d).bind fun i => .ok (some i) := rfl
@[simp] theorem asI_int {i : Int} : asI (.int i) = .ok i := rfl
@[simp] theorem eSl_eq {pp : D → Option Int → Option Int → Option D} {lo hi : En → Ot (Option Int)} : eSl pp f lo hi ρ = (f ρ).bind fun d => (lo ρ).bind fun lo => (hi ρ).bind fun hi => .of (pp d lo hi) := rfl
@[simp] theorem itV_eq : itV f ρ = (f ρ).bind fun d => .of (itemsD d) := rfl
@[simp] theorem eVar_eq {i : Nat} : eVar i ρ = .of ((getV ρ i).map (mapF Fl.toTmp)) := rfl
@[simp] theorem getV_eq {i : Nat} : getV ρ i = (ρ[i]?).join := rfl
@[simp] theorem mapF_non {k : Fl → Fl} : mapF k .non = .non := rfl
@[simp] theorem mapF_bl {k : Fl → Fl} {b : Bool} : mapF k (.bl b) = .bl b := rfl
@[simp] theorem mapF_int {k : Fl → Fl} {b : Int} : mapF k (.int b) = .int b := rfl
@[simp] theorem mapF_str {k : Fl → Fl} {b : Str} : mapF k (.str b) = .str b := rfl
@[simp] theorem mapF_lst {k : Fl → Fl} {x : Fl} {ds : List D} : mapF k (.nd (.lst x) ds) = .nd (.lst (k x)) (ds.map (mapF k)) := by rw [mapF, mapFL_eq]; rfl
@[simp] theorem mapF_dct {k : Fl → Fl} {x : Fl} {ks : List Key} {ds : List D} : mapF k (.nd (.dct x ks) ds) = .nd (.dct (k x) ks) (ds.map (mapF k)) := by rw [mapF, mapFL_eq]; rfl
@[simp] theorem mapF_tup {k : Fl → Fl} {ds : List D} : mapF k (.nd .tup ds) = .nd .tup (ds.map (mapF k)) := by rw [mapF, mapFL_eq]; rfl
@[simp] theorem toTmp_own : Fl.toTmp .own = .tmp := rfl
@[simp] theorem toTmp_tmp : Fl.toTmp .tmp = .tmp := rfl
@[simp] theorem toTmp_frz : Fl.toTmp .frz = .frz := rfl
@[simp] theorem toTmp_bor : Fl.toTmp .bor = .bor := rfl
@[simp] theorem toFrz_own : Fl.toFrz .own = .frz := rfl
@[simp] theorem toFrz_frz : Fl.toFrz .frz = .frz := rfl
@[simp] theorem toFrz_bor : Fl.toFrz .bor = .bor := rfl
@[simp] theorem toFrz_tmp : Fl.toFrz .tmp = .tmp := rfl
@[simp] theorem toArg_own : Fl.toArg .own = .frz := rfl
@[simp] theorem toArg_frz : Fl.toArg .frz = .frz := rfl
@[simp] theorem toArg_bor : Fl.toArg .bor = .bor := rfl
@[simp] theorem toArg_tmp : Fl.toArg .tmp = .bor := rfl
@[simp] theorem tmpFrz_own : Fl.tmpFrz .own = .frz := rfl
@[simp] theorem tmpFrz_frz : Fl.tmpFrz .frz = .frz := rfl
@[simp] theorem tmpFrz_bor : Fl.tmpFrz .bor = .bor := rfl
@[simp] theorem tmpFrz_tmp : Fl.tmpFrz .tmp = .frz := rfl
@[simp] theorem toArg_eq {d : D} : toArg d = mapF Fl.toArg d := rfl
@[simp] theorem toFrzD_eq {d : D} : toFrz d = mapF Fl.toFrz d := rfl
@[simp] theorem noT_non : noT .non = true := rfl
@[simp] theorem noT_bl {b : Bool} : noT (.bl b) = true := rfl
@[simp] theorem noT_int {b : Int} : noT (.int b) = true := rfl
@[simp] theorem noT_str {b : Str} : noT (.str b) = true := rfl
@[simp] theorem noT_lst {x : Fl} {ds : List D} : noT (.nd (.lst x) ds) = ((x != .tmp) && ds.all noT) := by unfold noT; rw [allF, allFL_eq]; rfl
@[simp] theorem noT_dct {x : Fl} {ks : List Key} {ds : List D} : noT (.nd (.dct x ks) ds) = ((x != .tmp) && ds.all noT) := by unfold noT; rw [allF, allFL_eq]; rfl
@[simp] theorem noT_tup {ds : List D} : noT (.nd .tup ds) = ds.all noT := by unfold noT; rw [allF, allFL_eq]; first | done | (show (true && _) = _; rw [Bool.true_and])
@[simp] theorem noB_non : noB .non = true := rfl
@[simp] theorem noB_bl {b : Bool} : noB (.bl b) = true := rfl
@[simp] theorem noB_int {b : Int} : noB (.int b) = true := rfl
@[simp] theorem noB_str {b : Str} : noB (.str b) = true := rfl
@[simp] theorem noB_lst {x : Fl} {ds : List D} : noB (.nd (.lst x) ds) = ((x == .own || x == .frz) && ds.all noB) := by unfold noB; rw [allF, allFL_eq]; rfl
@[simp] theorem noB_dct {x : Fl} {ks : List Key} {ds : List D} : noB (.nd (.dct x ks) ds) = ((x == .own || x == .frz) && ds.all noB) := by unfold noB; rw [allF, allFL_eq]; rfl
@[simp] theorem noB_tup {ds : List D} : noB (.nd .tup ds) = ds.all noB := by unfold noB; rw [allF, allFL_eq]; first | done | (show (true && _) = _; rw [Bool.true_and])
end
section
variable {f : En → Ot D} {g h : Mst} {ρ ρ1 : En} {t : En → Ot Bool} {d : D}
theorem sSeq_nx (e : g ρ = some (.nx, ρ1)) : sSeq g h ρ = h ρ1 := by unfold sSeq; rw [e]
theorem sSeq_ret (e : g ρ = some (.ret d, ρ1)) : sSeq g h ρ = some (.ret d, ρ1) := by unfold sSeq; rw [e]
theorem sIf_t (e : t ρ = .ok true) : sIf t g h ρ = g ρ := by unfold sIf; rw [e]; rfl
theorem sIf_f (e : t ρ = .ok false) : sIf t g h ρ = h ρ := by unfold sIf; rw [e]; rfl
theorem sSet_ok {i : Nat} (e : f ρ = .ok d) (n : noT d = true) : sSet i f ρ = some (.nx, ρ.set i (some d)) := by unfold sSet sOn; rw [e]; exact if_pos n
theorem sRet_ok (e : f ρ = .ok d) (n : noT d = true) : sRet f ρ = some (.ret d, ρ) := by unfold sRet sOn; rw [e]; exact if_pos n
theorem sRetF_ok (e : f ρ = .ok d) : sRetF f ρ = some (.ret (mapF Fl.tmpFrz d), frzE ρ) := by unfold sRetF sOn; rw [e]
theorem sRetV_ok {i : Nat} (e : getV ρ i = some d) : sRetV i ρ = some (.ret d, ρ.set i none) := by unfold sRetV; rw [e]; rfl
@[simp] theorem sNil_eq : sNil ρ = some (.nx, ρ) := rfl
@[simp] theorem bodyM_eq {n : Nat} {ds : List D} : bodyM n g ds = match g (initE n ds) with
  | some (.nx, _) => .ok .non
  | some (.ret d, _) => .ok d
  | some (.ex x, _) => .ex x
  | _ => .no := rfl
@[simp] theorem initE_eq {n : Nat} {ds : List D} : initE n ds = ds.map some ++ List.replicate (n - ds.length) none := rfl
@[simp] theorem sSeq_eq : sSeq g h ρ = match g ρ with
  | some (.nx, ρ1) => h ρ1
  | r => r := rfl
@[simp] theorem sIf_eq : sIf t g h ρ = match t ρ with
  | .no => none
  | .ok b => if b then g ρ else h ρ
  | .ex x => some (.ex x, ρ) := rfl
@[simp] theorem sSet_eq {i : Nat} : sSet i f ρ = match f ρ with
  | .no => none
  | .ok d => if noT d then some (.nx, ρ.set i (some d)) else none
  | .ex x => some (.ex x, ρ) := rfl
@[simp] theorem sRet_eq : sRet f ρ = match f ρ with
  | .no => none
  | .ok d => if noT d then some (.ret d, ρ) else none
  | .ex x => some (.ex x, ρ) := rfl
@[simp] theorem sRetF_eq : sRetF f ρ = match f ρ with
  | .no => none
  | .ok d => some (.ret (mapF Fl.tmpFrz d), frzE ρ)
  | .ex x => some (.ex x, ρ) := rfl
@[simp] theorem sRetV_eq {i : Nat} : sRetV i ρ = match getV ρ i with
  | some d => some (.ret d, ρ.set i none)
  | none => none := by unfold sRetV; cases getV ρ i <;> rfl
end
end OB

namespace OB
open PySem PySem.Spec PyProof.Rows L2
/-- a def called with n - dd.length values, the rest its defaults dd -/
def GoodD (P : Program) (w : World) (K : PySem.W.Frag) (mg : Str → Option Value) (base : Heap) (cm : Cm) (x : Str) (n k : Nat) (m : List D → Ot D) (dd : List D) : Prop :=
  ∃ (a : Addr) (fd : FuncData) (ps : List Str) (ds : List Value), mg x = some (.ref a) ∧ PySem.W.keepIn K (.ref a) = true ∧ Binds K fd ps ds ∧ Vals (dd.map toV) ds ∧ FnOk P w K mg base (L2.CX P w) k a fd ps (spP K cm n m)
section
variable {X : Cx} {cm : Cm} {W : WX} {x : Str} {p pos : Pos} {e : Expr} {es : List Expr} {fs : List (En → Ot D)} {k j n : Nat} {m : List D → Ot D} {dd : List D}
theorem s_callGD (tk : Takes X W) (G : GoodD X.prog X.w X.K X.mg X.base cm x n k m dd) (hr : Room j X.A) (hk : k ≤ j) (hg : Gl X x) (hdd : dd.all isAt = true) (hn : fs.length + dd.length = n) (ha : SA X cm W (e :: es) (eL fs))
    (hdb : (x == ("__debug__" : Str)) = false := by decide) (he : starEach (e :: es) X.env = (false, eval e X.env) :: starEach es X.env := by rfl) (hpl : (backTo pos (starEach es X.env)).any (·.1) = false := by rfl) :
    SE X cm W (.Call (.Name x p) (e :: es) [] pos) (eCall m dd fs) := by
  obtain ⟨a, fd, ps, ds, hm, kp, b, hd, F⟩ := G
  exact s_call tk F (hr.mono hk) hg hm kp b hd hdd rfl hn ha hdb he hpl
end
/-! ### a, b = e, f of plain locals -/
def sPar (is : List Nat) (fs : List (En → Ot D)) : Mst := sOnL (eL fs) fun ds ρ => if ds.all noT && ds.length == is.length then some (.nx, (is.zip ds).foldl (fun ρ p => ρ.set p.1 (some p.2)) ρ) else none
section
variable {X : Cx} {cm : Cm} {W : WX} {P : List Nat} {a b c : Expr} {f g h : En → Ot D} {i j l k2 kt : Nat} {x y z : Str} {px py pz pt pt2 pos : Pos}
theorem ss_par (hP : ([i, j].all fun i => !P.contains i) = true) (hc : X.calm = true) (hN : X.N.Nodup) (hi : X.N[i]? = some x) (hj : X.N[j]? = some y) (hij : i ≠ j) (hx : X.env.scope.names.lookup x = some .local) (hy : X.env.scope.names.lookup y = some .local)
    (ha : SA X cm W [a, b] (eL [f, g])) (hw : swappedStores [.Tuple [.Name x px, .Name y py] kt pt] (.Tuple [a, b] k2 pt2) X.env = pure (some [x, y]) := by rfl) :
    SS X cm W P (.Assign [.Tuple [.Name x px, .Name y py] kt pt] (.Tuple [a, b] k2 pt2) pos) (sPar [i, j] [f, g]) := PS.imp (ps_par hc hN hi hj hij hx hy ha hw) fun D0 σ H q => by
  obtain ⟨Z, ρ, Fs, ok, q⟩ := q
  refine on_goL ok q fun ds vs H1 Z1 Gs e r q1 => ?_
  split at q1
  · rename_i hh
    rw [Bool.and_eq_true] at hh
    have o := ok.many r hh.1
    obtain ⟨d, d2, rfl⟩ : ∃ d d2, ds = [d, d2] := by
      have := hh.2
      match ds, this with
      | [d, d2], _ => exact ⟨d, d2, rfl⟩
    obtain ⟨v, u, F, G, rfl, rfl, h1, h2⟩ := repL2 o.rep
    refine ⟨v, u, rfl, ?_⟩
    have o1 := o.set i
    have o2 := o1.set j
    have fr : ∀ a ∈ ([F, G] : List (List Addr)).flatten, H a = none := fun a h => (r.fr a h).elim id fun q => nomatch q
    have s : SStep P σ H Z Fs ((σ.set i (some v)).set j (some u)) H1 ⟨Z1.f, Z.b, fun _ => False⟩ ((Fs.set i F).set j G) :=
      ⟨.grow r.ext.gr, fun a h => (set_mem h).elim (fun h => (set_mem h).elim .inl fun q => .inr (fr a (by simp [q]))) fun q => .inr (fr a (by simp [q])), r.ext.f, fun a h => (r.ext.fn a h).elim .inl fun q => .inr (.inr q), rfl, fun k hk => by
        simp only [List.all_cons, List.all_nil, Bool.and_true, Bool.and_eq_true] at hP
        rw [prot_set (i := j) hP.2 k hk, prot_set (i := i) hP.1 k hk]⟩
    exact q1.at_ s o2.ok
  · exact q1.elim
theorem ss_par3 (hP : ([i, j, l].all fun i => !P.contains i) = true) (hc : X.calm = true) (hN : X.N.Nodup) (hi : X.N[i]? = some x) (hj : X.N[j]? = some y) (hl : X.N[l]? = some z) (hij : i ≠ j) (hil : i ≠ l) (hjl : j ≠ l) (hx : X.env.scope.names.lookup x = some .local) (hy : X.env.scope.names.lookup y = some .local) (hz : X.env.scope.names.lookup z = some .local)
    (ha : SA X cm W [a, b, c] (eL [f, g, h])) (hw : swappedStores [.Tuple [.Name x px, .Name y py, .Name z pz] kt pt] (.Tuple [a, b, c] k2 pt2) X.env = pure (some [x, y, z]) := by rfl) :
    SS X cm W P (.Assign [.Tuple [.Name x px, .Name y py, .Name z pz] kt pt] (.Tuple [a, b, c] k2 pt2) pos) (sPar [i, j, l] [f, g, h]) := PS.imp (ps_par3 hc hN hi hj hl hij hil hjl hx hy hz ha hw) fun D0 σ H q => by
  obtain ⟨Z, ρ, Fs, ok, q⟩ := q
  refine on_goL ok q fun ds vs H1 Z1 Gs e r q1 => ?_
  split at q1
  · rename_i hh
    rw [Bool.and_eq_true] at hh
    have o := ok.many r hh.1
    obtain ⟨d, d2, d3, rfl⟩ : ∃ d d2 d3, ds = [d, d2, d3] := by
      have := hh.2
      match ds, this with
      | [d, d2, d3], _ => exact ⟨d, d2, d3, rfl⟩
    obtain ⟨v, u, t, F, G, M, rfl, rfl, h1, h2, h3⟩ := repL3 o.rep
    refine ⟨v, u, t, rfl, ?_⟩
    have o1 := o.set i
    have o2 := o1.set j
    have o3 := o2.set l
    have fr : ∀ a ∈ ([F, G, M] : List (List Addr)).flatten, H a = none := fun a h => (r.fr a h).elim id fun q => nomatch q
    have s : SStep P σ H Z Fs (((σ.set i (some v)).set j (some u)).set l (some t)) H1 ⟨Z1.f, Z.b, fun _ => False⟩ (((Fs.set i F).set j G).set l M) :=
      ⟨.grow r.ext.gr, fun a h => (set_mem h).elim (fun h => (set_mem h).elim (fun h => (set_mem h).elim .inl fun q => .inr (fr a (by simp [q]))) fun q => .inr (fr a (by simp [q]))) fun q => .inr (fr a (by simp [q])), r.ext.f, fun a h => (r.ext.fn a h).elim .inl fun q => .inr (.inr q), rfl, fun k hk => by
        simp only [List.all_cons, List.all_nil, Bool.and_true, Bool.and_eq_true] at hP
        rw [prot_set (i := l) hP.2.2 k hk, prot_set (i := j) hP.2.1 k hk, prot_set (i := i) hP.1 k hk]⟩
    exact q1.at_ s o3.ok
  · exact q1.elim
end
section
variable {P : Program} {w : World} {K : PySem.W.Frag} {mg : Str → Option Value} {base : Heap} {cm : Cm}
theorem fn_pureD {x qual : Str} {st : Stmt} {f : Addr} {fd : FuncData} {N ps : List Str} {k : Nat} {g : Mst} {dvs : List V} {kws : List (Str × V)} (F : FunD K x qual (defArgs st) (defBody st) (defScope st) dvs kws f fd) (S : FnScope N ps (defScope st)) (hl : ps.length ≤ N.length)
    (hb : ∀ (cdv : Value) (A : Around) (outer : List Env) (s : Shared) (H : Hp) (E : XK), Room k (A.deeper (envOfC qual (defScope st) s.heap.objs.size f cdv)) →
      SB (cxOf (L2.CX P w) P w K mg base N qual (defScope st) f cdv A outer s H E) cm (fun cls dd _ H' => E cls dd H') [] (defBody st) g) :
    FnOk P w K mg base (L2.CX P w) (k + 1) f fd ps (spP K cm ps.length (bodyM N.length g)) :=
  F.ok S (fun _ _ _ _ h => spP_len h) fun cdv A outer s H vs Q E hr h => ⟨_, hb cdv A outer s H E hr, by
    have hv := spP_len h
    obtain ⟨f, ds, Gs, hf, _, e, r, q⟩ := h
    exact body_fin hf e r (by rw [hv]; exact hl) q⟩
end
theorem vals_nil {ds : List Value} (h : Vals [] ds) : ds = [] := by cases h; rfl
end OB

namespace OB
open PySem PySem.Spec PyProof.Rows L2 PySem.NumText
theorem compL_filter {tg : D → En → Option En} {c : En → Ot Bool} {f : En → Ot D} {ρ : En} (b : D → Bool) (y : D → D) : ∀ ds : List D, (∀ d ∈ ds, ∃ ρ1, tg d ρ = some ρ1 ∧ c ρ1 = .ok (b d) ∧ (b d = true → f ρ1 = .ok (y d))) → compL tg c f ρ ds = some ((ds.filter b).map y)
  | [], _ => rfl
  | d :: ds, h => by
    obtain ⟨ρ1, e1, e2, e3⟩ := h d List.mem_cons_self
    have ih := compL_filter b y ds fun d hd => h d (List.mem_cons_of_mem _ hd)
    unfold compL
    rw [e1, Option.bind_some, e2]
    cases hb : b d with
    | true =>
      rw [e3 hb, ih, List.filter_cons_of_pos hb]; rfl
    | false =>
      rw [List.filter_cons_of_neg (by rw [hb]; exact Bool.false_ne_true)]
      exact ih
theorem compL_map {tg : D → En → Option En} {f : En → Ot D} {ρ : En} (y : D → D) (ds : List D) (h : ∀ d ∈ ds, ∃ ρ1, tg d ρ = some ρ1 ∧ f ρ1 = .ok (y d)) : compL tg cYes f ρ ds = some (ds.map y) := by
  have := compL_filter (c := cYes) (fun _ => true) y ds fun d hd => by
    obtain ⟨ρ1, a, b⟩ := h d hd
    exact ⟨ρ1, a, rfl, fun _ => b⟩
  rwa [List.filter_eq_self.mpr (fun _ _ => rfl)] at this
theorem eComp_ok {it : En → Ot Its'} {tg : D → En → Option En} {c : En → Ot Bool} {f : En → Ot D} {vs : List Nat} {ρ : En} {p : Its'} {ys : List D} (e1 : it ρ = .ok p) (e2 : compL tg c f (wipeE ρ vs) p.1 = some ys) (hl : ys.length ≤ sizeLine) : eComp it tg c f vs ρ = .ok (.nd (.lst .own) ys) := by
  unfold eComp
  rw [e1, Ot.bind_ok, e2]
  exact if_pos hl
theorem forL_inv {tg : D → En → Option En} {b : Mst} (Inv : Nat → En → Prop) : ∀ (ds : List D) (i : Nat) (ρ : En), (∀ j d ρ, ds[j]? = some d → Inv (i + j) ρ → ∃ ρ1 ρ2, tg d ρ = some ρ1 ∧ b ρ1 = some (.nx, ρ2) ∧ Inv (i + j + 1) ρ2) → Inv i ρ → ∃ ρ', forL tg b ds ρ = some (.nx, ρ') ∧ Inv (i + ds.length) ρ'
  | [], i, ρ, _, h0 => ⟨ρ, rfl, h0⟩
  | d :: ds, i, ρ, h, h0 => by
    obtain ⟨ρ1, ρ2, e1, e2, h1⟩ := h 0 d ρ rfl h0
    obtain ⟨ρ', e3, h3⟩ := forL_inv Inv ds (i + 1) ρ2 (fun j d ρ hd hi => by
      have := h (j + 1) d ρ (by simpa using hd) (by rw [show i + (j + 1) = i + 1 + j by omega]; exact hi)
      rwa [show i + (j + 1) + 1 = i + 1 + j + 1 by omega] at this) h1
    refine ⟨ρ', ?_, by rw [List.length_cons, show i + (ds.length + 1) = i + 1 + ds.length by omega]; exact h3⟩
    unfold forL
    rw [e1]
    dsimp only
    rw [e2]
    exact e3
theorem sFor_ok {it : En → Ot Its'} {tg : D → En → Option En} {b : Mst} {ρ : En} {ds : List D} (e : it ρ = .ok (ds, true)) (Inv : Nat → En → Prop) (h0 : Inv 0 ρ)
    (h : ∀ j d ρ, ds[j]? = some d → Inv j ρ → ∃ ρ1 ρ2, tg d ρ = some ρ1 ∧ b ρ1 = some (.nx, ρ2) ∧ Inv (j + 1) ρ2) : ∃ ρ', sFor it tg b ρ = some (.nx, ρ') ∧ Inv ds.length ρ' := by
  obtain ⟨ρ', e1, e2⟩ := forL_inv (tg := tg) (b := b) Inv ds 0 ρ (by simpa using h) h0
  refine ⟨ρ', ?_, by simpa using e2⟩
  unfold sFor
  rw [e]
  exact e1
structure OkS (s : Str) (n : Nat) : Prop where
  len : s.length ≤ n
  ok : ∀ c ∈ s.cps.toList, c < 0x110000
theorem OkS.str {s : Str} {n : Nat} (h : OkS s n) : PyData.strOk s = true := by
  unfold PyData.strOk
  rw [Array.all_eq_true_iff_forall_mem]
  intro c hc
  exact decide_eq_true (h.ok c (by simpa using hc))
theorem toPyL_strs : ∀ ss : List Str, toPyL (ss.map .str) = some (ss.map .str)
  | [] => rfl
  | s :: ss => by
    rw [List.map_cons, toPyL, toPyL_strs ss]; rfl
theorem shaped_strs {n : Nat} {ss : List Str} (h : ∀ s ∈ ss, OkS s n) : SeqAt.shaped (.list (ss.map .str)) = true := by
  have h1 : ∀ ss : List Str, (∀ s ∈ ss, OkS s n) → PyData.canLayAll0 (ss.map .str) = true := by
    intro ss
    induction ss with
    | nil => exact fun _ => rfl
    | cons s ss ih =>
      intro h
      rw [List.map_cons, PyData.canLayAll0, ih fun s hs => h s (List.mem_cons_of_mem _ hs), Bool.and_true, PyData.canLay0]
      exact (h s List.mem_cons_self).str
  have h2 : ∀ ss : List Str, PyData.depthAll (ss.map .str) = 0 := by
    intro ss
    induction ss with
    | nil => rfl
    | cons s ss ih => rw [List.map_cons, PyData.depthAll, ih, PyData.depth]; rfl
  unfold SeqAt.shaped
  rw [PyData.canLay0, h1 ss h, PyData.depth, h2]
  rfl
theorem eqvAll_refl : ∀ ss : List Str, PyData.eqvAll (ss.map .str) (ss.map .str) = true
  | [] => by simp [PyData.eqvAll]
  | s :: ss => by
    rw [List.map_cons, PyData.eqvAll, eqvAll_refl ss, PyData.eqv]; simp
theorem deepEq_strs {f g : Fl} {n : Nat} {ss tt : List Str} (h : ∀ s ∈ ss, OkS s n) (h' : ∀ s ∈ tt, OkS s n) : deepEq (.nd (.lst f) (ss.map .str)) (.nd (.lst g) (tt.map .str)) = some (PyData.eqvAll (ss.map .str) (tt.map .str)) := by
  unfold deepEq
  rw [toPy, toPy, toPyL_strs, toPyL_strs]
  simp only [Option.map_some, Option.bind_some, shaped_strs h, shaped_strs h', Bool.and_self, if_true, PyData.eqv]
theorem pEq_nil {f g : Fl} {n : Nat} {ss : List Str} (h : ∀ s ∈ ss, OkS s n) : pEq [.nd (.lst f) (ss.map .str), .nd (.lst g) []] = some (.bl ss.isEmpty) := by
  have := deepEq_strs (f := f) (g := g) h (tt := []) fun _ h => nomatch h
  unfold pEq
  simp only [atEq, Option.none_or]
  rw [show ([] : List D) = ([] : List Str).map .str from rfl, this]
  cases ss <;> simp [PyData.eqvAll]
theorem pNe_nil {f g : Fl} {n : Nat} {ss : List Str} (h : ∀ s ∈ ss, OkS s n) : pNe [.nd (.lst f) (ss.map .str), .nd (.lst g) []] = some (.bl (!ss.isEmpty)) := by
  have := deepEq_strs (f := f) (g := g) h (tt := []) fun _ h => nomatch h
  unfold pNe
  simp only [atEq, Option.none_or]
  rw [show ([] : List D) = ([] : List Str).map .str from rfl, this]
  cases ss <;> simp [PyData.eqvAll]
theorem pNe_refl {f g : Fl} {n : Nat} {ss : List Str} (h : ∀ s ∈ ss, OkS s n) : pNe [.nd (.lst f) (ss.map .str), .nd (.lst g) (ss.map .str)] = some (.bl false) := by
  unfold pNe
  simp only [atEq, Option.none_or]
  rw [deepEq_strs h h, eqvAll_refl]; rfl
def sg (c : Nat) : Str := ⟨#[c]⟩
def sgs (s : Str) : List Nat := s.cps.toList
theorem sgs_len {s : Str} : (sgs s).length = s.length := Array.length_toList
theorem items_str {s : Str} : itemsD (.str s) = some ((sgs s).map fun c => D.str (sg c), true) := rfl
theorem in_sg {c : Nat} {z : Str} : pIn [.str (sg c), .str z] = some (.bl (decide (c ∈ sgs z))) := rfl
theorem notIn_sg {c : Nat} {z : Str} : pNotIn [.str (sg c), .str z] = some (.bl (!decide (c ∈ sgs z))) := rfl
theorem blsD_map (bs : List Bool) : blsD (bs.map .bl) = some bs := by
  induction bs with
  | nil => rfl
  | cons b bs ih => rw [List.map_cons, blsD, ih]; rfl
theorem len_str {s : Str} (h : s.length ≤ 16777216) : pLen [.str s] = some (.int s.length) := by
  show (if s.length ≤ sizeLine then _ else _) = _
  exact if_pos h
theorem le_int {i j : Int} : pLe [.int i, .int j] = some (.bl (decide (i ≤ j))) := rfl
def lets : Str := "abcdefghijklmnopqrstuvwxyz"
def figs : Str := "0123456789"
def among (s z : Str) : Bool := (sgs s).all fun c => decide (c ∈ sgs z)
theorem odd_sgs {cs : List Nat} {z : List Nat} : (cs.filter fun c => !decide (c ∈ z)).isEmpty = cs.all fun c => decide (c ∈ z) := by
  induction cs with
  | nil => rfl
  | cons c cs ih =>
    by_cases h : c ∈ z <;> simp_all
theorem comp_notIn {i : Nat} {s z : Str} {ρ : En} {fz : En → Ot D} (h : s.length ≤ 16777216) (hi : i < ρ.length) (e1 : eVar 0 ρ = .ok (.str s)) (hz : ∀ d, fz ((wipeE ρ [i]).set i (some d)) = .ok (.str z)) :
    eComp (itV (eVar 0)) (tgName i) (eT (ePr pNotIn [eVar i, fz])) (eVar i) [i] ρ = .ok (.nd (.lst .own) (((sgs s).filter fun c => !decide (c ∈ sgs z)).map fun c => .str (sg c))) := by
  have hl : (sgs s).length ≤ sizeLine := by rw [sgs_len]; exact h
  refine eComp_ok (p := ((sgs s).map fun c => D.str (sg c), true)) (by rw [itV_eq, e1]; rfl) ?_ ?_ (ys := ((sgs s).filter fun c => !decide (c ∈ sgs z)).map fun c => .str (sg c))
  · have := compL_filter (tg := tgName i) (c := eT (ePr pNotIn [eVar i, fz])) (f := eVar i) (ρ := wipeE ρ [i]) (fun d => match d with | .str a => (match sgs a with | [c] => !decide (c ∈ sgs z) | _ => false) | _ => false) id ((sgs s).map fun c => D.str (sg c)) fun d hd => by
      obtain ⟨c, hc, rfl⟩ := List.mem_map.mp hd
      have ei : (((wipeE ρ [i]).set i (some (D.str (sg c))))[i]?).join = some (.str (sg c)) := by
        rw [List.getElem?_set_self (by unfold wipeE wipeE; simpa using hi)]; rfl
      refine ⟨_, rfl, ?_, fun _ => ?_⟩
      · simp only [eT_eq, ePr_eq, eL_cons, eL_nil, eVar_eq, getV_eq, ei, hz, Option.map_some, mapF_str, Ot.of_some, Ot.bind_ok, notIn_sg, asB_bl]
        rfl
      · simp only [eVar_eq, getV_eq, ei, Option.map_some, mapF_str, Ot.of_some]; rfl
    rw [this, List.map_id, List.filter_map]
    rfl
  · rw [List.length_map]
    exact Nat.le_trans (List.length_filter_le _ _) hl
theorem sg_ok {s : Str} {n : Nat} (h : OkS s n) {c : Nat} (hc : c ∈ sgs s) : OkS (sg c) 1 := ⟨Nat.le_refl _, fun d hd => by
  have : d = c := by simpa [sg] using hd
  subst this
  exact h.ok d hc⟩
theorem bits_le {x : Int} {k : Nat} (h : x.natAbs < 2 ^ k) : Builtin.Int.intBits x ≤ k := by
  unfold Builtin.Int.intBits
  split
  · exact Nat.zero_le _
  · rename_i h0
    have h0 : x.natAbs ≠ 0 := by
      intro e
      exact h0 (by simpa using Int.natAbs_eq_zero.mp e)
    exact (Nat.log2_lt h0).mpr h
theorem bits_ge {x : Int} {k : Nat} (h : Builtin.Int.intBits x ≤ k) : x.natAbs < 2 ^ k := by
  unfold Builtin.Int.intBits at h
  split at h
  · rename_i e
    have e : x = 0 := by simpa using e
    subst e
    exact Nat.pow_pos (by decide)
  · rename_i h0
    have h0 : x.natAbs ≠ 0 := by
      intro e
      exact h0 (by simpa using Int.natAbs_eq_zero.mp e)
    exact (Nat.log2_lt h0).mp h
theorem mul_int {i j : Int} {k l : Nat} (h1 : i.natAbs < 2 ^ k) (h2 : j.natAbs < 2 ^ l) (h : k + l ≤ 134217728) : pMul [.int i, .int j] = some (.int (i * j)) := by
  have : mulOk i j = true := decide_eq_true (Nat.le_trans (Nat.add_le_add (bits_le h1) (bits_le h2)) h)
  show (if mulOk i j = true then _ else _) = _
  exact if_pos this
theorem add_int {i j : Int} : pAdd [.int i, .int j] = some (.int (i + j)) := rfl
theorem sub_int {i j : Int} : pSub [.int i, .int j] = some (.int (i - j)) := rfl
theorem eq_int {i j : Int} : pEq [.int i, .int j] = some (.bl (i == j)) := rfl
theorem eq_str {i j : Str} : pEq [.str i, .str j] = some (.bl (i == j)) := rfl
theorem ne_str {i j : Str} : pNe [.str i, .str j] = some (.bl (!(i == j))) := rfl
theorem eq_bl {i j : Bool} : pEq [.bl i, .bl j] = some (.bl (i == j)) := rfl
theorem ne_bl {i j : Bool} : pNe [.bl i, .bl j] = some (.bl (!(i == j))) := rfl
theorem mod_int {i j : Int} (h : 0 < j) : pMod [.int i, .int j] = some (.int (i % j)) := by
  show (if j ≠ 0 then some (D.int (modV i j)) else none) = _
  rw [if_pos (by omega)]
  unfold modV
  rw [if_pos h]
theorem div_int {i j : Int} (h : 0 < j) (h2 : j < 2 ^ 62) : pDiv [.int i, .int j] = some (.int (i / j)) := by
  have : divOk j = true := by
    unfold divOk
    rw [Bool.and_eq_true]
    refine ⟨decide_eq_true (by omega), decide_eq_true ?_⟩
    have h0 : j.natAbs ≠ 0 := by omega
    exact Nat.lt_trans ((Nat.log2_lt h0 (k := 62)).mpr (by omega)) (by decide)
  show (if divOk j = true then _ else _) = _
  rw [if_pos this]
  unfold divV
  rw [if_pos h]
theorem ix0_str {s : Str} {c : Nat} {r : List Nat} (h : s.length ≤ 16777216) (e : sgs s = c :: r) : pIx [.str s, .int 0] = some (.str (sg c)) := by
  show (if s.length ≤ sizeLine then (atI s.cps.toList 0).map (fun c => D.str ⟨#[c]⟩) else none) = _
  rw [if_pos (show s.length ≤ sizeLine from h), show s.cps.toList = c :: r from e]
  simp [atI, ixN]
  rfl
theorem figs_sgs : sgs figs = [48, 49, 50, 51, 52, 53, 54, 55, 56, 57] := by decide +kernel
theorem among_figs {s : Str} (h : among s figs = true) : AllDigits (sgs s) := fun c hc => by
  have := List.all_eq_true.mp h c hc
  have := of_decide_eq_true this
  rw [figs_sgs] at this
  simp at this
  omega
theorem sidx {k : Nat} (h : k < 10) : pSIdx [.str figs, .str (sg (48 + k))] = some (.int k) := by
  have : ∀ k : Fin 10, Builtin.Str.occurrences figs (sg (48 + k.val)) 0 figs.length 1 = [k.val] := by decide +kernel
  show (match Builtin.Str.occurrences figs (sg (48 + k)) 0 figs.length 1 with
    | i :: _ => some (D.int (i : Nat))
    | [] => none) = _
  rw [this ⟨k, h⟩]
theorem dv_snoc (cs : List Nat) (c : Nat) : digitsVal (cs ++ [c]) = digitsVal cs * 10 + (c - 48) := by
  unfold digitsVal
  rw [List.foldl_append]
  rfl
theorem dv_lt (cs : List Nat) (h : AllDigits cs) : digitsVal cs < 10 ^ cs.length := by
  have key : ∀ rs : List Nat, AllDigits rs → digitsVal rs.reverse < 10 ^ rs.length := by
    intro rs
    induction rs with
    | nil => intro _; decide
    | cons c rs ih =>
      intro h
      have h1 := ih fun d hd => h d (List.mem_cons_of_mem _ hd)
      have h2 := h c List.mem_cons_self
      rw [List.reverse_cons, dv_snoc, List.length_cons, Nat.pow_succ]
      omega
  have := key cs.reverse fun d hd => h d (List.mem_reverse.mp hd)
  rwa [List.reverse_reverse, List.length_reverse] at this
def numD (s : Str) : D := if decide ((1 : Int) ≤ s.length) && (decide ((s.length : Int) ≤ 1000) && among s figs) then (if sg ((sgs s).headD 0) == sg 48 && !(s == sg 48) then .non else .int (digitsVal (sgs s))) else .non
theorem zero_sg : (Str.ofString "0") = sg 48 := by decide +kernel
theorem range8 {n : Nat} {j : Nat} {d : D} (h : (rngD 0 (n : Nat))[j]? = some d) : j < n ∧ d = .int j := by
  unfold rngD at h
  rw [List.getElem?_map] at h
  cases e : (List.range ((n : Int) - 0).toNat)[j]? with
  | none => rw [e] at h; cases h
  | some i =>
    rw [e] at h
    cases h
    obtain ⟨h1, h2⟩ := List.getElem?_eq_some_iff.mp e
    simp at h1 h2
    subst h2
    exact ⟨by omega, by simp⟩
theorem ipow {n : Nat} (hn : 0 < n) {j k : Nat} (h : j ≤ k) : ((n : Nat) : Int) ^ j ≤ ((n : Nat) : Int) ^ k := by
  rw [← Int.natCast_pow, ← Int.natCast_pow]
  exact Int.ofNat_le.mpr (Nat.pow_le_pow_right hn h)
def dgs (n : Nat) : List Nat := (Nat.toDigits 10 n).map Char.toNat
theorem dgs_lt {m : Nat} (h : m < 10) : dgs m = [48 + m] := by
  unfold dgs
  rw [Nat.toDigits_of_lt_base h]
  have : ∀ k : Fin 10, (Nat.digitChar k.val).toNat = 48 + k.val := by decide +kernel
  simp [this ⟨m, h⟩]
theorem dgs_ge {m : Nat} (h : 10 ≤ m) : dgs m = dgs (m / 10) ++ [48 + m % 10] := by
  have hm : m % 10 < 10 := Nat.mod_lt m (by decide)
  have t : Nat.toDigits 10 (m / 10) ++ Nat.toDigits 10 (m % 10) = Nat.toDigits 10 (10 * (m / 10) + m % 10) := Nat.toDigits_append_toDigits (by decide) (by omega) hm
  rw [Nat.div_add_mod] at t
  have e := dgs_lt hm
  unfold dgs at e ⊢
  rw [← t, List.map_append, e]
theorem dgs_all : ∀ (m : Nat), (∀ c ∈ dgs m, 48 ≤ c ∧ c ≤ 57) ∧ digitsVal (dgs m) = m ∧ (0 < m → ∃ c r, dgs m = c :: r ∧ c ≠ 48) := fun m => by
  induction m using Nat.strongRecOn with
  | _ m ih =>
    by_cases h : m < 10
    · rw [dgs_lt h]
      refine ⟨fun c hc => ?_, ?_, fun h0 => ⟨_, _, rfl, by omega⟩⟩
      · have : c = 48 + m := by simpa using hc
        omega
      · show 0 * 10 + (48 + m - 48) = m
        omega
    · rw [dgs_ge (by omega)]
      obtain ⟨i1, i2, i3⟩ := ih (m / 10) (by omega)
      refine ⟨fun c hc => ?_, ?_, fun _ => ?_⟩
      · rcases List.mem_append.mp hc with q | q
        · exact i1 c q
        · have : c = 48 + m % 10 := by simpa using q
          omega
      · rw [dv_snoc, i2]
        omega
      · obtain ⟨c, r, e, hc⟩ := i3 (by omega)
        exact ⟨c, r ++ [48 + m % 10], by rw [e]; rfl, hc⟩
theorem dgs_len : ∀ (k m : Nat), m < 10 ^ (k + 1) → (dgs m).length ≤ k + 1
  | 0, m, h => by rw [dgs_lt (by simpa using h)]; simp
  | k + 1, m, h => by
    by_cases h2 : m < 10
    · rw [dgs_lt h2]; simp
    · rw [dgs_ge (by omega), List.length_append]
      have := dgs_len k (m / 10) (by rw [Nat.pow_succ] at h; omega)
      simp; omega
def num (m : Nat) : Str := ⟨(dgs m).toArray⟩
theorem num_eq (m : Nat) : Str.ofString (toString ((m : Nat) : Int)) = num m := by
  have := PySem.W.KIN.signs_num m
  have e : (Str.ofString (toString ((m : Nat) : Int))).cps = (dgs m).toArray := by
    rw [← Array.toArray_toList (xs := (Str.ofString (toString ((m : Nat) : Int))).cps), this]
    rfl
  cases h : Str.ofString (toString ((m : Nat) : Int)) with
  | mk a =>
    rw [h] at e
    unfold num
    rw [← e]
theorem sgs_num (m : Nat) : sgs (num m) = dgs m := by unfold sgs num; simp
theorem numD_num {m : Nat} (h : (dgs m).length ≤ 1000) : numD (num m) = .int m := by
  obtain ⟨a1, a2, a3⟩ := dgs_all m
  have hl : (num m).length = (dgs m).length := by rw [← sgs_len, sgs_num]
  have h0 : 1 ≤ (dgs m).length := by
    by_cases h : m < 10
    · rw [dgs_lt h]; simp
    · rw [dgs_ge (by omega)]; simp
  have ha : among (num m) figs = true := by
    unfold among
    rw [sgs_num, List.all_eq_true]
    intro c hc
    obtain ⟨b1, b2⟩ := a1 c hc
    rw [figs_sgs]
    have : c = 48 ∨ c = 49 ∨ c = 50 ∨ c = 51 ∨ c = 52 ∨ c = 53 ∨ c = 54 ∨ c = 55 ∨ c = 56 ∨ c = 57 := by omega
    exact decide_eq_true (by simpa using this)
  unfold numD
  rw [ha, hl, decide_eq_true (by omega), decide_eq_true (by omega), sgs_num, a2]
  simp only [Bool.and_self, if_true]
  rw [if_neg]
  rw [Bool.and_eq_true, not_and]
  intro e1 e2
  have e1 : sg ((dgs m).headD 0) = sg 48 := by simpa using e1
  by_cases hm : 0 < m
  · obtain ⟨c, r, e, hc⟩ := a3 hm
    rw [e] at e1
    unfold sg at e1
    simp at e1
    exact hc e1
  · have : m = 0 := by omega
    subst this
    have : num 0 = sg 48 := by decide +kernel
    rw [this] at e2
    simp at e2
@[simp] theorem mapF_comp_str {k : Fl → Fl} : mapF k ∘ D.str = D.str := rfl
@[simp] theorem mapF_comp_str2 {α : Type} {k : Fl → Fl} {g : α → Str} : mapF k ∘ D.str ∘ g = D.str ∘ g := rfl
@[simp] theorem map_mapF_str {k : Fl → Fl} {F : List Str} : List.map (mapF k) (F.map D.str) = F.map D.str := by rw [List.map_map]; rfl
@[simp] theorem all_noT_str {F : List Str} : (F.map D.str).all noT = true := by rw [List.all_map]; exact List.all_eq_true.mpr fun _ _ => rfl
@[simp] theorem all_noB_str {F : List Str} : (F.map D.str).all noB = true := by rw [List.all_map]; exact List.all_eq_true.mpr fun _ _ => rfl
theorem ixfig {k : Nat} (h : k < 10) : pIx [.str figs, .int (k : Nat)] = some (.str (sg (48 + k))) := by
  have : ∀ k : Fin 10, atI figs.cps.toList ((k.val : Nat) : Int) = some (48 + k.val) := by decide +kernel
  show (if figs.length ≤ sizeLine then (atI figs.cps.toList (k : Nat)).map (fun c => D.str ⟨#[c]⟩) else none) = _
  rw [if_pos (by decide +kernel), this ⟨k, h⟩]
  rfl
theorem gt_int {i j : Int} : pGt [.int i, .int j] = some (.bl (decide (j < i))) := rfl
theorem join_sg (cs : List Nat) : Txt.join "" (cs.map sg) = ⟨cs.toArray⟩ := by
  have key : ∀ cs : List Nat, (Str.join "" (cs.map sg)) = ⟨cs.toArray⟩ := by
    intro cs
    induction cs with
    | nil => rfl
    | cons c cs ih =>
      cases cs with
      | nil => rfl
      | cons d ds =>
        show sg c ++ "" ++ Str.join "" ((d :: ds).map sg) = _
        rw [ih]
        have : sg c ++ (Str.ofString "") = sg c := by
          show (⟨#[c] ++ (Str.ofString "").cps⟩ : Str) = ⟨#[c]⟩
          have : (Str.ofString "").cps = #[] := by decide +kernel
          rw [this]; simp
        rw [this]
        show (⟨#[c] ++ (d :: ds).toArray⟩ : Str) = _
        simp
  rw [TL.join_eq]
  exact key cs
theorem at_str {z : Str} (hz : OkS z 200) {k : Int} (h0 : 0 ≤ k) (h1 : k < z.length) : ∃ w, pIx [.str z, .int k] = some (.str w) ∧ OkS w 1 := by
  have hl : k.toNat < (sgs z).length := by rw [sgs_len]; omega
  have e : atI z.cps.toList k = some ((sgs z)[k.toNat]) := by
    unfold atI ixN
    rw [if_pos h0, if_pos (by rw [show z.cps.toList = sgs z from rfl, sgs_len]; exact h1)]
    exact List.getElem?_eq_getElem hl
  refine ⟨sg ((sgs z)[k.toNat]), ?_, sg_ok hz (List.getElem_mem hl)⟩
  show (if z.length ≤ sizeLine then (atI z.cps.toList k).map (fun c => D.str ⟨#[c]⟩) else none) = _
  rw [if_pos (show z.length ≤ sizeLine from Nat.le_trans hz.len (by decide)), e]
  rfl
theorem okS_of {z : Str} {n : Nat} (h1 : z.length ≤ n) (h : z.cps.toList.all (fun c => decide (c < 0x110000)) = true) : OkS z n := ⟨h1, fun c hc => of_decide_eq_true (List.all_eq_true.mp h c hc)⟩
theorem lets_ok : OkS lets 200 := okS_of (by decide +kernel) (by decide +kernel)
theorem lets_len : lets.length = 26 := by decide +kernel
theorem str_fig {k : Int} (h0 : 0 ≤ k) (h1 : k < 10) : ∃ w, pStr [.int k] = some (.str w) ∧ OkS w 1 := by
  obtain ⟨m, rfl⟩ := Int.eq_ofNat_of_zero_le h0
  have hm : m < 10 := by omega
  refine ⟨num m, ?_, ?_, fun c hc => ?_⟩
  · unfold pStr
    have hlog : (m : Int).natAbs.log2 < 1920 := by
      by_cases h0 : m = 0
      · subst h0; decide
      · exact Nat.lt_trans ((Nat.log2_lt (k := 4) (by simpa using h0)).mpr (by simp; omega)) (by decide)
    dsimp only
    rw [if_pos hlog, num_eq]
  · rw [← sgs_len, sgs_num, dgs_lt hm]; simp
  · have hc : c ∈ sgs (num m) := hc
    rw [sgs_num, dgs_lt hm] at hc
    have : c = 48 + m := by simpa using hc
    omega
theorem rng_nat {n : Nat} (hn : n ≤ 2000) : rngOk (n : Int) = true := by
  have h1 : -(2 ^ 62 : Int) ≤ (n : Int) := by
    have : (0 : Int) ≤ 2 ^ 62 := by decide
    omega
  have h2 : (n : Int) < 2 ^ 62 := Int.lt_of_le_of_lt (b := 2000) (by omega) (by decide)
  unfold rngOk
  rw [decide_eq_true h1, decide_eq_true h2]
  rfl
theorem rng_len (n : Nat) : ((n : Int) - 0).toNat = n := by simp
theorem join_ok {f : Fl} {ws : List Str} (h : ∀ w ∈ ws, OkS w 2) (hl : ws.length ≤ 1100) : ∃ t, pJoin [.str "", .nd (.lst f) (ws.map .str)] = some (.str t) ∧ OkS t 2200 := by
  have hs : strsD (ws.map .str) = some ws := by
    clear h hl
    induction ws with
    | nil => rfl
    | cons y ys ih => rw [List.map_cons, strsD, ih]; rfl
  have e0 : (Str.ofString "").length = 0 := by decide +kernel
  have sum : (ws.map Str.length).sum ≤ 2 * ws.length := by
    clear hl hs
    induction ws with
    | nil => simp
    | cons y ys ih =>
      have h1 := (h y List.mem_cons_self).len
      have h2 := ih fun w hw => h w (List.mem_cons_of_mem _ hw)
      rw [List.map_cons, List.sum_cons, List.length_cons]
      omega
  have ec : ∀ ws : List Str, (∀ w ∈ ws, OkS w 2) → ∀ c ∈ (Str.join "" ws).cps.toList, c < 0x110000 := by
    intro ws
    induction ws with
    | nil =>
      intro _ c hc
      have : c ∈ (#[] : Array Nat).toList := hc
      simp at this
    | cons y ys ih =>
      intro h
      cases ys with
      | nil => exact (h y List.mem_cons_self).ok
      | cons z zs =>
        intro c hc
        have hc : c ∈ (y.cps ++ (Str.ofString "").cps ++ (Str.join "" (z :: zs)).cps).toList := hc
        have : (Str.ofString "").cps = #[] := by decide +kernel
        rw [this] at hc
        simp only [Array.toList_append, List.mem_append] at hc
        rcases hc with (hc | hc) | hc
        · exact (h y List.mem_cons_self).ok c hc
        · simp at hc
        · exact ih (fun w hw => h w (List.mem_cons_of_mem _ hw)) c hc
  refine ⟨Txt.join "" ws, ?_, ?_, ?_⟩
  · show (strsD (ws.map .str)).bind (fun ys => if (ys.map Str.length).sum + ys.length * (Str.ofString "").length ≤ 16777216 then some (D.str (Txt.join "" ys)) else none) = _
    rw [hs, Option.bind_some, e0, if_pos (by omega)]
  · rw [TL.join_eq]
    have := StrLaws.join_length_le (Str.ofString "") ws
    rw [e0] at this
    change _ ≤ (ws.map Str.length).sum + _ at this
    omega
  · rw [TL.join_eq]
    exact ec ws h
theorem at_lst {f : Fl} {ds : List D} {k : Int} (h0 : 0 ≤ k) (h1 : k < ds.length) : ∃ d ∈ ds, pIx [.nd (.lst f) ds, .int k] = some d := by
  have hl : k.toNat < ds.length := by omega
  refine ⟨ds[k.toNat], List.getElem_mem hl, ?_⟩
  show atI ds k = _
  unfold atI ixN
  rw [if_pos h0, if_pos h1]
  exact List.getElem?_eq_getElem hl
theorem modr (c : Int) {j : Int} (h : 0 < j) : 0 ≤ c % j ∧ c % j < j := ⟨Int.emod_nonneg _ (by omega), Int.emod_lt_of_pos _ h⟩
theorem len_lst {f : Fl} {ds : List D} : pLen [.nd (.lst f) ds] = some (.int ds.length) := rfl
@[simp] theorem mapF_comp_int {k : Fl → Fl} : mapF k ∘ D.int = D.int := rfl
theorem split_ok {s y : Str} {n : Nat} (o : OkS s n) : ∀ p ∈ Txt.split s y, OkS p n := by
  have sub : ∀ i j, OkS (Builtin.Str.strSub s i j) n := fun i j => by
    refine ⟨?_, fun c hc => ?_⟩
    · have : (Builtin.Str.strSub s i j).length ≤ s.length := by
        show (s.cps.extract i j).size ≤ s.cps.size
        simp; omega
      exact Nat.le_trans this o.len
    · have hc : c ∈ (s.cps.extract i j).toList := hc
      rw [Array.toList_extract] at hc
      exact o.ok c (List.mem_of_mem_drop (List.mem_of_mem_take (by simpa using hc)))
  intro p hp
  unfold Txt.split at hp
  split at hp
  · rw [List.mem_singleton.mp hp]; exact o
  · split at hp
    · rw [List.mem_singleton.mp hp]; exact o
    · unfold Builtin.Str.partsBetween at hp
      obtain ⟨⟨i, j⟩, _, rfl⟩ := List.mem_map.mp hp
      exact sub i j
theorem in_strs {f : Fl} {ss : List Str} : pIn [.str "", .nd (.lst f) (ss.map .str)] = some (.bl (ss.any fun y => y == "")) := by
  have h1 : (ss.map D.str).all isAt = true := by rw [List.all_map]; exact List.all_eq_true.mpr fun _ _ => rfl
  show ((if isAt (.str "") && (ss.map D.str).all isAt then some ((ss.map D.str).any fun y => eqA y (.str "")) else none).map D.bl) = _
  rw [h1, List.any_map]
  rfl
theorem add_str {a b : Str} {n m : Nat} (ha : OkS a n) (hb : OkS b m) (h : n + m ≤ 1000000) : pAdd [.str a, .str b] = some (.str (a ++ b)) ∧ OkS (a ++ b) (n + m) := by
  have hl : (a ++ b).length = a.length + b.length := Str.length_append a b
  refine ⟨?_, ?_, fun c hc => ?_⟩
  · show (if a.length + b.length ≤ sizeLine then _ else _) = _
    exact if_pos (Nat.le_trans (m := 1000000) (by have := ha.len; have := hb.len; omega) (by decide))
  · rw [hl]; have := ha.len; have := hb.len; omega
  · have hc : c ∈ (a.cps ++ b.cps).toList := hc
    rw [Array.toList_append, List.mem_append] at hc
    exact hc.elim (ha.ok c) (hb.ok c)
def rep (z : Str) (k : Nat) : Str := ⟨(List.replicate k z.cps.toList).flatten.toArray⟩
theorem rep_len {z : Str} {k : Nat} (h : z.length = 1) : (rep z k).length = k := by
  show ((List.replicate k z.cps.toList).flatten.toArray).size = k
  have : z.cps.toList.length = 1 := by rw [Array.length_toList]; exact h
  rw [List.size_toArray, List.length_flatten, List.map_replicate, List.sum_replicate_nat, this]
  omega
theorem mul_rep {z : Str} {k : Nat} (h : z.length = 1) (hk : 2 ≤ k) (hk2 : k ≤ 10000) : pMul [.str z, .int k] = some (.str (rep z k)) := by
  have h30 : (k : Int) < 2 ^ 30 := Int.lt_of_le_of_lt (b := 10000) (by omega) (by decide)
  show (if z.length * (k : Int).toNat ≤ sizeLine ∧ 2 ≤ (k : Int) ∧ (k : Int) < 2 ^ 30 ∧ 1 ≤ z.length then some (D.str ⟨(List.replicate (k : Int).toNat z.cps.toList).flatten.toArray⟩) else none) = _
  rw [if_pos ⟨by rw [h]; exact Nat.le_trans (m := 10000) (by simp; omega) (by decide), by omega, h30, by omega⟩]
  rfl
theorem sSeq_assoc {a b r : Mst} {ρ : En} : sSeq a (sSeq b r) ρ = sSeq (sSeq a b) r ρ := by
  unfold sSeq
  cases a ρ with
  | none => rfl
  | some p =>
    obtain ⟨o, ρ1⟩ := p
    cases o <;> rfl
end OB

namespace OB
open PySem PySem.Spec PyProof.Rows L2 PySem.NumText
class Bd (i : Int) (n : outParam Nat) : Prop where lt : i.natAbs < 2 ^ n
theorem Bd.mono {i : Int} {n m : Nat} (h : Bd i n) (l : n ≤ m) : Bd i m := ⟨Nat.lt_of_lt_of_le h.lt (Nat.pow_le_pow_right (by decide) l)⟩
instance bd_lit {k : Nat} : Bd (no_index (OfNat.ofNat k : Int)) (k.log2 + 1) := ⟨by
  show (Int.natAbs ((k:Nat):Int)) < _
  simpa using Nat.lt_log2_self⟩
instance bd_neg {i : Int} {n : Nat} [a : Bd i n] : Bd (-i) n := ⟨by rw [Int.natAbs_neg]; exact a.lt⟩
instance bd_mod {i : Int} {k : Nat} [h : NeZero k] : Bd (i % (no_index (OfNat.ofNat k : Int))) (k.log2 + 1) := ⟨by
  have h1 : 0 ≤ i % ((k : Nat) : Int) := Int.emod_nonneg _ (by have := h.out; omega)
  have h2 : i % ((k : Nat) : Int) < k := Int.emod_lt_of_pos _ (by have := h.out; omega)
  have h3 : k < 2 ^ (k.log2 + 1) := Nat.lt_log2_self
  show (i % ((k:Nat):Int)).natAbs < _
  omega⟩
instance bd_div {i j : Int} {n : Nat} [a : Bd i n] : Bd (i / j) n := ⟨Nat.lt_of_le_of_lt (Int.natAbs_ediv_le_natAbs _ _) a.lt⟩
instance bd_mul {i j : Int} {n m : Nat} [a : Bd i n] [b : Bd j m] : Bd (i * j) (n + m) := ⟨by
  rw [Int.natAbs_mul, Nat.pow_add]
  exact Nat.mul_lt_mul'' a.lt b.lt⟩
theorem bd_two {a b n m : Nat} (h1 : a < 2 ^ n) (h2 : b < 2 ^ m) : a + b < 2 ^ (max n m + 1) := by
  have h3 : 2 ^ n ≤ 2 ^ max n m := Nat.pow_le_pow_right (by decide) (Nat.le_max_left _ _)
  have h4 : 2 ^ m ≤ 2 ^ max n m := Nat.pow_le_pow_right (by decide) (Nat.le_max_right _ _)
  rw [Nat.pow_succ]
  omega
instance bd_add {i j : Int} {n m : Nat} [a : Bd i n] [b : Bd j m] : Bd (i + j) (max n m + 1) := ⟨by
  have := bd_two a.lt b.lt
  omega⟩
instance bd_sub {i j : Int} {n m : Nat} [a : Bd i n] [b : Bd j m] : Bd (i - j) (max n m + 1) := ⟨by
  have := bd_two a.lt b.lt
  omega⟩
instance bd_abs {i : Int} {n : Nat} [a : Bd i n] : Bd ((i.natAbs : Nat) : Int) n := ⟨by simpa using a.lt⟩
theorem bd_of {i : Int} {n : Nat} (h : i.natAbs < 2 ^ n) : Bd i n := ⟨h⟩
theorem bd_range {i c : Int} {n : Nat} (h : -c ≤ i ∧ i ≤ c) (hc : c.natAbs < 2 ^ n) : Bd i n := ⟨by omega⟩
theorem Bd.log {i : Int} {n : Nat} (h : Bd i n) : i.natAbs.log2 ≤ n := by
  by_cases e : i.natAbs = 0
  · rw [e]; exact Nat.zero_le _
  · exact Nat.le_of_lt ((Nat.log2_lt e).mpr h.lt)

/-! ### rows -/
@[simp] theorem addI {i j : Int} : pAdd [.int i, .int j] = some (.int (i + j)) := rfl
@[simp] theorem subI {i j : Int} : pSub [.int i, .int j] = some (.int (i - j)) := rfl
@[simp] theorem negI {i : Int} : pNeg [.int i] = some (.int (-i)) := rfl
@[simp] theorem absI {i : Int} : pAbs [.int i] = some (.int (i.natAbs : Nat)) := by
  show some (D.int (if i < 0 then -i else i)) = _
  congr 2
  split <;> omega
@[simp] theorem mulI {i j : Int} {n m : Nat} [a : Bd i n] [b : Bd j m] (h : n + m ≤ 134217728) : pMul [.int i, .int j] = some (.int (i * j)) := mul_int a.lt b.lt h
@[simp] theorem modI {i j : Int} (h : 0 < j) : pMod [.int i, .int j] = some (.int (i % j)) := mod_int h
theorem divB {i j : Int} {m : Nat} (b : Bd j m) (h : 0 < j) (hm : m < 9000) : pDiv [.int i, .int j] = some (.int (i / j)) := by
  have : divOk j = true := by
    unfold divOk
    rw [Bool.and_eq_true]
    exact ⟨decide_eq_true (by omega), decide_eq_true (Nat.lt_of_le_of_lt b.log hm)⟩
  show (if divOk j = true then some (D.int (divV i j)) else none) = _
  rw [if_pos this]
  unfold divV
  rw [if_pos h]
@[simp] theorem divI {i j : Int} {m : Nat} [b : Bd j m] (h : 0 < j) (hm : m < 9000) : pDiv [.int i, .int j] = some (.int (i / j)) := divB b h hm
@[simp] theorem powI {i j : Int} (h : powOk i j = true) : pPow [.int i, .int j] = some (.int (i ^ j.toNat)) := by
  show (if powOk i j = true then _ else _) = _
  exact if_pos h
@[simp] theorem ltI {i j : Int} : pLt [.int i, .int j] = some (.bl (decide (i < j))) := rfl
@[simp] theorem leI {i j : Int} : pLe [.int i, .int j] = some (.bl (decide (i ≤ j))) := rfl
@[simp] theorem gtI {i j : Int} : pGt [.int i, .int j] = some (.bl (decide (j < i))) := rfl
@[simp] theorem geI {i j : Int} : pGe [.int i, .int j] = some (.bl (decide (j ≤ i))) := rfl
@[simp] theorem eqI {i j : Int} : pEq [.int i, .int j] = some (.bl (decide (i = j))) := rfl
@[simp] theorem neI {i j : Int} : pNe [.int i, .int j] = some (.bl (!decide (i = j))) := rfl
@[simp] theorem eqS {i j : Str} : pEq [.str i, .str j] = some (.bl (decide (i = j))) := rfl
@[simp] theorem neS {i j : Str} : pNe [.str i, .str j] = some (.bl (!decide (i = j))) := rfl
@[simp] theorem eqB {i j : Bool} : pEq [.bl i, .bl j] = some (.bl (i == j)) := rfl
@[simp] theorem neB {i j : Bool} : pNe [.bl i, .bl j] = some (.bl (!(i == j))) := rfl
@[simp] theorem isNonI {i : Int} : pIs [.int i, .non] = some (.bl false) := rfl
@[simp] theorem isNonS {i : Str} : pIs [.str i, .non] = some (.bl false) := rfl
@[simp] theorem isNonB {i : Bool} : pIs [.bl i, .non] = some (.bl false) := rfl
@[simp] theorem isNonN : pIs [.non, .non] = some (.bl true) := rfl
@[simp] theorem isNonD {k : Kd} {ds : List D} : pIs [.nd k ds, .non] = some (.bl false) := rfl
@[simp] theorem isNNonI {i : Int} : pIsN [.int i, .non] = some (.bl true) := rfl
@[simp] theorem isNNonS {i : Str} : pIsN [.str i, .non] = some (.bl true) := rfl
@[simp] theorem isNNonB {i : Bool} : pIsN [.bl i, .non] = some (.bl true) := rfl
@[simp] theorem isNNonN : pIsN [.non, .non] = some (.bl false) := rfl
@[simp] theorem isNNonD {k : Kd} {ds : List D} : pIsN [.nd k ds, .non] = some (.bl true) := rfl
@[simp] theorem isBB {a b : Bool} : pIs [.bl a, .bl b] = some (.bl (decide (a = b))) := rfl
@[simp] theorem isNBB {a b : Bool} : pIsN [.bl a, .bl b] = some (.bl (!decide (a = b))) := rfl
@[simp] theorem intB {b : Bool} : pInt4 [.bl b] = some (.int (if b then 1 else 0)) := rfl
@[simp] theorem intI {b : Int} : pInt4 [.int b] = some (.int b) := rfl
@[simp] theorem lstR {ds : List D} (h : ds.length ≤ 16777216) : pLst ds = some (.nd (.lst .own) ds) := if_pos h
@[simp] theorem tupR {ds : List D} (h : ds.length ≤ 16777216) : pTup ds = some (.nd .tup ds) := if_pos h
@[simp] theorem lenL {f : Fl} {ds : List D} : pLen [.nd (.lst f) ds] = some (.int ds.length) := rfl
@[simp] theorem lenT {ds : List D} : pLen [.nd .tup ds] = some (.int ds.length) := rfl
@[simp] theorem lenD {f : Fl} {ks : List Key} {ds : List D} : pLen [.nd (.dct f ks) ds] = some (.int ks.length) := rfl
@[simp] theorem lenS {s : Str} (h : s.length ≤ 16777216) : pLen [.str s] = some (.int s.length) := len_str h
theorem ixT {ds : List D} {k : Nat} {d : D} (h : ds[k]? = some d) : pIx [.nd .tup ds, .int k] = some d := by
  have hl := (List.getElem?_eq_some_iff.mp h).1
  show atI _ _ = _
  unfold atI ixN
  rw [if_pos (by omega), if_pos (by omega)]
  simpa using h
theorem ixL {f : Fl} {ds : List D} {k : Nat} {d : D} (h : ds[k]? = some d) : pIx [.nd (.lst f) ds, .int k] = some d := by
  have hl := (List.getElem?_eq_some_iff.mp h).1
  show atI _ _ = _
  unfold atI ixN
  rw [if_pos (by omega), if_pos (by omega)]
  simpa using h
@[simp] theorem ixT0 {a : D} {r : List D} : pIx [.nd .tup (a :: r), .int 0] = some a := ixT (k := 0) rfl
@[simp] theorem ixT1 {a b : D} {r : List D} : pIx [.nd .tup (a :: b :: r), .int 1] = some b := ixT (k := 1) rfl
@[simp] theorem ixT2 {a b c : D} {r : List D} : pIx [.nd .tup (a :: b :: c :: r), .int 2] = some c := ixT (k := 2) rfl
@[simp] theorem ixT3 {a b c d : D} {r : List D} : pIx [.nd .tup (a :: b :: c :: d :: r), .int 3] = some d := ixT (k := 3) rfl
@[simp] theorem ixL0 {f : Fl} {a : D} {r : List D} : pIx [.nd (.lst f) (a :: r), .int 0] = some a := ixL (k := 0) rfl
@[simp] theorem ixL1 {f : Fl} {a b : D} {r : List D} : pIx [.nd (.lst f) (a :: b :: r), .int 1] = some b := ixL (k := 1) rfl
/-- a drawn one of some numbers, texts -/
theorem pick_int {f : Fl} {vs : List Int} {k : Int} (h0 : 0 ≤ k) (h1 : k < vs.length) : ∃ v ∈ vs, pIx [.nd (.lst f) (vs.map .int), .int k] = some (.int v) := by
  obtain ⟨d, hd, e⟩ := at_lst (f := f) (ds := vs.map .int) h0 (by simpa using h1)
  obtain ⟨v, hv, rfl⟩ := List.mem_map.mp hd
  exact ⟨v, hv, e⟩
theorem pick_str {f : Fl} {vs : List Str} {k : Int} (h0 : 0 ≤ k) (h1 : k < vs.length) : ∃ v ∈ vs, pIx [.nd (.lst f) (vs.map .str), .int k] = some (.str v) := by
  obtain ⟨d, hd, e⟩ := at_lst (f := f) (ds := vs.map .str) h0 (by simpa using h1)
  obtain ⟨v, hv, rfl⟩ := List.mem_map.mp hd
  exact ⟨v, hv, e⟩
/-- texts as wholes -/
theorem lit_eq (s : String) : (Str.ofString s).cps.toList = s.toList.map Char.toNat := by
  rw [Str.ofString_eq_toList]
theorem lit_len (s : String) : (Str.ofString s).length = s.length := by
  rw [← sgs_len]
  unfold sgs
  rw [lit_eq, List.length_map, String.length_toList]
theorem lit_ok (s : String) : OkS (Str.ofString s) s.length := ⟨Nat.le_of_eq (lit_len s), fun c hc => by
  rw [lit_eq] at hc
  obtain ⟨d, _, rfl⟩ := List.mem_map.mp hc
  have := d.valid
  rcases this with h | h
  · exact Nat.lt_trans h (by decide)
  · exact h.2⟩
theorem OkS.mono {s : Str} {n m : Nat} (h : OkS s n) (l : n ≤ m) : OkS s m := ⟨Nat.le_trans h.len l, h.ok⟩
end OB
namespace OB
open PySem PySem.Spec PyProof.Rows L2
section
variable {t : En → Ot Bool} {b : Mst}
theorem whileL_step {n : Nat} {ρ ρ2 : En} {r : Option (Out × En)} (ht : t ρ = .ok true) (hb : b ρ = some (.nx, ρ2)) (hr : whileL t b n ρ2 = r) : whileL t b (n + 1) ρ = r := by
  rw [whileL, ht]
  dsimp only
  rw [if_pos rfl, hb]
  exact hr
theorem whileL_stop {ρ : En} (ht : t ρ = .ok false) : whileL t b 1 ρ = some (.nx, ρ) := by
  rw [whileL, ht]
  rfl
/-- a while by a state and a number that falls -/
theorem sWhile_run {α : Type} (st fin : α → En) (μ : α → Nat) (P : α → Prop) (h : ∀ a, P a → (t (st a) = .ok false ∧ fin a = st a) ∨ (t (st a) = .ok true ∧ ∃ a', b (st a) = some (.nx, st a') ∧ P a' ∧ μ a' < μ a ∧ fin a = fin a')) : ∀ a, P a → sWhile t b (st a) = some (.nx, fin a) := by
  have key : ∀ (n : Nat) (a : α), μ a < n → P a → ∃ N, whileL t b N (st a) = some (.nx, fin a) := by
    intro n
    induction n with
    | zero => exact fun a h => absurd h (by omega)
    | succ n ih =>
      intro a hn hP
      rcases h a hP with ⟨h1, h2⟩ | ⟨h1, a', h2, h3, h4, h5⟩
      · exact ⟨1, by rw [h2]; exact whileL_stop h1⟩
      · obtain ⟨N, e⟩ := ih a' (by omega) h3
        exact ⟨N + 1, by rw [h5]; exact whileL_step h1 h2 e⟩
  intro a hP
  obtain ⟨N, e⟩ := key (μ a + 1) a (by omega) hP
  exact sWhile_of e
end
@[simp] theorem sPar_eq {is : List Nat} {fs : List (En → Ot D)} {ρ : En} : sPar is fs ρ = match eL fs ρ with
  | .no => none
  | .ok ds => if ds.all noT && ds.length == is.length then some (.nx, (is.zip ds).foldl (fun ρ p => ρ.set p.1 (some p.2)) ρ) else none
  | .ex x => some (.ex x, ρ) := rfl
end OB
namespace OB
open PySem PySem.Spec PyProof.Rows L2
/-! ### equality of tuples, lists of numbers -/
theorem toPyL_ints : ∀ ss : List Int, toPyL (ss.map .int) = some (ss.map .int)
  | [] => rfl
  | s :: ss => by
    rw [List.map_cons, toPyL, toPyL_ints ss]; rfl
theorem canLay_ints : ∀ ss : List Int, PyData.canLayAll0 (ss.map .int) = true
  | [] => rfl
  | s :: ss => by rw [List.map_cons, PyData.canLayAll0, canLay_ints ss]; rfl
theorem depth_ints : ∀ ss : List Int, PyData.depthAll (ss.map .int) = 0
  | [] => rfl
  | s :: ss => by rw [List.map_cons, PyData.depthAll, depth_ints ss]; rfl
theorem eqvAll_ints : ∀ ss tt : List Int, PyData.eqvAll (ss.map .int) (tt.map .int) = decide (ss = tt)
  | [], [] => by simp [PyData.eqvAll]
  | [], t :: tt => by simp [PyData.eqvAll]
  | s :: ss, [] => by simp [PyData.eqvAll]
  | s :: ss, t :: tt => by
    rw [List.map_cons, List.map_cons, PyData.eqvAll, eqvAll_ints ss tt, PyData.eqv]
    by_cases h1 : s = t <;> by_cases h2 : ss = tt <;> simp [h1, h2]
theorem deepEq_tupI (ss tt : List Int) : deepEq (.nd .tup (ss.map .int)) (.nd .tup (tt.map .int)) = some (decide (ss = tt)) := by
  unfold deepEq
  rw [toPy, toPy, toPyL_ints, toPyL_ints]
  simp only [Option.map_some, Option.bind_some, SeqAt.shaped, PyData.canLay0, PyData.depth, canLay_ints, depth_ints, PyData.eqv, eqvAll_ints]
  rfl
theorem deepEq_lstI (f g : Fl) (ss tt : List Int) : deepEq (.nd (.lst f) (ss.map .int)) (.nd (.lst g) (tt.map .int)) = some (decide (ss = tt)) := by
  unfold deepEq
  rw [toPy, toPy, toPyL_ints, toPyL_ints]
  simp only [Option.map_some, Option.bind_some, SeqAt.shaped, PyData.canLay0, PyData.depth, canLay_ints, depth_ints, PyData.eqv, eqvAll_ints]
  rfl
@[simp] theorem eqT2 {a b c d : Int} : pEq [.nd .tup [.int a, .int b], .nd .tup [.int c, .int d]] = some (.bl (decide (a = c) && decide (b = d))) := by
  unfold pEq
  simp only [atEq, Option.none_or]
  rw [show deepEq (.nd .tup [.int a, .int b]) (.nd .tup [.int c, .int d]) = _ from deepEq_tupI [a, b] [c, d]]
  by_cases h1 : a = c <;> by_cases h2 : b = d <;> simp [h1, h2]
@[simp] theorem neT2 {a b c d : Int} : pNe [.nd .tup [.int a, .int b], .nd .tup [.int c, .int d]] = some (.bl (!(decide (a = c) && decide (b = d)))) := by
  unfold pNe
  simp only [atEq, Option.none_or]
  rw [show deepEq (.nd .tup [.int a, .int b]) (.nd .tup [.int c, .int d]) = _ from deepEq_tupI [a, b] [c, d]]
  by_cases h1 : a = c <;> by_cases h2 : b = d <;> simp [h1, h2]
@[simp] theorem eqLnil {f g : Fl} : pEq [.nd (.lst f) [], .nd (.lst g) []] = some (.bl true) := by
  unfold pEq
  simp only [atEq, Option.none_or]
  rw [show deepEq (.nd (.lst f) []) (.nd (.lst g) []) = _ from deepEq_lstI f g [] []]
  rfl
@[simp] theorem neLnil {f g : Fl} : pNe [.nd (.lst f) [], .nd (.lst g) []] = some (.bl false) := by
  unfold pNe
  simp only [atEq, Option.none_or]
  rw [show deepEq (.nd (.lst f) []) (.nd (.lst g) []) = _ from deepEq_lstI f g [] []]
  rfl
@[simp] theorem forL_nil {tg : D → En → Option En} {b : Mst} {ρ : En} : forL tg b [] ρ = some (.nx, ρ) := rfl
@[simp] theorem compL_nil {tg : D → En → Option En} {c : En → Ot Bool} {f : En → Ot D} {ρ : En} : compL tg c f ρ [] = some [] := rfl
theorem compL_cons {tg : D → En → Option En} {c : En → Ot Bool} {f : En → Ot D} {ρ : En} {d : D} {ds : List D} : compL tg c f ρ (d :: ds) = (tg d ρ).bind fun ρ1 => match c ρ1 with
    | .ok true => (match f ρ1 with
      | .ok y => (compL tg c f ρ ds).map (y :: ·)
      | _ => none)
    | .ok false => compL tg c f ρ ds
    | _ => none := rfl
theorem eComp_eq {it : En → Ot Its'} {tg : D → En → Option En} {c : En → Ot Bool} {f : En → Ot D} {vs : List Nat} {ρ : En} : eComp it tg c f vs ρ = (it ρ).bind fun p => match compL tg c f (wipeE ρ vs) p.1 with
    | some ys => if ys.length ≤ sizeLine then .ok (.nd (.lst .own) ys) else .no
    | none => .no := rfl
@[simp] theorem tgName_eq {i : Nat} {d : D} {ρ : En} : tgName i d ρ = some (ρ.set i (some d)) := rfl
@[simp] theorem itemsT {ds : List D} : itemsD (.nd .tup ds) = some (ds.map toFrz, ds.all noT) := rfl
@[simp] theorem itemsL {f : Fl} {ds : List D} : itemsD (.nd (.lst f) ds) = some (ds.map toFrz, f != .tmp && ds.all noT) := rfl
@[simp] theorem wipe1 {ρ : En} {i : Nat} : wipeE ρ [i] = ρ.set i none := rfl
@[simp] theorem wipe2 {ρ : En} {i j : Nat} : wipeE ρ [i, j] = (ρ.set j none).set i none := rfl
end OB

namespace OB
open PySem PySem.Spec PyProof.Rows L2
abbrev P0 : Program := PySem.Challenge.pw_larderwise_k02_ratios
def top (i : Nat) : Stmt := PySem.Challenge.pw_larderwise_k02_ratios.main.body.getD i (.Pass ⟨0, 0, 0, 0⟩)
noncomputable section
def g__law_draw : Mst :=
  (sSeq ((sSet 3 ((ePr pAdd [(ePr pMul [(ePr pMul [(ePr pAdd [eVar 1, eC (.int 3)]), (ePr pAdd [eVar 1, eC (.int 3)])]), eC (.int 40692)]), (ePr pMul [(ePr pMul [(ePr pAdd [eVar 2, eC (.int 7)]), (ePr pAdd [eVar 2, eC (.int 7)])]), eC (.int 69621)])]))))
  ((sRet ((ePr pDiv [(ePr pMod [(ePr pMul [(ePr pMod [(ePr pAdd [(ePr pMul [(ePr pMod [eVar 0, eC (.int 2147483629)]), eC (.int 48271)]), eVar 3]), eC (.int 2147483647)]), eC (.int 16807)]), eC (.int 2147483629)]), eC (.int 3)])))))
def m__law_draw : List D → Ot D := bodyM 4 g__law_draw
def lt__law_lowest_1 : En → Ot Bool :=
  (eT (ePr pGt [eVar 4, eC (.int 0)]))
def lb__law_lowest_1 : Mst :=
  (sPar [3, 4] [eVar 4, (ePr pMod [eVar 3, eVar 4])])
def lp__law_lowest_1 : Mst :=
  (sWhile (lt__law_lowest_1)
  (lb__law_lowest_1))
def g__law_lowest : Mst :=
  (sSeq ((sPar [3, 4] [(ePr pAbs [eVar 0]), (ePr pAbs [eVar 1])]))
  ((sSeq (lp__law_lowest_1)
  ((sSeq ((sSet 2 ((eIf ((eT (ePr pGt [eVar 1, eC (.int 0)]))) (eC (.int 1)) ((ePr pNeg [eC (.int 1)]))))))
  ((sRet ((ePr pTup [(ePr pDiv [(ePr pMul [eVar 2, eVar 0]), eVar 3]), (ePr pDiv [(ePr pMul [eVar 2, eVar 1]), eVar 3])])))))))))
def m__law_lowest : List D → Ot D := bodyM 5 g__law_lowest
def g__law_amount : Mst :=
  (sSeq ((sSet 3 ((eCall m__law_draw [] [eVar 0, eVar 1, eVar 2]))))
  ((sSeq ((sSet 4 ((ePr pLst [(ePr pAdd [eC (.int 1), (ePr pMod [(ePr pDiv [eVar 3, eC (.int 4)]), eC (.int 9)])]), (ePr pAdd [eC (.int 1), (ePr pMod [(ePr pAdd [eVar 0, eVar 3]), (ePr pPow [eC (.int 10), eC (.int 12)])])]), (ePr pSub [(ePr pPow [eC (.int 10), eC (.int 12)]), (ePr pMod [(ePr pDiv [eVar 3, eC (.int 4)]), eC (.int 3)])]), (ePr pAdd [eC (.int 1), (ePr pMod [(ePr pDiv [eVar 3, eC (.int 4)]), eC (.int 1000)])])]))))
  ((sSeq ((sSet 5 ((ePr pLst [eC (.int 1), (ePr pAdd [eC (.int 1), (ePr pMod [(ePr pDiv [eVar 3, eC (.int 64)]), eC (.int 12)])]), (ePr pAdd [eC (.int 1), (ePr pMod [(ePr pDiv [eVar 3, eC (.int 64)]), (ePr pPow [eC (.int 10), eC (.int 6)])])]), (ePr pSub [(ePr pPow [eC (.int 10), eC (.int 6)]), (ePr pMod [(ePr pDiv [eVar 3, eC (.int 64)]), eC (.int 2)])]), eC (.int 1)]))))
  ((sRet ((eCall m__law_lowest [] [(ePr pIx [eVar 4, (ePr pMod [eVar 3, eC (.int 4)])]), (ePr pIx [eVar 5, (ePr pMod [(ePr pDiv [eVar 3, eC (.int 16)]), eC (.int 5)])])])))))))))
def m__law_amount : List D → Ot D := bodyM 6 g__law_amount
def g__law_sum : Mst :=
  (sRet ((eCall m__law_lowest [] [(ePr pAdd [(ePr pMul [(ePr pIx [eVar 0, eC (.int 0)]), (ePr pIx [eVar 1, eC (.int 1)])]), (ePr pMul [(ePr pIx [eVar 1, eC (.int 0)]), (ePr pIx [eVar 0, eC (.int 1)])])]), (ePr pMul [(ePr pIx [eVar 0, eC (.int 1)]), (ePr pIx [eVar 1, eC (.int 1)])])])))
def m__law_sum : List D → Ot D := bodyM 2 g__law_sum
def st__law_drawn_1 : Mst :=
  (sSet 4 ((eCall m__law_amount [] [eVar 0, eVar 1, (ePr pAdd [eVar 2, eC (.int 20)])])))
def st__law_drawn_2 : Mst :=
  (sIf ((eT (ePr pEq [(ePr pMod [eVar 3, eC (.int 7)]), eC (.int 1)])))
  ((sRet ((ePr pTup [eC (.int 0), eC (.int 1)]))))
  (sNil))
def st__law_drawn_3 : Mst :=
  (sIf ((eT (ePr pEq [(ePr pMod [eVar 3, eC (.int 7)]), eC (.int 2)])))
  ((sRet ((eCall m__law_sum [] [eVar 4, (eCall m__law_amount [] [eVar 0, eVar 1, (ePr pAdd [eVar 2, eC (.int 21)])])]))))
  (sNil))
def st__law_drawn_4 : Mst :=
  (sRet ((ePr pTup [(ePr pMul [(ePr pIx [eVar 4, eC (.int 0)]), (ePr pIx [(ePr pLst [eC (.int 1), eC (.int 1), (ePr pNeg [eC (.int 1)])]), (ePr pMod [(ePr pDiv [eVar 3, eC (.int 7)]), eC (.int 3)])])]), (ePr pIx [eVar 4, eC (.int 1)])])))
def g__law_drawn : Mst :=
  (sSeq ((sSet 3 ((eCall m__law_draw [] [eVar 0, eVar 1, eVar 2]))))
  ((sSeq (st__law_drawn_1)
  ((sSeq (st__law_drawn_2)
  ((sSeq (st__law_drawn_3)
  (st__law_drawn_4))))))))
def m__law_drawn : List D → Ot D := bodyM 5 g__law_drawn
def cc__law_is_ratio_1 : En → Ot Bool :=
  (bOr ((eT ((eIsi (nbTy "bool") (fun _ => none) (eVar 2))))) ((bNot ((eT ((eIsi (nbTy "int") (fun _ => none) (eVar 2))))))))
def cp__law_is_ratio_1 : En → Ot D :=
  eComp (itV (eVar 0)) (tgName 2) cc__law_is_ratio_1 (eVar 2) [2]
def g__law_is_ratio : Mst :=
  (sSeq ((sIf ((bOr ((bNot ((eT ((eIsi (nbTy "tuple") (fun _ => none) (eVar 0))))))) ((eT (ePr pNe [eVar 0, eVar 1])))))
  ((sRet (eC (.bl false))))
  (sNil)))
  ((sRet ((ePr pEq [cp__law_is_ratio_1, (ePr pLst [])])))))
def m__law_is_ratio : List D → Ot D := bodyM 3 g__law_is_ratio
def lt_common_1 : En → Ot Bool :=
  (eT (ePr pGt [eVar 1, eC (.int 0)]))
def lb_common_1 : Mst :=
  (sPar [0, 1] [eVar 1, (ePr pMod [eVar 0, eVar 1])])
def lp_common_1 : Mst :=
  (sWhile (lt_common_1)
  (lb_common_1))
def g_common : Mst :=
  (sSeq (lp_common_1)
  ((sRetV 0)))
def m_common : List D → Ot D := bodyM 2 g_common
def g_ratio : Mst :=
  (sSeq ((sIf ((eT (ePr pLt [eVar 1, eC (.int 0)])))
  ((sPar [0, 1] [(ePr pSub [eC (.int 0), eVar 0]), (ePr pSub [eC (.int 0), eVar 1])]))
  (sNil)))
  ((sSeq ((sSet 2 ((eCall m_common [] [(ePr pAbs [eVar 0]), eVar 1]))))
  ((sRet ((ePr pTup [(ePr pDiv [eVar 0, eVar 2]), (ePr pDiv [eVar 1, eVar 2])])))))))
def m_ratio : List D → Ot D := bodyM 3 g_ratio
def g_plus : Mst :=
  (sRet ((eCall m_ratio [] [(ePr pAdd [(ePr pMul [(ePr pIx [eVar 0, eC (.int 0)]), (ePr pIx [eVar 1, eC (.int 1)])]), (ePr pMul [(ePr pIx [eVar 1, eC (.int 0)]), (ePr pIx [eVar 0, eC (.int 1)])])]), (ePr pMul [(ePr pIx [eVar 0, eC (.int 1)]), (ePr pIx [eVar 1, eC (.int 1)])])])))
def m_plus : List D → Ot D := bodyM 2 g_plus
def g_less : Mst :=
  (sRet ((eCall m_ratio [] [(ePr pSub [(ePr pMul [(ePr pIx [eVar 0, eC (.int 0)]), (ePr pIx [eVar 1, eC (.int 1)])]), (ePr pMul [(ePr pIx [eVar 1, eC (.int 0)]), (ePr pIx [eVar 0, eC (.int 1)])])]), (ePr pMul [(ePr pIx [eVar 0, eC (.int 1)]), (ePr pIx [eVar 1, eC (.int 1)])])])))
def m_less : List D → Ot D := bodyM 2 g_less
def g_times : Mst :=
  (sRet ((eCall m_ratio [] [(ePr pMul [(ePr pIx [eVar 0, eC (.int 0)]), (ePr pIx [eVar 1, eC (.int 0)])]), (ePr pMul [(ePr pIx [eVar 0, eC (.int 1)]), (ePr pIx [eVar 1, eC (.int 1)])])])))
def m_times : List D → Ot D := bodyM 2 g_times
def g_over : Mst :=
  (sRet ((eCall m_ratio [] [(ePr pMul [(ePr pIx [eVar 0, eC (.int 0)]), (ePr pIx [eVar 1, eC (.int 1)])]), (ePr pMul [(ePr pIx [eVar 0, eC (.int 1)]), (ePr pIx [eVar 1, eC (.int 0)])])])))
def m_over : List D → Ot D := bodyM 2 g_over
def g_order_of : Mst :=
  (sSeq ((sSet 2 ((ePr pMul [(ePr pIx [eVar 0, eC (.int 0)]), (ePr pIx [eVar 1, eC (.int 1)])]))))
  ((sSeq ((sSet 3 ((ePr pMul [(ePr pIx [eVar 1, eC (.int 0)]), (ePr pIx [eVar 0, eC (.int 1)])]))))
  ((sRet ((ePr pSub [(ePr pInt4 [(ePr pGt [eVar 2, eVar 3])]), (ePr pInt4 [(ePr pLt [eVar 2, eVar 3])])])))))))
def m_order_of : List D → Ot D := bodyM 4 g_order_of
def st__law_reckoned_1 : Mst :=
  (sIf ((bNot ((eT ((eCall m__law_is_ratio [] [(eCall m_plus [] [eVar 0, eVar 1]), (eCall m__law_sum [] [eVar 0, eVar 1])]))))))
  ((sRet (eC (.bl false))))
  (sNil))
def st__law_reckoned_2 : Mst :=
  (sSet 2 ((ePr pTup [(ePr pSub [eC (.int 0), (ePr pIx [eVar 1, eC (.int 0)])]), (ePr pIx [eVar 1, eC (.int 1)])])))
def st__law_reckoned_3 : Mst :=
  (sIf ((bNot ((eT ((eCall m__law_is_ratio [] [(eCall m_less [] [eVar 0, eVar 1]), (eCall m__law_sum [] [eVar 0, eVar 2])]))))))
  ((sRet (eC (.bl false))))
  (sNil))
def st__law_reckoned_4 : Mst :=
  (sIf ((bNot ((eT ((eCall m__law_is_ratio [] [(eCall m_times [] [eVar 0, eVar 1]), (eCall m__law_lowest [] [(ePr pMul [(ePr pIx [eVar 0, eC (.int 0)]), (ePr pIx [eVar 1, eC (.int 0)])]), (ePr pMul [(ePr pIx [eVar 0, eC (.int 1)]), (ePr pIx [eVar 1, eC (.int 1)])])])]))))))
  ((sRet (eC (.bl false))))
  (sNil))
def st__law_reckoned_5 : Mst :=
  (sIf ((eT (ePr pNe [(ePr pIx [eVar 1, eC (.int 0)]), eC (.int 0)])))
  ((sSeq ((sSet 4 ((eCall m__law_lowest [] [(ePr pMul [(ePr pIx [eVar 0, eC (.int 0)]), (ePr pIx [eVar 1, eC (.int 1)])]), (ePr pMul [(ePr pIx [eVar 0, eC (.int 1)]), (ePr pIx [eVar 1, eC (.int 0)])])]))))
  ((sIf ((bNot ((eT ((eCall m__law_is_ratio [] [(eCall m_over [] [eVar 0, eVar 1]), eVar 4]))))))
  ((sRet (eC (.bl false))))
  (sNil)))))
  (sNil))
def st__law_reckoned_6 : Mst :=
  (sPar [5, 6] [(ePr pMul [(ePr pIx [eVar 0, eC (.int 0)]), (ePr pIx [eVar 1, eC (.int 1)])]), (ePr pMul [(ePr pIx [eVar 1, eC (.int 0)]), (ePr pIx [eVar 0, eC (.int 1)])])])
def st__law_reckoned_7 : Mst :=
  (sRet ((eAnd ((eNot ((eIsi (nbTy "bool") (fun _ => none) (eVar 3))))) ((ePr pEq [eVar 3, (ePr pSub [(ePr pInt4 [(ePr pGt [eVar 5, eVar 6])]), (ePr pInt4 [(ePr pLt [eVar 5, eVar 6])])])])))))
def g__law_reckoned : Mst :=
  (sSeq (st__law_reckoned_1)
  ((sSeq (st__law_reckoned_2)
  ((sSeq (st__law_reckoned_3)
  ((sSeq (st__law_reckoned_4)
  ((sSeq (st__law_reckoned_5)
  ((sSeq (st__law_reckoned_6)
  ((sSeq ((sSet 3 ((eCall m_order_of [] [eVar 0, eVar 1]))))
  (st__law_reckoned_7))))))))))))))
def m__law_reckoned : List D → Ot D := bodyM 7 g__law_reckoned
def g_is_whole : Mst :=
  (sRet ((eAnd ((eIsi (nbTy "int") (fun _ => none) (eVar 0))) ((eNot ((eIsi (nbTy "bool") (fun _ => none) (eVar 0))))))))
def m_is_whole : List D → Ot D := bodyM 1 g_is_whole
def g_is_ratio : Mst :=
  (sSeq ((sIf ((bOr ((bNot ((eT ((eIsi (nbTy "tuple") (fun _ => none) (eVar 0))))))) ((bOr ((eT (ePr pNe [(ePr pLen [eVar 0]), eC (.int 2)]))) ((bOr ((bNot ((eT ((eCall m_is_whole [] [(ePr pIx [eVar 0, eC (.int 0)])])))))) ((bNot ((eT ((eCall m_is_whole [] [(ePr pIx [eVar 0, eC (.int 1)])]))))))))))))
  ((sRet (eC (.bl false))))
  (sNil)))
  ((sRet ((eAnd ((ePr pGt [(ePr pIx [eVar 0, eC (.int 1)]), eC (.int 0)])) ((ePr pEq [(eCall m_common [] [(ePr pAbs [(ePr pIx [eVar 0, eC (.int 0)])]), (ePr pIx [eVar 0, eC (.int 1)])]), eC (.int 1)])))))))
def m_is_ratio : List D → Ot D := bodyM 1 g_is_ratio
def g_is_amount : Mst :=
  (sRet ((eAnd ((eCall m_is_ratio [] [eVar 0])) ((eAnd ((eChain pLe pLe (eVar 1) ((ePr pIx [eVar 0, eC (.int 0)])) (eC (.int 1000000000000)))) ((ePr pLe [(ePr pIx [eVar 0, eC (.int 1)]), eC (.int 1000000)])))))))
def m_is_amount : List D → Ot D := bodyM 2 g_is_amount
def g__law_looked : Mst :=
  (sSeq ((sSet 2 ((eAnd ((eChain pLe pLe (eVar 1) ((ePr pIx [eVar 0, eC (.int 0)])) ((ePr pPow [eC (.int 10), eC (.int 12)])))) ((ePr pLe [(ePr pIx [eVar 0, eC (.int 1)]), (ePr pPow [eC (.int 10), eC (.int 6)])]))))))
  ((sSeq ((sSet 3 ((eCall m_is_amount [] [eVar 0, eVar 1]))))
  ((sRet ((eAnd ((ePr pIs [(eCall m_is_ratio [] [eVar 0]), eC (.bl true)])) ((eAnd ((eIsi (nbTy "bool") (fun _ => none) (eVar 3))) ((ePr pEq [eVar 3, eVar 2])))))))))))
def m__law_looked : List D → Ot D := bodyM 4 g__law_looked
def g_number_text : Mst :=
  (sRet ((ePr pStr [eVar 0])))
def m_number_text : List D → Ot D := bodyM 1 g_number_text
def g_ratio_text : Mst :=
  (sSeq ((sIf ((eT (ePr pEq [(ePr pIx [eVar 0, eC (.int 1)]), eC (.int 1)])))
  ((sRet ((eCall m_number_text [] [(ePr pIx [eVar 0, eC (.int 0)])]))))
  (sNil)))
  ((sRet ((ePr pAdd [(ePr pAdd [(eCall m_number_text [] [(ePr pIx [eVar 0, eC (.int 0)])]), eC (.str "/")]), (eCall m_number_text [] [(ePr pIx [eVar 0, eC (.int 1)])])])))))
def m_ratio_text : List D → Ot D := bodyM 1 g_ratio_text
def ce_are_signs_1 : En → Ot D :=
  (ePr pIn [eVar 2, eVar 1])
def cp_are_signs_1 : En → Ot D :=
  eComp (itV (eVar 0)) (tgName 2) cYes (ce_are_signs_1) [2]
def g_are_signs : Mst :=
  (sRet ((ePr pAll [cp_are_signs_1])))
def m_are_signs : List D → Ot D := bodyM 3 g_are_signs
def g_number_of : Mst :=
  (sSeq ((sIf ((bOr ((bNot ((eT ((eIsi (nbTy "str") (fun _ => none) (eVar 0))))))) ((bOr ((bNot ((eT ((eChain pLe pLe (eC (.int 1)) ((ePr pLen [eVar 0])) (eC (.int 1000)))))))) ((bNot ((eT ((eCall m_are_signs [] [eVar 0, eC (.str "0123456789")]))))))))))
  ((sRet (eC .non)))
  (sNil)))
  ((sSeq ((sIf ((bAnd ((eT (ePr pEq [(ePr pIx [eVar 0, eC (.int 0)]), eC (.str "0")]))) ((eT (ePr pNe [eVar 0, eC (.str "0")])))))
  ((sRet (eC .non)))
  (sNil)))
  ((sRet ((ePr pInt4 [eVar 0])))))))
def m_number_of : List D → Ot D := bodyM 1 g_number_of
def st_ratio_of_1 : Mst :=
  (sIf ((bNot ((eT ((eIsi (nbTy "str") (fun _ => none) (eVar 0)))))))
  ((sRet (eC .non)))
  (sNil))
def st_ratio_of_2 : Mst :=
  (sTgt ((eM "str" pPart (eVar 0) [eC (.str "/")])) (tgTup [(tgName 3), (tgName 4), (tgName 5)]))
def st_ratio_of_3 : Mst :=
  (sSet 2 ((eIf ((eT (ePr pNe [eVar 4, eC (.str "")]))) ((eCall m_number_of [] [eVar 5])) (eC (.int 1)))))
def st_ratio_of_4 : Mst :=
  (sIf ((bOr ((eT (ePr pIs [eVar 1, eC .non]))) ((bOr ((eT (ePr pIs [eVar 2, eC .non]))) ((bOr ((bAnd ((eT (ePr pNe [eVar 4, eC (.str "")]))) ((eT (ePr pLt [eVar 2, eC (.int 2)]))))) ((bNot ((eT ((eCall m_is_ratio [] [(ePr pTup [eVar 1, eVar 2])]))))))))))))
  ((sRet (eC .non)))
  (sNil))
def g_ratio_of : Mst :=
  (sSeq (st_ratio_of_1)
  ((sSeq (st_ratio_of_2)
  ((sSeq ((sSet 1 ((eCall m_number_of [] [eVar 3]))))
  ((sSeq (st_ratio_of_3)
  ((sSeq (st_ratio_of_4)
  ((sRet ((ePr pTup [eVar 1, eVar 2])))))))))))))
def m_ratio_of : List D → Ot D := bodyM 6 g_ratio_of
def g__law_bent : Mst :=
  (sSeq ((sSet 2 ((ePr pMod [(ePr pDiv [eVar 1, eC (.int 3)]), (ePr pAdd [(ePr pLen [eVar 0]), eC (.int 1)])]))))
  ((sSeq ((sSet 3 ((ePr pIx [eC (.str "0123456789/- a.+"), (ePr pMod [(ePr pDiv [eVar 1, eC (.int 100)]), eC (.int 16)])]))))
  ((sSeq ((sIf ((eT (ePr pEq [(ePr pMod [eVar 1, eC (.int 3)]), eC (.int 1)])))
  ((sRet ((ePr pAdd [(eSl pSl (eVar 0) (oNone) ((oSome (eVar 2)))), (eSl pSl (eVar 0) ((oSome ((ePr pAdd [eVar 2, eC (.int 1)])))) (oNone))]))))
  (sNil)))
  ((sRet ((ePr pAdd [(ePr pAdd [(eSl pSl (eVar 0) (oNone) ((oSome (eVar 2)))), eVar 3]), (eSl pSl (eVar 0) ((oSome ((ePr pAdd [eVar 2, (ePr pInt4 [(ePr pEq [(ePr pMod [eVar 1, eC (.int 3)]), eC (.int 2)])])])))) (oNone))])))))))))
def m__law_bent : List D → Ot D := bodyM 4 g__law_bent
def cc__law_figures_1 : En → Ot Bool :=
  (eT (ePr pNotIn [eVar 1, eC (.str "0123456789")]))
def cp__law_figures_1 : En → Ot D :=
  eComp (itV (eVar 0)) (tgName 1) cc__law_figures_1 (eVar 1) [1]
def g__law_figures : Mst :=
  (sSeq ((sIf ((bOr ((bNot ((eT ((eChain pLe pLe (eC (.int 1)) ((ePr pLen [eVar 0])) (eC (.int 1000)))))))) ((eT (ePr pNe [cp__law_figures_1, (ePr pLst [])])))))
  ((sRet (eC .non)))
  (sNil)))
  ((sRetF ((eIf ((bAnd ((eT (ePr pEq [(ePr pIx [eVar 0, eC (.int 0)]), eC (.str "0")]))) ((eT (ePr pNe [eVar 0, eC (.str "0")]))))) (eC .non) ((ePr pInt4 [eVar 0])))))))
def m__law_figures : List D → Ot D := bodyM 2 g__law_figures
def st__law_read_1 : Mst :=
  (sTgt ((eM "str" pPart (eVar 0) [eC (.str "/")])) (tgTup [(tgName 3), (tgName 4), (tgName 5)]))
def st__law_read_2 : Mst :=
  (sIf ((eT (ePr pEq [eVar 4, eC (.str "")])))
  ((sRetF ((eIf ((eT (ePr pIs [eVar 1, eC .non]))) (eC .non) ((ePr pTup [eVar 1, eC (.int 1)]))))))
  (sNil))
def st__law_read_3 : Mst :=
  (sIf ((bOr ((eT (ePr pIs [eVar 1, eC .non]))) ((bOr ((eT (ePr pIs [eVar 2, eC .non]))) ((bOr ((eT (ePr pLt [eVar 2, eC (.int 2)]))) ((eT (ePr pNe [(eCall m__law_lowest [] [eVar 1, eVar 2]), (ePr pTup [eVar 1, eVar 2])])))))))))
  ((sRet (eC .non)))
  (sNil))
def g__law_read : Mst :=
  (sSeq (st__law_read_1)
  ((sSeq ((sSet 1 ((eCall m__law_figures [] [eVar 3]))))
  ((sSeq (st__law_read_2)
  ((sSeq ((sSet 2 ((eCall m__law_figures [] [eVar 5]))))
  ((sSeq (st__law_read_3)
  ((sRet ((ePr pTup [eVar 1, eVar 2])))))))))))))
def m__law_read : List D → Ot D := bodyM 6 g__law_read
def g__law_odd : Mst :=
  (sSeq ((sSet 2 ((ePr pLst [eC .non, eC (.bl true), eC (.int 5), eC (.str "1/2"), (ePr pLst [eC (.int 1), eC (.int 2)]), (ePr pTup [eC (.int 1)]), (ePr pTup [eC (.int 1), eC (.int 2), eC (.int 3)]), (ePr pTup [eC (.int 2), eC (.int 4)]), (ePr pTup [eC (.int 0), eC (.int 2)]), (ePr pTup [eC (.int 1), eC (.int 0)]), (ePr pTup [eC (.int 1), (ePr pNeg [eC (.int 2)])]), (ePr pTup [eC (.bl true), eC (.int 2)]), (ePr pTup [eC (.int 1), eC (.bl true)])]))))
  ((sRetF ((ePr pIx [(ePr pAdd [eVar 2, (ePr pLst [(ePr pTup [eC (.str "1"), eC (.int 2)]), (ePr pTup [eC .non, eC (.int 1)]), eC (.nd (.dct .own []) []), (ePr pTup [(ePr pLst [eC (.int 1)]), eC (.int 2)]), (ePr pTup [eC (.int 0), eC (.int 0)]), (ePr pTup [(ePr pNeg [eC (.int 6)]), eC (.int 4)]), (ePr pTup [(ePr pMul [(ePr pMod [eVar 0, eC (.int 1000)]), eC (.int 2)]), eC (.int 2)])])]), (ePr pMod [eVar 1, eC (.int 20)])])))))
def m__law_odd : List D → Ot D := bodyM 3 g__law_odd
def lb_law_1 : Mst :=
  (sIf ((bNot ((eT ((eCall m__law_looked [] [eVar 10, eVar 8]))))))
  ((sRet (eC (.bl false))))
  (sNil))
def lp_law_1 : Mst :=
  (sFor (itV ((ePr pTup [eVar 16, eVar 17, eVar 9]))) (tgName 10)
  (lb_law_1))
def st_law_1 : Mst :=
  (sSet 5 ((eCall m__law_draw [] [eVar 4, eVar 3, eC (.int 2)])))
def st_law_2 : Mst :=
  (sPar [16, 17] [(eCall m__law_drawn [] [eVar 4, eVar 3, eC (.int 3)]), (eCall m__law_drawn [] [eVar 4, eVar 3, eC (.int 4)])])
def st_law_3 : Mst :=
  (sIf ((bOr ((bNot ((eT ((eCall m__law_reckoned [] [eVar 16, eVar 17])))))) ((bNot ((eT ((eCall m__law_reckoned [] [eVar 16, eVar 16]))))))))
  ((sRet (eC (.bl false))))
  (sNil))
def st_law_4 : Mst :=
  (sSet 6 ((ePr pSub [(ePr pMod [eVar 4, (ePr pPow [eC (.int 10), eC (.int 40)])]), (ePr pMul [eC (.int 5), (ePr pPow [eC (.int 10), eC (.int 39)])])])))
def st_law_5 : Mst :=
  (sSet 7 ((ePr pAdd [eC (.int 1), (ePr pMod [(ePr pDiv [eVar 5, eC (.int 5)]), eC (.int 1000)])])))
def st_law_6 : Mst :=
  (sSet 7 ((ePr pIx [(ePr pLst [eVar 7, (ePr pSub [eC (.int 0), eVar 7])]), (ePr pMod [eVar 5, eC (.int 2)])])))
def st_law_7 : Mst :=
  (sIf ((bNot ((eT ((eCall m__law_is_ratio [] [(eCall m_ratio [] [eVar 6, eVar 7]), (eCall m__law_lowest [] [eVar 6, eVar 7])]))))))
  ((sRet (eC (.bl false))))
  (sNil))
def st_law_8 : Mst :=
  (sIf ((bNot ((eT ((eCall m__law_is_ratio [] [(eCall m_ratio [(.int 1)] [eVar 6]), (ePr pTup [eVar 6, eC (.int 1)])]))))))
  ((sRet (eC (.bl false))))
  (sNil))
def st_law_9 : Mst :=
  (sSet 8 ((ePr pMod [(ePr pDiv [eVar 5, eC (.int 3)]), eC (.int 2)])))
def st_law_10 : Mst :=
  (sSet 9 ((ePr pIx [(ePr pLst [(ePr pTup [(ePr pPow [eC (.int 10), eC (.int 12)]), eC (.int 1)]), (ePr pTup [(ePr pAdd [(ePr pPow [eC (.int 10), eC (.int 12)]), eC (.int 1)]), eC (.int 1)]), (ePr pTup [eC (.int 1), (ePr pPow [eC (.int 10), eC (.int 6)])]), (ePr pTup [eC (.int 1), (ePr pAdd [(ePr pPow [eC (.int 10), eC (.int 6)]), eC (.int 1)])]), (ePr pTup [(ePr pNeg [eC (.int 1)]), eC (.int 1)]), (ePr pTup [eC (.int 0), eC (.int 1)])]), (ePr pMod [(ePr pDiv [eVar 5, eC (.int 6)]), eC (.int 6)])])))
def st_law_11 : Mst :=
  (sSet 11 ((ePr pTup [(ePr pAbs [(ePr pIx [eVar 16, eC (.int 0)])]), (ePr pIx [eVar 16, eC (.int 1)])])))
def st_law_12 : Mst :=
  (sSet 12 ((ePr pAdd [(ePr pStr [(ePr pIx [eVar 11, eC (.int 0)])]), (ePr pIx [(ePr pLst [eC (.str ""), (ePr pAdd [eC (.str "/"), (ePr pStr [(ePr pIx [eVar 16, eC (.int 1)])])])]), (ePr pInt4 [(ePr pGt [(ePr pIx [eVar 16, eC (.int 1)]), eC (.int 1)])])])])))
def st_law_13 : Mst :=
  (sIf ((bOr ((eT (ePr pNe [(eCall m_ratio_text [] [eVar 11]), eVar 12]))) ((bNot ((eT ((eCall m__law_is_ratio [] [(eCall m_ratio_of [] [eVar 12]), eVar 11]))))))))
  ((sRet (eC (.bl false))))
  (sNil))
def st_law_14 : Mst :=
  (sSet 13 ((eCall m__law_bent [] [eVar 12, (ePr pDiv [eVar 5, eC (.int 40)])])))
def st_law_15 : Mst :=
  (sIf ((bOr ((eT (ePr pNe [eVar 15, eVar 14]))) ((bAnd ((eT (ePr pIsN [eVar 14, eC .non]))) ((bNot ((eT ((eCall m__law_is_ratio [] [eVar 15, eVar 14]))))))))))
  ((sRet (eC (.bl false))))
  (sNil))
def st_law_16 : Mst :=
  (sSet 1 ((eCall m__law_odd [] [eVar 4, (ePr pDiv [eVar 5, eC (.int 7)])])))
def st_law_17 : Mst :=
  (sIf ((bOr ((eT (ePr pIsN [(eCall m_is_ratio [] [eVar 1]), eC (.bl false)]))) ((eT (ePr pIsN [(eCall m_is_amount [] [eVar 1, eVar 8]), eC (.bl false)])))))
  ((sRet (eC (.bl false))))
  (sNil))
def lb_law_2 : Mst :=
  (sSeq (st_law_1)
  ((sSeq (st_law_2)
  ((sSeq (st_law_3)
  ((sSeq (st_law_4)
  ((sSeq (st_law_5)
  ((sSeq (st_law_6)
  ((sSeq (st_law_7)
  ((sSeq (st_law_8)
  ((sSeq (st_law_9)
  ((sSeq (st_law_10)
  ((sSeq (lp_law_1)
  ((sSeq (st_law_11)
  ((sSeq (st_law_12)
  ((sSeq (st_law_13)
  ((sSeq (st_law_14)
  ((sSeq ((sSet 14 ((eCall m__law_read [] [eVar 13]))))
  ((sSeq ((sSet 15 ((eCall m_ratio_of [] [eVar 13]))))
  ((sSeq (st_law_15)
  ((sSeq (st_law_16)
  (st_law_17))))))))))))))))))))))))))))))))))))))
def lp_law_2 : Mst :=
  (sFor (itEnum [(ePr pAdd [(eSl pSl (eVar 0) (oNone) ((oSome (eC (.int 63))))), (ePr pLst [eC (.int 7)])])]) (tgTup [(tgName 3), (tgName 4)])
  (lb_law_2))
def cc_law_1 : En → Ot Bool :=
  (eT (ePr pIsN [(eCall m_ratio_of [] [eVar 18]), eC .non]))
def cp_law_1 : En → Ot D :=
  eComp (itV (eVar 2)) (tgName 18) cc_law_1 (eVar 18) [18]
def st_law_18 : Mst :=
  (sSet 1 ((ePr pIx [(ePr pLst [eC .non, eC (.int 5), eC (.bl true), (ePr pLst [eC (.str "1")]), (ePr pTup [eC (.int 1), eC (.int 2)]), eC (.nd (.dct .own []) [])]), (ePr pMod [(eCall m__law_draw [] [(ePr pSum [(eSl pSl (eVar 0) (oNone) ((oSome (eC (.int 3)))))]), eC (.int 4), eC (.int 5)]), eC (.int 6)])])))
def st_law_19 : Mst :=
  (sSet 2 ((ePr pLst [(ePr pMul [eC (.str "9"), eC (.int 5000)]), (ePr pAdd [eC (.str "1/"), (ePr pMul [eC (.str "9"), eC (.int 5000)])]), (ePr pAdd [(ePr pMul [eC (.str "9"), eC (.int 5000)]), eC (.str "/7")])])))
def st_law_20 : Mst :=
  (sIf ((eT (ePr pNe [cp_law_1, (ePr pLst [])])))
  ((sRet (eC (.bl false))))
  (sNil))
def st_law_21 : Mst :=
  (sRet ((eAnd ((ePr pIs [(eCall m_ratio_of [] [eVar 1]), eC .non])) ((ePr pIs [(eCall m_ratio_of [] [eC (.str "")]), eC .non])))))
def g_law : Mst :=
  (sSeq (lp_law_2)
  ((sSeq (st_law_18)
  ((sSeq (st_law_19)
  ((sSeq (st_law_20)
  (st_law_21))))))))
def m_law : List D → Ot D := bodyM 19 g_law
end
structure Txt (K : PySem.W.Frag) (mg : Str → Option Value) : Prop where
  c_MOST_TOP : ∃ t, mg "MOST_TOP" = some (.int 1000000000000 t)
  c_MOST_BOTTOM : ∃ t, mg "MOST_BOTTOM" = some (.int 1000000 t)
  c_MOST_FIGURES : ∃ t, mg "MOST_FIGURES" = some (.int 1000 t)
  c_FIGURES : ∃ t, mg "FIGURES" = some (.str "0123456789" t)
  n_abs : mg "abs" = none
  n_isinstance : mg "isinstance" = none
  n_tuple : mg "tuple" = none
  n_bool : mg "bool" = none
  n_int : mg "int" = none
  n_len : mg "len" = none
  n_str : mg "str" = none
  n_all : mg "all" = none
  n_enumerate : mg "enumerate" = none
  n_sum : mg "sum" = none
  dig : PySem.W.nsIn K cStatics "sys.int_max_str_digits" = some none
section
variable {w : World} {K : PySem.W.Frag} {mg : Str → Option Value} {base : Heap} {cm : Cm} {f : Addr} {fd : FuncData} {dvs : List V} {kws : List (Str × V)}
abbrev s__law_draw : Stmt := top 22
abbrev N__law_draw : List Str := ["_law_cell", "_law_k", "_law_j", "_law_more"]
theorem sc__law_draw : FnScope N__law_draw ["_law_cell", "_law_k", "_law_j"] (defScope s__law_draw) := ⟨rfl, rfl, rfl, by decide +kernel, rfl, by decide +kernel, by decide +kernel⟩
theorem ok__law_draw (T : Txt K mg) (F : Fun K "_law_draw" "_law_draw" s__law_draw f fd) : FnOk P0 w K mg base (L2.CX P0 w) 1 f fd ["_law_cell", "_law_k", "_law_j"] (spP K cm 3 m__law_draw) := by
  refine fn_pure F sc__law_draw (by decide) fun cdv A outer s H E hr => ?_
  exact (sb_cons (ss_set (by rfl) (ps_set (i := 3) sc__law_draw.nd rfl (by first | exact Or.inl rfl | exact Or.inr rfl) (s_op op_add4 ok_add (s_op op_mul3 ok_mul (s_op op_mul3 ok_mul (s_op op_add4 ok_add (s_var (pv 1)) s_int) (s_op op_add4 ok_add (s_var (pv 1)) s_int)) s_int) (s_op op_mul3 ok_mul (s_op op_mul3 ok_mul (s_op op_add4 ok_add (s_var (pv 2)) s_int) (s_op op_add4 ok_add (s_var (pv 2)) s_int)) s_int))))
    (sb_one (ss_ret (s_op op_divD ok_div (s_op op_modD ok_mod (s_op op_mul3 ok_mul (s_op op_modD ok_mod (s_op op_add4 ok_add (s_op op_mul3 ok_mul (s_op op_modD ok_mod (s_var (pv 0)) s_int) s_int) (s_var (pv 3))) s_int) s_int) s_int) s_int))))
abbrev s__law_lowest : Stmt := top 23
abbrev N__law_lowest : List Str := ["_law_top", "_law_bottom", "_law_sign", "_law_one", "_law_other"]
theorem sc__law_lowest : FnScope N__law_lowest ["_law_top", "_law_bottom"] (defScope s__law_lowest) := ⟨rfl, rfl, rfl, by decide +kernel, rfl, by decide +kernel, by decide +kernel⟩
theorem ok__law_lowest (T : Txt K mg) (F : Fun K "_law_lowest" "_law_lowest" s__law_lowest f fd) : FnOk P0 w K mg base (L2.CX P0 w) 1 f fd ["_law_top", "_law_bottom"] (spP K cm 2 m__law_lowest) := by
  refine fn_pure F sc__law_lowest (by decide) fun cdv A outer s H E hr => ?_
  exact (sb_cons (ss_par (i := 3) (j := 4) (by rfl) rfl sc__law_lowest.nd rfl rfl (by decide) rfl rfl (sa_cons (s_callB call_abs ok_abs (by rfl) T.n_abs (by decide +kernel) (sa_cons (s_var (pv 0)) sa_nil)) (sa_cons (s_callB call_abs ok_abs (by rfl) T.n_abs (by decide +kernel) (sa_cons (s_var (pv 1)) sa_nil)) sa_nil)))
    (sb_cons (ss_while (passes_of rfl) (st_cmp op_gt ok_gt (s_var (pv 4)) s_int (nomark _))
    (sb_one (ss_par (i := 3) (j := 4) (by rfl) rfl sc__law_lowest.nd rfl rfl (by decide) rfl rfl (sa_cons (s_var (pv 4)) (sa_cons (s_op op_modD ok_mod (s_var (pv 3)) (s_var (pv 4))) sa_nil)))))
    (sb_cons (ss_set (by rfl) (ps_set (i := 2) sc__law_lowest.nd rfl (by first | exact Or.inl rfl | exact Or.inr rfl) (s_ifExp (st_cmp op_gt ok_gt (s_var (pv 1)) s_int (nomark _)) s_int (s_un un_neg ok_neg s_int))))
    (sb_one (ss_ret (s_tup (sa_cons (s_op op_divD ok_div (s_op op_mul3 ok_mul (s_var (pv 2)) (s_var (pv 0))) (s_var (pv 3))) (sa_cons (s_op op_divD ok_div (s_op op_mul3 ok_mul (s_var (pv 2)) (s_var (pv 1))) (s_var (pv 3))) sa_nil))))))))
abbrev s__law_amount : Stmt := top 24
abbrev N__law_amount : List Str := ["_law_cell", "_law_k", "_law_j", "_law_n", "_law_tops", "_law_bottoms"]
theorem sc__law_amount : FnScope N__law_amount ["_law_cell", "_law_k", "_law_j"] (defScope s__law_amount) := ⟨rfl, rfl, rfl, by decide +kernel, rfl, by decide +kernel, by decide +kernel⟩
theorem ok__law_amount (T : Txt K mg) (F : Fun K "_law_amount" "_law_amount" s__law_amount f fd) (G__law_draw : Good P0 w K mg base cm "_law_draw" 3 1 m__law_draw) (G__law_lowest : Good P0 w K mg base cm "_law_lowest" 2 1 m__law_lowest) : FnOk P0 w K mg base (L2.CX P0 w) 2 f fd ["_law_cell", "_law_k", "_law_j"] (spP K cm 3 m__law_amount) := by
  refine fn_pure F sc__law_amount (by decide) fun cdv A outer s H E hr => ?_
  exact (sb_cons (ss_set (by rfl) (ps_set (i := 3) sc__law_amount.nd rfl (by first | exact Or.inl rfl | exact Or.inr rfl) (s_callG (takes_of rfl rfl rfl rfl) G__law_draw hr (by decide) (by rfl) (by rfl) (sa_cons (s_var (pv 0)) (sa_cons (s_var (pv 1)) (sa_cons (s_var (pv 2)) sa_nil))))))
    (sb_cons (ss_set (by rfl) (ps_set (i := 4) sc__law_amount.nd rfl (by first | exact Or.inl rfl | exact Or.inr rfl) (s_lst (sa_cons (s_op op_add4 ok_add s_int (s_op op_modD ok_mod (s_op op_divD ok_div (s_var (pv 3)) s_int) s_int)) (sa_cons (s_op op_add4 ok_add s_int (s_op op_modD ok_mod (s_op op_add4 ok_add (s_var (pv 0)) (s_var (pv 3))) (s_op op_powD ok_pow s_int s_int))) (sa_cons (s_op op_sub ok_sub (s_op op_powD ok_pow s_int s_int) (s_op op_modD ok_mod (s_op op_divD ok_div (s_var (pv 3)) s_int) s_int)) (sa_cons (s_op op_add4 ok_add s_int (s_op op_modD ok_mod (s_op op_divD ok_div (s_var (pv 3)) s_int) s_int)) sa_nil)))))))
    (sb_cons (ss_set (by rfl) (ps_set (i := 5) sc__law_amount.nd rfl (by first | exact Or.inl rfl | exact Or.inr rfl) (s_lst (sa_cons s_int (sa_cons (s_op op_add4 ok_add s_int (s_op op_modD ok_mod (s_op op_divD ok_div (s_var (pv 3)) s_int) s_int)) (sa_cons (s_op op_add4 ok_add s_int (s_op op_modD ok_mod (s_op op_divD ok_div (s_var (pv 3)) s_int) (s_op op_powD ok_pow s_int s_int))) (sa_cons (s_op op_sub ok_sub (s_op op_powD ok_pow s_int s_int) (s_op op_modD ok_mod (s_op op_divD ok_div (s_var (pv 3)) s_int) s_int)) (sa_cons s_int sa_nil))))))))
    (sb_one (ss_ret (s_callG (takes_of rfl rfl rfl rfl) G__law_lowest hr (by decide) (by rfl) (by rfl) (sa_cons (s_ix (ix_4 (hu_of hr)) ok_ix (s_var (pv 4)) (s_op op_modD ok_mod (s_var (pv 3)) s_int)) (sa_cons (s_ix (ix_4 (hu_of hr)) ok_ix (s_var (pv 5)) (s_op op_modD ok_mod (s_op op_divD ok_div (s_var (pv 3)) s_int) s_int)) sa_nil))))))))
abbrev s__law_sum : Stmt := top 25
abbrev N__law_sum : List Str := ["_law_one", "_law_other"]
theorem sc__law_sum : FnScope N__law_sum ["_law_one", "_law_other"] (defScope s__law_sum) := ⟨rfl, rfl, rfl, by decide +kernel, rfl, by decide +kernel, by decide +kernel⟩
theorem ok__law_sum (T : Txt K mg) (F : Fun K "_law_sum" "_law_sum" s__law_sum f fd) (G__law_lowest : Good P0 w K mg base cm "_law_lowest" 2 1 m__law_lowest) : FnOk P0 w K mg base (L2.CX P0 w) 2 f fd ["_law_one", "_law_other"] (spP K cm 2 m__law_sum) := by
  refine fn_pure F sc__law_sum (by decide) fun cdv A outer s H E hr => ?_
  exact (sb_one (ss_ret (s_callG (takes_of rfl rfl rfl rfl) G__law_lowest hr (by decide) (by rfl) (by rfl) (sa_cons (s_op op_add4 ok_add (s_op op_mul3 ok_mul (s_ix (ix_4 (hu_of hr)) ok_ix (s_var (pv 0)) s_int) (s_ix (ix_4 (hu_of hr)) ok_ix (s_var (pv 1)) s_int)) (s_op op_mul3 ok_mul (s_ix (ix_4 (hu_of hr)) ok_ix (s_var (pv 1)) s_int) (s_ix (ix_4 (hu_of hr)) ok_ix (s_var (pv 0)) s_int))) (sa_cons (s_op op_mul3 ok_mul (s_ix (ix_4 (hu_of hr)) ok_ix (s_var (pv 0)) s_int) (s_ix (ix_4 (hu_of hr)) ok_ix (s_var (pv 1)) s_int)) sa_nil)))))
abbrev s__law_drawn : Stmt := top 27
abbrev N__law_drawn : List Str := ["_law_cell", "_law_k", "_law_j", "_law_n", "_law_one"]
theorem sc__law_drawn : FnScope N__law_drawn ["_law_cell", "_law_k", "_law_j"] (defScope s__law_drawn) := ⟨rfl, rfl, rfl, by decide +kernel, rfl, by decide +kernel, by decide +kernel⟩
theorem ok__law_drawn (T : Txt K mg) (F : Fun K "_law_drawn" "_law_drawn" s__law_drawn f fd) (G__law_draw : Good P0 w K mg base cm "_law_draw" 3 1 m__law_draw) (G__law_amount : Good P0 w K mg base cm "_law_amount" 3 2 m__law_amount) (G__law_sum : Good P0 w K mg base cm "_law_sum" 2 2 m__law_sum) : FnOk P0 w K mg base (L2.CX P0 w) 3 f fd ["_law_cell", "_law_k", "_law_j"] (spP K cm 3 m__law_drawn) := by
  refine fn_pure F sc__law_drawn (by decide) fun cdv A outer s H E hr => ?_
  exact (sb_cons (ss_set (by rfl) (ps_set (i := 3) sc__law_drawn.nd rfl (by first | exact Or.inl rfl | exact Or.inr rfl) (s_callG (takes_of rfl rfl rfl rfl) G__law_draw hr (by decide) (by rfl) (by rfl) (sa_cons (s_var (pv 0)) (sa_cons (s_var (pv 1)) (sa_cons (s_var (pv 2)) sa_nil))))))
    (sb_cons (ss_set (by rfl) (ps_set (i := 4) sc__law_drawn.nd rfl (by first | exact Or.inl rfl | exact Or.inr rfl) (s_callG (takes_of rfl rfl rfl rfl) G__law_amount hr (by decide) (by rfl) (by rfl) (sa_cons (s_var (pv 0)) (sa_cons (s_var (pv 1)) (sa_cons (s_op op_add4 ok_add (s_var (pv 2)) s_int) sa_nil))))))
    (sb_cons (ss_if (st_cmp (op_eqQ hr.units) ok_eq (s_op op_modD ok_mod (s_var (pv 3)) s_int) s_int (nomark _))
    (sb_one (ss_ret (s_tup (sa_cons s_int (sa_cons s_int sa_nil)))))
    sb_nil)
    (sb_cons (ss_if (st_cmp (op_eqQ hr.units) ok_eq (s_op op_modD ok_mod (s_var (pv 3)) s_int) s_int (nomark _))
    (sb_one (ss_ret (s_callG (takes_of rfl rfl rfl rfl) G__law_sum hr (by decide) (by rfl) (by rfl) (sa_cons (s_var (pv 4)) (sa_cons (s_callG (takes_of rfl rfl rfl rfl) G__law_amount hr (by decide) (by rfl) (by rfl) (sa_cons (s_var (pv 0)) (sa_cons (s_var (pv 1)) (sa_cons (s_op op_add4 ok_add (s_var (pv 2)) s_int) sa_nil)))) sa_nil)))))
    sb_nil)
    (sb_one (ss_ret (s_tup (sa_cons (s_op op_mul3 ok_mul (s_ix (ix_4 (hu_of hr)) ok_ix (s_var (pv 4)) s_int) (s_ix (ix_4 (hu_of hr)) ok_ix (s_lst (sa_cons s_int (sa_cons s_int (sa_cons (s_un un_neg ok_neg s_int) sa_nil)))) (s_op op_modD ok_mod (s_op op_divD ok_div (s_var (pv 3)) s_int) s_int))) (sa_cons (s_ix (ix_4 (hu_of hr)) ok_ix (s_var (pv 4)) s_int) sa_nil)))))))))
abbrev s__law_is_ratio : Stmt := top 26
abbrev N__law_is_ratio : List Str := ["_law_found", "_law_due", "_law_one"]
theorem sc__law_is_ratio : FnScope N__law_is_ratio ["_law_found", "_law_due"] (defScope s__law_is_ratio) := ⟨rfl, rfl, rfl, by decide +kernel, rfl, by decide +kernel, by decide +kernel⟩
theorem ok__law_is_ratio (T : Txt K mg) (F : Fun K "_law_is_ratio" "_law_is_ratio" s__law_is_ratio f fd) : FnOk P0 w K mg base (L2.CX P0 w) 1 f fd ["_law_found", "_law_due"] (spP K cm 2 m__law_is_ratio) := by
  refine fn_pure F sc__law_is_ratio (by decide) fun cdv A outer s H E hr => ?_
  exact (sb_cons (ss_if (st_w (sw_or (st_not (st_val (s_isiT (by rfl) T.n_isinstance (by decide +kernel) (s_var (pv 0)) (pe_bltn (v := .ty "tuple") (by rfl) T.n_tuple (by decide +kernel) rfl)))) (sw_or1 (st_cmp (op_neQ hr.units) ok_ne (s_var (pv 0)) (s_var (pv 1)) (nomark _)))))
    (sb_one (ss_ret s_bl))
    sb_nil)
    (sb_one (ss_ret (s_cmp (op_eqQ hr.units) ok_eq (s_comp (own := [("_law_one", 2)]) (by rfl) sc__law_is_ratio.nd (si_val (s_var (pv 0))) (blkOk_by (N := N__law_is_ratio) (sc := defScope s__law_is_ratio) (own := [("_law_one", 2)]) (by decide +kernel)) (by rfl) okTg_name (fun _ _ _ _ _ => (pg_name (i := 2) sc__law_is_ratio.nd rfl (by first | exact Or.inl rfl | exact Or.inr rfl))) (fun _ _ _ _ _ => (pts_one (st_w (sw_or (st_val (s_isiT (by rfl) T.n_isinstance (by decide +kernel) (s_var (pv 2)) (pe_bltn (v := .ty "bool") (by rfl) T.n_bool (by decide +kernel) rfl))) (sw_or1 (st_not (st_val (s_isiT (by rfl) T.n_isinstance (by decide +kernel) (s_var (pv 2)) (pe_bltn (v := .ty "int") (by rfl) T.n_int (by decide +kernel) rfl))))))))) (fun _ _ _ h => h) (fun _ _ _ _ _ => (s_var (pv 2)))) (s_lst sa_nil) (nomark _)))))
abbrev s_common : Stmt := top 10
abbrev N_common : List Str := ["one", "other"]
theorem sc_common : FnScope N_common ["one", "other"] (defScope s_common) := ⟨rfl, rfl, rfl, by decide +kernel, rfl, by decide +kernel, by decide +kernel⟩
theorem ok_common (T : Txt K mg) (F : Fun K "common" "common" s_common f fd) : FnOk P0 w K mg base (L2.CX P0 w) 1 f fd ["one", "other"] (spP K cm 2 m_common) := by
  refine fn_pure F sc_common (by decide) fun cdv A outer s H E hr => ?_
  exact (sb_cons (ss_while (passes_of rfl) (st_cmp op_gt ok_gt (s_var (pv 1)) s_int (nomark _))
    (sb_one (ss_par (i := 0) (j := 1) (by rfl) rfl sc_common.nd rfl rfl (by decide) rfl rfl (sa_cons (s_var (pv 1)) (sa_cons (s_op op_modD ok_mod (s_var (pv 0)) (s_var (pv 1))) sa_nil)))))
    (sb_one (ss_retV (by rfl) (pv 0))))
abbrev s_ratio : Stmt := top 11
abbrev N_ratio : List Str := ["n", "d", "part"]
theorem sc_ratio : FnScope N_ratio ["n", "d"] (defScope s_ratio) := ⟨rfl, rfl, rfl, by decide +kernel, rfl, by decide +kernel, by decide +kernel⟩
theorem ok_ratio (T : Txt K mg) (F : FunD K "ratio" "ratio" (defArgs s_ratio) (defBody s_ratio) (defScope s_ratio) dvs kws f fd) (G_common : Good P0 w K mg base cm "common" 2 1 m_common) : FnOk P0 w K mg base (L2.CX P0 w) 2 f fd ["n", "d"] (spP K cm 2 m_ratio) := by
  refine fn_pureD F sc_ratio (by decide) fun cdv A outer s H E hr => ?_
  exact (sb_cons (ss_if (st_cmp op_lt ok_lt (s_var (pv 1)) s_int (nomark _))
    (sb_one (ss_par (i := 0) (j := 1) (by rfl) rfl sc_ratio.nd rfl rfl (by decide) rfl rfl (sa_cons (s_op op_sub ok_sub s_int (s_var (pv 0))) (sa_cons (s_op op_sub ok_sub s_int (s_var (pv 1))) sa_nil))))
    sb_nil)
    (sb_cons (ss_set (by rfl) (ps_set (i := 2) sc_ratio.nd rfl (by first | exact Or.inl rfl | exact Or.inr rfl) (s_callG (takes_of rfl rfl rfl rfl) G_common hr (by decide) (by rfl) (by rfl) (sa_cons (s_callB call_abs ok_abs (by rfl) T.n_abs (by decide +kernel) (sa_cons (s_var (pv 0)) sa_nil)) (sa_cons (s_var (pv 1)) sa_nil)))))
    (sb_one (ss_ret (s_tup (sa_cons (s_op op_divD ok_div (s_var (pv 0)) (s_var (pv 2))) (sa_cons (s_op op_divD ok_div (s_var (pv 1)) (s_var (pv 2))) sa_nil)))))))
abbrev s_plus : Stmt := top 12
abbrev N_plus : List Str := ["one", "other"]
theorem sc_plus : FnScope N_plus ["one", "other"] (defScope s_plus) := ⟨rfl, rfl, rfl, by decide +kernel, rfl, by decide +kernel, by decide +kernel⟩
theorem ok_plus (T : Txt K mg) (F : Fun K "plus" "plus" s_plus f fd) (Gd_ratio_0 : GoodD P0 w K mg base cm "ratio" 2 2 m_ratio []) : FnOk P0 w K mg base (L2.CX P0 w) 3 f fd ["one", "other"] (spP K cm 2 m_plus) := by
  refine fn_pure F sc_plus (by decide) fun cdv A outer s H E hr => ?_
  exact (sb_one (ss_ret (s_callGD (takes_of rfl rfl rfl rfl) Gd_ratio_0 hr (by decide) (by rfl) (by rfl) (by rfl) (sa_cons (s_op op_add4 ok_add (s_op op_mul3 ok_mul (s_ix (ix_4 (hu_of hr)) ok_ix (s_var (pv 0)) s_int) (s_ix (ix_4 (hu_of hr)) ok_ix (s_var (pv 1)) s_int)) (s_op op_mul3 ok_mul (s_ix (ix_4 (hu_of hr)) ok_ix (s_var (pv 1)) s_int) (s_ix (ix_4 (hu_of hr)) ok_ix (s_var (pv 0)) s_int))) (sa_cons (s_op op_mul3 ok_mul (s_ix (ix_4 (hu_of hr)) ok_ix (s_var (pv 0)) s_int) (s_ix (ix_4 (hu_of hr)) ok_ix (s_var (pv 1)) s_int)) sa_nil)))))
abbrev s_less : Stmt := top 13
abbrev N_less : List Str := ["one", "other"]
theorem sc_less : FnScope N_less ["one", "other"] (defScope s_less) := ⟨rfl, rfl, rfl, by decide +kernel, rfl, by decide +kernel, by decide +kernel⟩
theorem ok_less (T : Txt K mg) (F : Fun K "less" "less" s_less f fd) (Gd_ratio_0 : GoodD P0 w K mg base cm "ratio" 2 2 m_ratio []) : FnOk P0 w K mg base (L2.CX P0 w) 3 f fd ["one", "other"] (spP K cm 2 m_less) := by
  refine fn_pure F sc_less (by decide) fun cdv A outer s H E hr => ?_
  exact (sb_one (ss_ret (s_callGD (takes_of rfl rfl rfl rfl) Gd_ratio_0 hr (by decide) (by rfl) (by rfl) (by rfl) (sa_cons (s_op op_sub ok_sub (s_op op_mul3 ok_mul (s_ix (ix_4 (hu_of hr)) ok_ix (s_var (pv 0)) s_int) (s_ix (ix_4 (hu_of hr)) ok_ix (s_var (pv 1)) s_int)) (s_op op_mul3 ok_mul (s_ix (ix_4 (hu_of hr)) ok_ix (s_var (pv 1)) s_int) (s_ix (ix_4 (hu_of hr)) ok_ix (s_var (pv 0)) s_int))) (sa_cons (s_op op_mul3 ok_mul (s_ix (ix_4 (hu_of hr)) ok_ix (s_var (pv 0)) s_int) (s_ix (ix_4 (hu_of hr)) ok_ix (s_var (pv 1)) s_int)) sa_nil)))))
abbrev s_times : Stmt := top 14
abbrev N_times : List Str := ["one", "other"]
theorem sc_times : FnScope N_times ["one", "other"] (defScope s_times) := ⟨rfl, rfl, rfl, by decide +kernel, rfl, by decide +kernel, by decide +kernel⟩
theorem ok_times (T : Txt K mg) (F : Fun K "times" "times" s_times f fd) (Gd_ratio_0 : GoodD P0 w K mg base cm "ratio" 2 2 m_ratio []) : FnOk P0 w K mg base (L2.CX P0 w) 3 f fd ["one", "other"] (spP K cm 2 m_times) := by
  refine fn_pure F sc_times (by decide) fun cdv A outer s H E hr => ?_
  exact (sb_one (ss_ret (s_callGD (takes_of rfl rfl rfl rfl) Gd_ratio_0 hr (by decide) (by rfl) (by rfl) (by rfl) (sa_cons (s_op op_mul3 ok_mul (s_ix (ix_4 (hu_of hr)) ok_ix (s_var (pv 0)) s_int) (s_ix (ix_4 (hu_of hr)) ok_ix (s_var (pv 1)) s_int)) (sa_cons (s_op op_mul3 ok_mul (s_ix (ix_4 (hu_of hr)) ok_ix (s_var (pv 0)) s_int) (s_ix (ix_4 (hu_of hr)) ok_ix (s_var (pv 1)) s_int)) sa_nil)))))
abbrev s_over : Stmt := top 15
abbrev N_over : List Str := ["one", "other"]
theorem sc_over : FnScope N_over ["one", "other"] (defScope s_over) := ⟨rfl, rfl, rfl, by decide +kernel, rfl, by decide +kernel, by decide +kernel⟩
theorem ok_over (T : Txt K mg) (F : Fun K "over" "over" s_over f fd) (Gd_ratio_0 : GoodD P0 w K mg base cm "ratio" 2 2 m_ratio []) : FnOk P0 w K mg base (L2.CX P0 w) 3 f fd ["one", "other"] (spP K cm 2 m_over) := by
  refine fn_pure F sc_over (by decide) fun cdv A outer s H E hr => ?_
  exact (sb_one (ss_ret (s_callGD (takes_of rfl rfl rfl rfl) Gd_ratio_0 hr (by decide) (by rfl) (by rfl) (by rfl) (sa_cons (s_op op_mul3 ok_mul (s_ix (ix_4 (hu_of hr)) ok_ix (s_var (pv 0)) s_int) (s_ix (ix_4 (hu_of hr)) ok_ix (s_var (pv 1)) s_int)) (sa_cons (s_op op_mul3 ok_mul (s_ix (ix_4 (hu_of hr)) ok_ix (s_var (pv 0)) s_int) (s_ix (ix_4 (hu_of hr)) ok_ix (s_var (pv 1)) s_int)) sa_nil)))))
abbrev s_order_of : Stmt := top 16
abbrev N_order_of : List Str := ["one", "other", "here", "there"]
theorem sc_order_of : FnScope N_order_of ["one", "other"] (defScope s_order_of) := ⟨rfl, rfl, rfl, by decide +kernel, rfl, by decide +kernel, by decide +kernel⟩
theorem ok_order_of (T : Txt K mg) (F : Fun K "order_of" "order_of" s_order_of f fd) : FnOk P0 w K mg base (L2.CX P0 w) 1 f fd ["one", "other"] (spP K cm 2 m_order_of) := by
  refine fn_pure F sc_order_of (by decide) fun cdv A outer s H E hr => ?_
  exact (sb_cons (ss_set (by rfl) (ps_set (i := 2) sc_order_of.nd rfl (by first | exact Or.inl rfl | exact Or.inr rfl) (s_op op_mul3 ok_mul (s_ix (ix_4 (hu_of hr)) ok_ix (s_var (pv 0)) s_int) (s_ix (ix_4 (hu_of hr)) ok_ix (s_var (pv 1)) s_int))))
    (sb_cons (ss_set (by rfl) (ps_set (i := 3) sc_order_of.nd rfl (by first | exact Or.inl rfl | exact Or.inr rfl) (s_op op_mul3 ok_mul (s_ix (ix_4 (hu_of hr)) ok_ix (s_var (pv 1)) s_int) (s_ix (ix_4 (hu_of hr)) ok_ix (s_var (pv 0)) s_int))))
    (sb_one (ss_ret (s_op op_sub ok_sub (s_callTy (call_int4 T.dig) ok_int4 (by rfl) T.n_int (by decide +kernel) (sa_cons (s_cmp op_gt ok_gt (s_var (pv 2)) (s_var (pv 3)) (nomark _)) sa_nil)) (s_callTy (call_int4 T.dig) ok_int4 (by rfl) T.n_int (by decide +kernel) (sa_cons (s_cmp op_lt ok_lt (s_var (pv 2)) (s_var (pv 3)) (nomark _)) sa_nil)))))))
abbrev s__law_reckoned : Stmt := top 32
abbrev N__law_reckoned : List Str := ["_law_one", "_law_other", "_law_contrary", "_law_told", "_law_due", "_law_here", "_law_there"]
theorem sc__law_reckoned : FnScope N__law_reckoned ["_law_one", "_law_other"] (defScope s__law_reckoned) := ⟨rfl, rfl, rfl, by decide +kernel, rfl, by decide +kernel, by decide +kernel⟩
theorem ok__law_reckoned (T : Txt K mg) (F : Fun K "_law_reckoned" "_law_reckoned" s__law_reckoned f fd) (G__law_is_ratio : Good P0 w K mg base cm "_law_is_ratio" 2 1 m__law_is_ratio) (G_plus : Good P0 w K mg base cm "plus" 2 3 m_plus) (G__law_sum : Good P0 w K mg base cm "_law_sum" 2 2 m__law_sum) (G_less : Good P0 w K mg base cm "less" 2 3 m_less) (G_times : Good P0 w K mg base cm "times" 2 3 m_times) (G__law_lowest : Good P0 w K mg base cm "_law_lowest" 2 1 m__law_lowest) (G_over : Good P0 w K mg base cm "over" 2 3 m_over) (G_order_of : Good P0 w K mg base cm "order_of" 2 1 m_order_of) : FnOk P0 w K mg base (L2.CX P0 w) 4 f fd ["_law_one", "_law_other"] (spP K cm 2 m__law_reckoned) := by
  refine fn_pure F sc__law_reckoned (by decide) fun cdv A outer s H E hr => ?_
  exact (sb_cons (ss_if (st_not (st_val (s_callG (takes_of rfl rfl rfl rfl) G__law_is_ratio hr (by decide) (by rfl) (by rfl) (sa_cons (s_callG (takes_of rfl rfl rfl rfl) G_plus hr (by decide) (by rfl) (by rfl) (sa_cons (s_var (pv 0)) (sa_cons (s_var (pv 1)) sa_nil))) (sa_cons (s_callG (takes_of rfl rfl rfl rfl) G__law_sum hr (by decide) (by rfl) (by rfl) (sa_cons (s_var (pv 0)) (sa_cons (s_var (pv 1)) sa_nil))) sa_nil)))))
    (sb_one (ss_ret s_bl))
    sb_nil)
    (sb_cons (ss_set (by rfl) (ps_set (i := 2) sc__law_reckoned.nd rfl (by first | exact Or.inl rfl | exact Or.inr rfl) (s_tup (sa_cons (s_op op_sub ok_sub s_int (s_ix (ix_4 (hu_of hr)) ok_ix (s_var (pv 1)) s_int)) (sa_cons (s_ix (ix_4 (hu_of hr)) ok_ix (s_var (pv 1)) s_int) sa_nil)))))
    (sb_cons (ss_if (st_not (st_val (s_callG (takes_of rfl rfl rfl rfl) G__law_is_ratio hr (by decide) (by rfl) (by rfl) (sa_cons (s_callG (takes_of rfl rfl rfl rfl) G_less hr (by decide) (by rfl) (by rfl) (sa_cons (s_var (pv 0)) (sa_cons (s_var (pv 1)) sa_nil))) (sa_cons (s_callG (takes_of rfl rfl rfl rfl) G__law_sum hr (by decide) (by rfl) (by rfl) (sa_cons (s_var (pv 0)) (sa_cons (s_var (pv 2)) sa_nil))) sa_nil)))))
    (sb_one (ss_ret s_bl))
    sb_nil)
    (sb_cons (ss_if (st_not (st_val (s_callG (takes_of rfl rfl rfl rfl) G__law_is_ratio hr (by decide) (by rfl) (by rfl) (sa_cons (s_callG (takes_of rfl rfl rfl rfl) G_times hr (by decide) (by rfl) (by rfl) (sa_cons (s_var (pv 0)) (sa_cons (s_var (pv 1)) sa_nil))) (sa_cons (s_callG (takes_of rfl rfl rfl rfl) G__law_lowest hr (by decide) (by rfl) (by rfl) (sa_cons (s_op op_mul3 ok_mul (s_ix (ix_4 (hu_of hr)) ok_ix (s_var (pv 0)) s_int) (s_ix (ix_4 (hu_of hr)) ok_ix (s_var (pv 1)) s_int)) (sa_cons (s_op op_mul3 ok_mul (s_ix (ix_4 (hu_of hr)) ok_ix (s_var (pv 0)) s_int) (s_ix (ix_4 (hu_of hr)) ok_ix (s_var (pv 1)) s_int)) sa_nil))) sa_nil)))))
    (sb_one (ss_ret s_bl))
    sb_nil)
    (sb_cons (ss_if (st_cmp (op_neQ hr.units) ok_ne (s_ix (ix_4 (hu_of hr)) ok_ix (s_var (pv 1)) s_int) s_int (nomark _))
    (sb_cons (ss_set (by rfl) (ps_set (i := 4) sc__law_reckoned.nd rfl (by first | exact Or.inl rfl | exact Or.inr rfl) (s_callG (takes_of rfl rfl rfl rfl) G__law_lowest hr (by decide) (by rfl) (by rfl) (sa_cons (s_op op_mul3 ok_mul (s_ix (ix_4 (hu_of hr)) ok_ix (s_var (pv 0)) s_int) (s_ix (ix_4 (hu_of hr)) ok_ix (s_var (pv 1)) s_int)) (sa_cons (s_op op_mul3 ok_mul (s_ix (ix_4 (hu_of hr)) ok_ix (s_var (pv 0)) s_int) (s_ix (ix_4 (hu_of hr)) ok_ix (s_var (pv 1)) s_int)) sa_nil)))))
    (sb_one (ss_if (st_not (st_val (s_callG (takes_of rfl rfl rfl rfl) G__law_is_ratio hr (by decide) (by rfl) (by rfl) (sa_cons (s_callG (takes_of rfl rfl rfl rfl) G_over hr (by decide) (by rfl) (by rfl) (sa_cons (s_var (pv 0)) (sa_cons (s_var (pv 1)) sa_nil))) (sa_cons (s_var (pv 4)) sa_nil)))))
    (sb_one (ss_ret s_bl))
    sb_nil)))
    sb_nil)
    (sb_cons (ss_par (i := 5) (j := 6) (by rfl) rfl sc__law_reckoned.nd rfl rfl (by decide) rfl rfl (sa_cons (s_op op_mul3 ok_mul (s_ix (ix_4 (hu_of hr)) ok_ix (s_var (pv 0)) s_int) (s_ix (ix_4 (hu_of hr)) ok_ix (s_var (pv 1)) s_int)) (sa_cons (s_op op_mul3 ok_mul (s_ix (ix_4 (hu_of hr)) ok_ix (s_var (pv 1)) s_int) (s_ix (ix_4 (hu_of hr)) ok_ix (s_var (pv 0)) s_int)) sa_nil)))
    (sb_cons (ss_set (by rfl) (ps_set (i := 3) sc__law_reckoned.nd rfl (by first | exact Or.inl rfl | exact Or.inr rfl) (s_callG (takes_of rfl rfl rfl rfl) G_order_of hr (by decide) (by rfl) (by rfl) (sa_cons (s_var (pv 0)) (sa_cons (s_var (pv 1)) sa_nil)))))
    (sb_one (ss_ret (s_and (s_not (s_isiT (by rfl) T.n_isinstance (by decide +kernel) (s_var (pv 3)) (pe_bltn (v := .ty "bool") (by rfl) T.n_bool (by decide +kernel) rfl))) (s_one (s_cmp (op_eqQ hr.units) ok_eq (s_var (pv 3)) (s_op op_sub ok_sub (s_callTy (call_int4 T.dig) ok_int4 (by rfl) T.n_int (by decide +kernel) (sa_cons (s_cmp op_gt ok_gt (s_var (pv 5)) (s_var (pv 6)) (nomark _)) sa_nil)) (s_callTy (call_int4 T.dig) ok_int4 (by rfl) T.n_int (by decide +kernel) (sa_cons (s_cmp op_lt ok_lt (s_var (pv 5)) (s_var (pv 6)) (nomark _)) sa_nil))) (nomark _)))))))))))))
abbrev s_is_whole : Stmt := top 3
abbrev N_is_whole : List Str := ["thing"]
theorem sc_is_whole : FnScope N_is_whole ["thing"] (defScope s_is_whole) := ⟨rfl, rfl, rfl, by decide +kernel, rfl, by decide +kernel, by decide +kernel⟩
theorem ok_is_whole (T : Txt K mg) (F : Fun K "is_whole" "is_whole" s_is_whole f fd) : FnOk P0 w K mg base (L2.CX P0 w) 1 f fd ["thing"] (spP K cm 1 m_is_whole) := by
  refine fn_pure F sc_is_whole (by decide) fun cdv A outer s H E hr => ?_
  exact (sb_one (ss_ret (s_and (s_isiT (by rfl) T.n_isinstance (by decide +kernel) (s_var (pv 0)) (pe_bltn (v := .ty "int") (by rfl) T.n_int (by decide +kernel) rfl)) (s_one (s_not (s_isiT (by rfl) T.n_isinstance (by decide +kernel) (s_var (pv 0)) (pe_bltn (v := .ty "bool") (by rfl) T.n_bool (by decide +kernel) rfl)))))))
abbrev s_is_ratio : Stmt := top 17
abbrev N_is_ratio : List Str := ["thing"]
theorem sc_is_ratio : FnScope N_is_ratio ["thing"] (defScope s_is_ratio) := ⟨rfl, rfl, rfl, by decide +kernel, rfl, by decide +kernel, by decide +kernel⟩
theorem ok_is_ratio (T : Txt K mg) (F : Fun K "is_ratio" "is_ratio" s_is_ratio f fd) (G_is_whole : Good P0 w K mg base cm "is_whole" 1 1 m_is_whole) (G_common : Good P0 w K mg base cm "common" 2 1 m_common) : FnOk P0 w K mg base (L2.CX P0 w) 2 f fd ["thing"] (spP K cm 1 m_is_ratio) := by
  refine fn_pure F sc_is_ratio (by decide) fun cdv A outer s H E hr => ?_
  exact (sb_cons (ss_if (st_w (sw_or (st_not (st_val (s_isiT (by rfl) T.n_isinstance (by decide +kernel) (s_var (pv 0)) (pe_bltn (v := .ty "tuple") (by rfl) T.n_tuple (by decide +kernel) rfl)))) (sw_or (st_cmp (op_neQ hr.units) ok_ne (s_callB call_len2 ok_len (by rfl) T.n_len (by decide +kernel) (sa_cons (s_var (pv 0)) sa_nil)) s_int (nomark _)) (sw_or (st_not (st_val (s_callG (takes_of rfl rfl rfl rfl) G_is_whole hr (by decide) (by rfl) (by rfl) (sa_cons (s_ix (ix_4 (hu_of hr)) ok_ix (s_var (pv 0)) s_int) sa_nil)))) (sw_or1 (st_not (st_val (s_callG (takes_of rfl rfl rfl rfl) G_is_whole hr (by decide) (by rfl) (by rfl) (sa_cons (s_ix (ix_4 (hu_of hr)) ok_ix (s_var (pv 0)) s_int) sa_nil)))))))))
    (sb_one (ss_ret s_bl))
    sb_nil)
    (sb_one (ss_ret (s_and (s_cmp op_gt ok_gt (s_ix (ix_4 (hu_of hr)) ok_ix (s_var (pv 0)) s_int) s_int (nomark _)) (s_one (s_cmp (op_eqQ hr.units) ok_eq (s_callG (takes_of rfl rfl rfl rfl) G_common hr (by decide) (by rfl) (by rfl) (sa_cons (s_callB call_abs ok_abs (by rfl) T.n_abs (by decide +kernel) (sa_cons (s_ix (ix_4 (hu_of hr)) ok_ix (s_var (pv 0)) s_int) sa_nil)) (sa_cons (s_ix (ix_4 (hu_of hr)) ok_ix (s_var (pv 0)) s_int) sa_nil))) s_int (nomark _)))))))
abbrev s_is_amount : Stmt := top 18
abbrev N_is_amount : List Str := ["thing", "least"]
theorem sc_is_amount : FnScope N_is_amount ["thing", "least"] (defScope s_is_amount) := ⟨rfl, rfl, rfl, by decide +kernel, rfl, by decide +kernel, by decide +kernel⟩
theorem ok_is_amount (T : Txt K mg) (F : Fun K "is_amount" "is_amount" s_is_amount f fd) (G_is_ratio : Good P0 w K mg base cm "is_ratio" 1 2 m_is_ratio) : FnOk P0 w K mg base (L2.CX P0 w) 3 f fd ["thing", "least"] (spP K cm 2 m_is_amount) := by
  obtain ⟨_, h_MOST_TOP⟩ := T.c_MOST_TOP
  obtain ⟨_, h_MOST_BOTTOM⟩ := T.c_MOST_BOTTOM
  refine fn_pure F sc_is_amount (by decide) fun cdv A outer s H E hr => ?_
  exact (sb_one (ss_ret (s_and (s_callG (takes_of rfl rfl rfl rfl) G_is_ratio hr (by decide) (by rfl) (by rfl) (sa_cons (s_var (pv 0)) sa_nil)) (s_and (s_chain op_le op_le ok_le ok_le (s_var (pv 1)) (s_ix (ix_4 (hu_of hr)) ok_ix (s_var (pv 0)) s_int) (s_globI (by rfl) h_MOST_TOP) (fun _ _ _ h => mid_le h)) (s_one (s_cmp op_le ok_le (s_ix (ix_4 (hu_of hr)) ok_ix (s_var (pv 0)) s_int) (s_globI (by rfl) h_MOST_BOTTOM) (nomark _)))))))
abbrev s__law_looked : Stmt := top 33
abbrev N__law_looked : List Str := ["_law_one", "_law_least", "_law_due", "_law_told"]
theorem sc__law_looked : FnScope N__law_looked ["_law_one", "_law_least"] (defScope s__law_looked) := ⟨rfl, rfl, rfl, by decide +kernel, rfl, by decide +kernel, by decide +kernel⟩
theorem ok__law_looked (T : Txt K mg) (F : Fun K "_law_looked" "_law_looked" s__law_looked f fd) (G_is_amount : Good P0 w K mg base cm "is_amount" 2 3 m_is_amount) (G_is_ratio : Good P0 w K mg base cm "is_ratio" 1 2 m_is_ratio) : FnOk P0 w K mg base (L2.CX P0 w) 4 f fd ["_law_one", "_law_least"] (spP K cm 2 m__law_looked) := by
  refine fn_pure F sc__law_looked (by decide) fun cdv A outer s H E hr => ?_
  exact (sb_cons (ss_set (by rfl) (ps_set (i := 2) sc__law_looked.nd rfl (by first | exact Or.inl rfl | exact Or.inr rfl) (s_and (s_chain op_le op_le ok_le ok_le (s_var (pv 1)) (s_ix (ix_4 (hu_of hr)) ok_ix (s_var (pv 0)) s_int) (s_op op_powD ok_pow s_int s_int) (fun _ _ _ h => mid_le h)) (s_one (s_cmp op_le ok_le (s_ix (ix_4 (hu_of hr)) ok_ix (s_var (pv 0)) s_int) (s_op op_powD ok_pow s_int s_int) (nomark _))))))
    (sb_cons (ss_set (by rfl) (ps_set (i := 3) sc__law_looked.nd rfl (by first | exact Or.inl rfl | exact Or.inr rfl) (s_callG (takes_of rfl rfl rfl rfl) G_is_amount hr (by decide) (by rfl) (by rfl) (sa_cons (s_var (pv 0)) (sa_cons (s_var (pv 1)) sa_nil)))))
    (sb_one (ss_ret (s_and (s_cmp op_isQ ok_is (s_callG (takes_of rfl rfl rfl rfl) G_is_ratio hr (by decide) (by rfl) (by rfl) (sa_cons (s_var (pv 0)) sa_nil)) s_bl (nomark _)) (s_and (s_isiT (by rfl) T.n_isinstance (by decide +kernel) (s_var (pv 3)) (pe_bltn (v := .ty "bool") (by rfl) T.n_bool (by decide +kernel) rfl)) (s_one (s_cmp (op_eqQ hr.units) ok_eq (s_var (pv 3)) (s_var (pv 2)) (nomark _)))))))))
abbrev s_number_text : Stmt := top 5
abbrev N_number_text : List Str := ["number"]
theorem sc_number_text : FnScope N_number_text ["number"] (defScope s_number_text) := ⟨rfl, rfl, rfl, by decide +kernel, rfl, by decide +kernel, by decide +kernel⟩
theorem ok_number_text (T : Txt K mg) (F : Fun K "number_text" "number_text" s_number_text f fd) : FnOk P0 w K mg base (L2.CX P0 w) 1 f fd ["number"] (spP K cm 1 m_number_text) := by
  refine fn_pure F sc_number_text (by decide) fun cdv A outer s H E hr => ?_
  exact (sb_one (ss_ret (s_callTy call_str_int ok_str (by rfl) T.n_str (by decide +kernel) (sa_cons (s_var (pv 0)) sa_nil))))
abbrev s_ratio_text : Stmt := top 19
abbrev N_ratio_text : List Str := ["one"]
theorem sc_ratio_text : FnScope N_ratio_text ["one"] (defScope s_ratio_text) := ⟨rfl, rfl, rfl, by decide +kernel, rfl, by decide +kernel, by decide +kernel⟩
theorem ok_ratio_text (T : Txt K mg) (F : Fun K "ratio_text" "ratio_text" s_ratio_text f fd) (G_number_text : Good P0 w K mg base cm "number_text" 1 1 m_number_text) : FnOk P0 w K mg base (L2.CX P0 w) 2 f fd ["one"] (spP K cm 1 m_ratio_text) := by
  refine fn_pure F sc_ratio_text (by decide) fun cdv A outer s H E hr => ?_
  exact (sb_cons (ss_if (st_cmp (op_eqQ hr.units) ok_eq (s_ix (ix_4 (hu_of hr)) ok_ix (s_var (pv 0)) s_int) s_int (nomark _))
    (sb_one (ss_ret (s_callG (takes_of rfl rfl rfl rfl) G_number_text hr (by decide) (by rfl) (by rfl) (sa_cons (s_ix (ix_4 (hu_of hr)) ok_ix (s_var (pv 0)) s_int) sa_nil))))
    sb_nil)
    (sb_one (ss_ret (s_op op_add4 ok_add (s_op op_add4 ok_add (s_callG (takes_of rfl rfl rfl rfl) G_number_text hr (by decide) (by rfl) (by rfl) (sa_cons (s_ix (ix_4 (hu_of hr)) ok_ix (s_var (pv 0)) s_int) sa_nil)) s_str) (s_callG (takes_of rfl rfl rfl rfl) G_number_text hr (by decide) (by rfl) (by rfl) (sa_cons (s_ix (ix_4 (hu_of hr)) ok_ix (s_var (pv 0)) s_int) sa_nil))))))
abbrev s_are_signs : Stmt := top 4
abbrev N_are_signs : List Str := ["text", "signs", "sign"]
theorem sc_are_signs : FnScope N_are_signs ["text", "signs"] (defScope s_are_signs) := ⟨rfl, rfl, rfl, by decide +kernel, rfl, by decide +kernel, by decide +kernel⟩
theorem ok_are_signs (T : Txt K mg) (F : Fun K "are_signs" "are_signs" s_are_signs f fd) : FnOk P0 w K mg base (L2.CX P0 w) 1 f fd ["text", "signs"] (spP K cm 2 m_are_signs) := by
  refine fn_pure F sc_are_signs (by decide) fun cdv A outer s H E hr => ?_
  exact (sb_one (ss_ret (s_callB (cr_all (by rfl)) ok_all (by rfl) T.n_all (by decide +kernel) (sa_cons (s_comp (own := [("sign", 2)]) (by rfl) sc_are_signs.nd (si_val (s_var (pv 0))) (blkOk_by (N := N_are_signs) (sc := defScope s_are_signs) (own := [("sign", 2)]) (by decide +kernel)) (by rfl) okTg_name (fun _ _ _ _ _ => (pg_name (i := 2) sc_are_signs.nd rfl (by first | exact Or.inl rfl | exact Or.inr rfl))) (fun _ _ _ _ _ => pts_nil) yes_T (fun _ _ _ _ _ => (s_cmp (op_in3 (hu_of hr)) ok_in (s_var (pv 2)) (s_var (pv 1)) rfl))) sa_nil))))
abbrev s_number_of : Stmt := top 6
abbrev N_number_of : List Str := ["word"]
theorem sc_number_of : FnScope N_number_of ["word"] (defScope s_number_of) := ⟨rfl, rfl, rfl, by decide +kernel, rfl, by decide +kernel, by decide +kernel⟩
theorem ok_number_of (T : Txt K mg) (F : Fun K "number_of" "number_of" s_number_of f fd) (G_are_signs : Good P0 w K mg base cm "are_signs" 2 1 m_are_signs) : FnOk P0 w K mg base (L2.CX P0 w) 2 f fd ["word"] (spP K cm 1 m_number_of) := by
  obtain ⟨_, h_MOST_FIGURES⟩ := T.c_MOST_FIGURES
  obtain ⟨_, h_FIGURES⟩ := T.c_FIGURES
  refine fn_pure F sc_number_of (by decide) fun cdv A outer s H E hr => ?_
  exact (sb_cons (ss_if (st_w (sw_or (st_not (st_val (s_isiT (by rfl) T.n_isinstance (by decide +kernel) (s_var (pv 0)) (pe_bltn (v := .ty "str") (by rfl) T.n_str (by decide +kernel) rfl)))) (sw_or (st_not (st_chain op_le op_le ok_le ok_le s_int (s_callB call_len2 ok_len (by rfl) T.n_len (by decide +kernel) (sa_cons (s_var (pv 0)) sa_nil)) (s_globI (by rfl) h_MOST_FIGURES) (fun _ _ _ h => mid_le h))) (sw_or1 (st_not (st_val (s_callG (takes_of rfl rfl rfl rfl) G_are_signs hr (by decide) (by rfl) (by rfl) (sa_cons (s_var (pv 0)) (sa_cons (s_globS (by rfl) h_FIGURES) sa_nil)))))))))
    (sb_one (ss_ret s_non))
    sb_nil)
    (sb_cons (ss_if (st_w (sw_and (st_cmp (op_eqQ hr.units) ok_eq (s_ix (ix_4 (hu_of hr)) ok_ix (s_var (pv 0)) s_int) s_str (nomark _)) (sw_and1 (st_cmp (op_neQ hr.units) ok_ne (s_var (pv 0)) s_str (nomark _)))))
    (sb_one (ss_ret s_non))
    sb_nil)
    (sb_one (ss_ret (s_callTy (call_int4 T.dig) ok_int4 (by rfl) T.n_int (by decide +kernel) (sa_cons (s_var (pv 0)) sa_nil))))))
abbrev s_ratio_of : Stmt := top 20
abbrev N_ratio_of : List Str := ["word", "top", "bottom", "above", "stroke", "below"]
theorem sc_ratio_of : FnScope N_ratio_of ["word"] (defScope s_ratio_of) := ⟨rfl, rfl, rfl, by decide +kernel, rfl, by decide +kernel, by decide +kernel⟩
theorem ok_ratio_of (T : Txt K mg) (F : Fun K "ratio_of" "ratio_of" s_ratio_of f fd) (G_number_of : Good P0 w K mg base cm "number_of" 1 2 m_number_of) (G_is_ratio : Good P0 w K mg base cm "is_ratio" 1 2 m_is_ratio) : FnOk P0 w K mg base (L2.CX P0 w) 3 f fd ["word"] (spP K cm 1 m_ratio_of) := by
  refine fn_pure F sc_ratio_of (by decide) fun cdv A outer s H E hr => ?_
  exact (sb_cons (ss_if (st_not (st_val (s_isiT (by rfl) T.n_isinstance (by decide +kernel) (s_var (pv 0)) (pe_bltn (v := .ty "str") (by rfl) T.n_str (by decide +kernel) rfl))))
    (sb_one (ss_ret s_non))
    sb_nil)
    (sb_cons (ss_tgt (S := [3, 4, 5]) (by rfl) (s_bm PySem.F.plainAttrs_str PySem.F.slot_str_partition PySem.F.type_str_partition mt_partition ok_part (s_var (pv 0)) (sa_cons s_str sa_nil)) (pg_tup (by rfl) (pgs_cons (pg_name (i := 3) sc_ratio_of.nd rfl (by first | exact Or.inl rfl | exact Or.inr rfl)) (pgs_cons (pg_name (i := 4) sc_ratio_of.nd rfl (by first | exact Or.inl rfl | exact Or.inr rfl)) (pgs_cons (pg_name (i := 5) sc_ratio_of.nd rfl (by first | exact Or.inl rfl | exact Or.inr rfl)) pgs_nil)))) (okTg_tup (n := 3) rfl (okTgs_cons okTg_name (okTgs_cons okTg_name (okTgs_cons okTg_name okTgs_nil)))))
    (sb_cons (ss_set (by rfl) (ps_set (i := 1) sc_ratio_of.nd rfl (by first | exact Or.inl rfl | exact Or.inr rfl) (s_callG (takes_of rfl rfl rfl rfl) G_number_of hr (by decide) (by rfl) (by rfl) (sa_cons (s_var (pv 3)) sa_nil))))
    (sb_cons (ss_set (by rfl) (ps_set (i := 2) sc_ratio_of.nd rfl (by first | exact Or.inl rfl | exact Or.inr rfl) (s_ifExp (st_cmp (op_neQ hr.units) ok_ne (s_var (pv 4)) s_str (nomark _)) (s_callG (takes_of rfl rfl rfl rfl) G_number_of hr (by decide) (by rfl) (by rfl) (sa_cons (s_var (pv 5)) sa_nil)) s_int)))
    (sb_cons (ss_if (st_w (sw_or (st_cmp op_isQ ok_is (s_var (pv 1)) s_non (nomark _)) (sw_or (st_cmp op_isQ ok_is (s_var (pv 2)) s_non (nomark _)) (sw_or (st_w (sw_and (st_cmp (op_neQ hr.units) ok_ne (s_var (pv 4)) s_str (nomark _)) (sw_and1 (st_cmp op_lt ok_lt (s_var (pv 2)) s_int (nomark _))))) (sw_or1 (st_not (st_val (s_callG (takes_of rfl rfl rfl rfl) G_is_ratio hr (by decide) (by rfl) (by rfl) (sa_cons (s_tup (sa_cons (s_var (pv 1)) (sa_cons (s_var (pv 2)) sa_nil))) sa_nil)))))))))
    (sb_one (ss_ret s_non))
    sb_nil)
    (sb_one (ss_ret (s_tup (sa_cons (s_var (pv 1)) (sa_cons (s_var (pv 2)) sa_nil))))))))))
abbrev s__law_bent : Stmt := top 31
abbrev N__law_bent : List Str := ["_law_text", "_law_n", "_law_at", "_law_sign"]
theorem sc__law_bent : FnScope N__law_bent ["_law_text", "_law_n"] (defScope s__law_bent) := ⟨rfl, rfl, rfl, by decide +kernel, rfl, by decide +kernel, by decide +kernel⟩
theorem ok__law_bent (T : Txt K mg) (F : Fun K "_law_bent" "_law_bent" s__law_bent f fd) : FnOk P0 w K mg base (L2.CX P0 w) 1 f fd ["_law_text", "_law_n"] (spP K cm 2 m__law_bent) := by
  refine fn_pure F sc__law_bent (by decide) fun cdv A outer s H E hr => ?_
  exact (sb_cons (ss_set (by rfl) (ps_set (i := 2) sc__law_bent.nd rfl (by first | exact Or.inl rfl | exact Or.inr rfl) (s_op op_modD ok_mod (s_op op_divD ok_div (s_var (pv 1)) s_int) (s_op op_add4 ok_add (s_callB call_len2 ok_len (by rfl) T.n_len (by decide +kernel) (sa_cons (s_var (pv 0)) sa_nil)) s_int))))
    (sb_cons (ss_set (by rfl) (ps_set (i := 3) sc__law_bent.nd rfl (by first | exact Or.inl rfl | exact Or.inr rfl) (s_ix (ix_4 (hu_of hr)) ok_ix s_str (s_op op_modD ok_mod (s_op op_divD ok_div (s_var (pv 1)) s_int) s_int))))
    (sb_cons (ss_if (st_cmp (op_eqQ hr.units) ok_eq (s_op op_modD ok_mod (s_var (pv 1)) s_int) s_int (nomark _))
    (sb_one (ss_ret (s_op op_add4 ok_add (s_slice sl_3 ok_sl (s_var (pv 0)) so_none (so_some (s_var (pv 2)))) (s_slice sl_3 ok_sl (s_var (pv 0)) (so_some (s_op op_add4 ok_add (s_var (pv 2)) s_int)) so_none))))
    sb_nil)
    (sb_one (ss_ret (s_op op_add4 ok_add (s_op op_add4 ok_add (s_slice sl_3 ok_sl (s_var (pv 0)) so_none (so_some (s_var (pv 2)))) (s_var (pv 3))) (s_slice sl_3 ok_sl (s_var (pv 0)) (so_some (s_op op_add4 ok_add (s_var (pv 2)) (s_callTy (call_int4 T.dig) ok_int4 (by rfl) T.n_int (by decide +kernel) (sa_cons (s_cmp (op_eqQ hr.units) ok_eq (s_op op_modD ok_mod (s_var (pv 1)) s_int) s_int (nomark _)) sa_nil)))) so_none)))))))
abbrev s__law_figures : Stmt := top 29
abbrev N__law_figures : List Str := ["_law_word", "_law_sign"]
theorem sc__law_figures : FnScope N__law_figures ["_law_word"] (defScope s__law_figures) := ⟨rfl, rfl, rfl, by decide +kernel, rfl, by decide +kernel, by decide +kernel⟩
theorem ok__law_figures (T : Txt K mg) (F : Fun K "_law_figures" "_law_figures" s__law_figures f fd) : FnOk P0 w K mg base (L2.CX P0 w) 1 f fd ["_law_word"] (spP K cm 1 m__law_figures) := by
  refine fn_pure F sc__law_figures (by decide) fun cdv A outer s H E hr => ?_
  exact (sb_cons (ss_if (st_w (sw_or (st_not (st_chain op_le op_le ok_le ok_le s_int (s_callB call_len2 ok_len (by rfl) T.n_len (by decide +kernel) (sa_cons (s_var (pv 0)) sa_nil)) s_int (fun _ _ _ h => mid_le h))) (sw_or1 (st_cmp (op_neQ hr.units) ok_ne (s_comp (own := [("_law_sign", 1)]) (by rfl) sc__law_figures.nd (si_val (s_var (pv 0))) (blkOk_by (N := N__law_figures) (sc := defScope s__law_figures) (own := [("_law_sign", 1)]) (by decide +kernel)) (by rfl) okTg_name (fun _ _ _ _ _ => (pg_name (i := 1) sc__law_figures.nd rfl (by first | exact Or.inl rfl | exact Or.inr rfl))) (fun _ _ _ _ _ => (pts_one (st_cmp (op_notIn3 (hu_of hr)) ok_notIn (s_var (pv 1)) s_str rfl))) (fun _ _ _ h => h) (fun _ _ _ _ _ => (s_var (pv 1)))) (s_lst sa_nil) (nomark _)))))
    (sb_one (ss_ret s_non))
    sb_nil)
    (sb_one (ss_retF (s_ifExp (st_w (sw_and (st_cmp (op_eqQ hr.units) ok_eq (s_ix (ix_4 (hu_of hr)) ok_ix (s_var (pv 0)) s_int) s_str (nomark _)) (sw_and1 (st_cmp (op_neQ hr.units) ok_ne (s_var (pv 0)) s_str (nomark _))))) s_non (s_callTy (call_int4 T.dig) ok_int4 (by rfl) T.n_int (by decide +kernel) (sa_cons (s_var (pv 0)) sa_nil))))))
abbrev s__law_read : Stmt := top 30
abbrev N__law_read : List Str := ["_law_word", "_law_top", "_law_bottom", "_law_above", "_law_stroke", "_law_below"]
theorem sc__law_read : FnScope N__law_read ["_law_word"] (defScope s__law_read) := ⟨rfl, rfl, rfl, by decide +kernel, rfl, by decide +kernel, by decide +kernel⟩
theorem ok__law_read (T : Txt K mg) (F : Fun K "_law_read" "_law_read" s__law_read f fd) (G__law_figures : Good P0 w K mg base cm "_law_figures" 1 1 m__law_figures) (G__law_lowest : Good P0 w K mg base cm "_law_lowest" 2 1 m__law_lowest) : FnOk P0 w K mg base (L2.CX P0 w) 2 f fd ["_law_word"] (spP K cm 1 m__law_read) := by
  refine fn_pure F sc__law_read (by decide) fun cdv A outer s H E hr => ?_
  exact (sb_cons (ss_tgt (S := [3, 4, 5]) (by rfl) (s_bm PySem.F.plainAttrs_str PySem.F.slot_str_partition PySem.F.type_str_partition mt_partition ok_part (s_var (pv 0)) (sa_cons s_str sa_nil)) (pg_tup (by rfl) (pgs_cons (pg_name (i := 3) sc__law_read.nd rfl (by first | exact Or.inl rfl | exact Or.inr rfl)) (pgs_cons (pg_name (i := 4) sc__law_read.nd rfl (by first | exact Or.inl rfl | exact Or.inr rfl)) (pgs_cons (pg_name (i := 5) sc__law_read.nd rfl (by first | exact Or.inl rfl | exact Or.inr rfl)) pgs_nil)))) (okTg_tup (n := 3) rfl (okTgs_cons okTg_name (okTgs_cons okTg_name (okTgs_cons okTg_name okTgs_nil)))))
    (sb_cons (ss_set (by rfl) (ps_set (i := 1) sc__law_read.nd rfl (by first | exact Or.inl rfl | exact Or.inr rfl) (s_callG (takes_of rfl rfl rfl rfl) G__law_figures hr (by decide) (by rfl) (by rfl) (sa_cons (s_var (pv 3)) sa_nil))))
    (sb_cons (ss_if (st_cmp (op_eqQ hr.units) ok_eq (s_var (pv 4)) s_str (nomark _))
    (sb_one (ss_retF (s_ifExp (st_cmp op_isQ ok_is (s_var (pv 1)) s_non (nomark _)) s_non (s_tup (sa_cons (s_var (pv 1)) (sa_cons s_int sa_nil))))))
    sb_nil)
    (sb_cons (ss_set (by rfl) (ps_set (i := 2) sc__law_read.nd rfl (by first | exact Or.inl rfl | exact Or.inr rfl) (s_callG (takes_of rfl rfl rfl rfl) G__law_figures hr (by decide) (by rfl) (by rfl) (sa_cons (s_var (pv 5)) sa_nil))))
    (sb_cons (ss_if (st_w (sw_or (st_cmp op_isQ ok_is (s_var (pv 1)) s_non (nomark _)) (sw_or (st_cmp op_isQ ok_is (s_var (pv 2)) s_non (nomark _)) (sw_or (st_cmp op_lt ok_lt (s_var (pv 2)) s_int (nomark _)) (sw_or1 (st_cmp (op_neQ hr.units) ok_ne (s_callG (takes_of rfl rfl rfl rfl) G__law_lowest hr (by decide) (by rfl) (by rfl) (sa_cons (s_var (pv 1)) (sa_cons (s_var (pv 2)) sa_nil))) (s_tup (sa_cons (s_var (pv 1)) (sa_cons (s_var (pv 2)) sa_nil))) (nomark _)))))))
    (sb_one (ss_ret s_non))
    sb_nil)
    (sb_one (ss_ret (s_tup (sa_cons (s_var (pv 1)) (sa_cons (s_var (pv 2)) sa_nil))))))))))
abbrev s__law_odd : Stmt := top 28
abbrev N__law_odd : List Str := ["_law_cell", "_law_n", "_law_some"]
theorem sc__law_odd : FnScope N__law_odd ["_law_cell", "_law_n"] (defScope s__law_odd) := ⟨rfl, rfl, rfl, by decide +kernel, rfl, by decide +kernel, by decide +kernel⟩
theorem ok__law_odd (T : Txt K mg) (F : Fun K "_law_odd" "_law_odd" s__law_odd f fd) : FnOk P0 w K mg base (L2.CX P0 w) 1 f fd ["_law_cell", "_law_n"] (spP K cm 2 m__law_odd) := by
  refine fn_pure F sc__law_odd (by decide) fun cdv A outer s H E hr => ?_
  exact (sb_cons (ss_set (by rfl) (ps_set (i := 2) sc__law_odd.nd rfl (by first | exact Or.inl rfl | exact Or.inr rfl) (s_lst (sa_cons s_non (sa_cons s_bl (sa_cons s_int (sa_cons s_str (sa_cons (s_lst (sa_cons s_int (sa_cons s_int sa_nil))) (sa_cons (s_tup (sa_cons s_int sa_nil)) (sa_cons (s_tup (sa_cons s_int (sa_cons s_int (sa_cons s_int sa_nil)))) (sa_cons (s_tup (sa_cons s_int (sa_cons s_int sa_nil))) (sa_cons (s_tup (sa_cons s_int (sa_cons s_int sa_nil))) (sa_cons (s_tup (sa_cons s_int (sa_cons s_int sa_nil))) (sa_cons (s_tup (sa_cons s_int (sa_cons (s_un un_neg ok_neg s_int) sa_nil))) (sa_cons (s_tup (sa_cons s_bl (sa_cons s_int sa_nil))) (sa_cons (s_tup (sa_cons s_int (sa_cons s_bl sa_nil))) sa_nil))))))))))))))))
    (sb_one (ss_retF (s_ix (ix_4 (hu_of hr)) ok_ix (s_op op_add4 ok_add (s_var (pv 2)) (s_lst (sa_cons (s_tup (sa_cons s_str (sa_cons s_int sa_nil))) (sa_cons (s_tup (sa_cons s_non (sa_cons s_int sa_nil))) (sa_cons s_dict0 (sa_cons (s_tup (sa_cons (s_lst (sa_cons s_int sa_nil)) (sa_cons s_int sa_nil))) (sa_cons (s_tup (sa_cons s_int (sa_cons s_int sa_nil))) (sa_cons (s_tup (sa_cons (s_un un_neg ok_neg s_int) (sa_cons s_int sa_nil))) (sa_cons (s_tup (sa_cons (s_op op_mul3 ok_mul (s_op op_modD ok_mod (s_var (pv 0)) s_int) s_int) (sa_cons s_int sa_nil))) sa_nil))))))))) (s_op op_modD ok_mod (s_var (pv 1)) s_int)))))
abbrev s_law : Stmt := top 34
abbrev N_law : List Str := ["_law_script", "_law_odd_here", "_law_far", "_law_k", "_law_cell", "_law_n", "_law_top", "_law_bottom", "_law_least", "_law_edge", "_law_some", "_law_plain", "_law_text", "_law_bent_here", "_law_due", "_law_told", "_law_one", "_law_other", "_law_word"]
theorem sc_law : FnScope N_law ["_law_script"] (defScope s_law) := ⟨rfl, rfl, rfl, by decide +kernel, rfl, by decide +kernel, by decide +kernel⟩
theorem ok_law (T : Txt K mg) (F : Fun K "law" "law" s_law f fd) (G__law_draw : Good P0 w K mg base cm "_law_draw" 3 1 m__law_draw) (G__law_drawn : Good P0 w K mg base cm "_law_drawn" 3 3 m__law_drawn) (G__law_reckoned : Good P0 w K mg base cm "_law_reckoned" 2 4 m__law_reckoned) (G__law_is_ratio : Good P0 w K mg base cm "_law_is_ratio" 2 1 m__law_is_ratio) (G__law_lowest : Good P0 w K mg base cm "_law_lowest" 2 1 m__law_lowest) (G__law_looked : Good P0 w K mg base cm "_law_looked" 2 4 m__law_looked) (G_ratio_text : Good P0 w K mg base cm "ratio_text" 1 2 m_ratio_text) (G_ratio_of : Good P0 w K mg base cm "ratio_of" 1 3 m_ratio_of) (G__law_bent : Good P0 w K mg base cm "_law_bent" 2 1 m__law_bent) (G__law_read : Good P0 w K mg base cm "_law_read" 1 2 m__law_read) (G__law_odd : Good P0 w K mg base cm "_law_odd" 2 1 m__law_odd) (G_is_ratio : Good P0 w K mg base cm "is_ratio" 1 2 m_is_ratio) (G_is_amount : Good P0 w K mg base cm "is_amount" 2 3 m_is_amount) (Gd_ratio_0 : GoodD P0 w K mg base cm "ratio" 2 2 m_ratio []) (Gd_ratio_1 : GoodD P0 w K mg base cm "ratio" 2 2 m_ratio [(.int 1)]) : FnOk P0 w K mg base (L2.CX P0 w) 5 f fd ["_law_script"] (spP K cm 1 m_law) := by
  refine fn_pure F sc_law (by decide) fun cdv A outer s H E hr => ?_
  exact (sb_cons (ss_for (S := [3, 4]) (passes_of rfl) rfl (si_enum (by rfl) T.n_enumerate (sa_cons (s_op op_add4 ok_add (s_slice sl_3 ok_sl (s_var (pv 0)) so_none (so_some s_int)) (s_lst (sa_cons s_int sa_nil))) sa_nil)) (pg_tup (by rfl) (pgs_cons (pg_name (i := 3) sc_law.nd rfl (by first | exact Or.inl rfl | exact Or.inr rfl)) (pgs_cons (pg_name (i := 4) sc_law.nd rfl (by first | exact Or.inl rfl | exact Or.inr rfl)) pgs_nil))) (okTg_tup (n := 2) rfl (okTgs_cons okTg_name (okTgs_cons okTg_name okTgs_nil))) (by rfl)
    (sb_cons (ss_set (by rfl) (ps_set (i := 5) sc_law.nd rfl (by first | exact Or.inl rfl | exact Or.inr rfl) (s_callG (takes_of rfl rfl rfl rfl) G__law_draw hr (by decide) (by rfl) (by rfl) (sa_cons (s_var (pv 4)) (sa_cons (s_var (pv 3)) (sa_cons s_int sa_nil))))))
    (sb_cons (ss_par (i := 16) (j := 17) (by rfl) rfl sc_law.nd rfl rfl (by decide) rfl rfl (sa_cons (s_callG (takes_of rfl rfl rfl rfl) G__law_drawn hr (by decide) (by rfl) (by rfl) (sa_cons (s_var (pv 4)) (sa_cons (s_var (pv 3)) (sa_cons s_int sa_nil)))) (sa_cons (s_callG (takes_of rfl rfl rfl rfl) G__law_drawn hr (by decide) (by rfl) (by rfl) (sa_cons (s_var (pv 4)) (sa_cons (s_var (pv 3)) (sa_cons s_int sa_nil)))) sa_nil)))
    (sb_cons (ss_if (st_w (sw_or (st_not (st_val (s_callG (takes_of rfl rfl rfl rfl) G__law_reckoned hr (by decide) (by rfl) (by rfl) (sa_cons (s_var (pv 16)) (sa_cons (s_var (pv 17)) sa_nil))))) (sw_or1 (st_not (st_val (s_callG (takes_of rfl rfl rfl rfl) G__law_reckoned hr (by decide) (by rfl) (by rfl) (sa_cons (s_var (pv 16)) (sa_cons (s_var (pv 16)) sa_nil))))))))
    (sb_one (ss_ret s_bl))
    sb_nil)
    (sb_cons (ss_set (by rfl) (ps_set (i := 6) sc_law.nd rfl (by first | exact Or.inl rfl | exact Or.inr rfl) (s_op op_sub ok_sub (s_op op_modD ok_mod (s_var (pv 4)) (s_op op_powD ok_pow s_int s_int)) (s_op op_mul3 ok_mul s_int (s_op op_powD ok_pow s_int s_int)))))
    (sb_cons (ss_set (by rfl) (ps_set (i := 7) sc_law.nd rfl (by first | exact Or.inl rfl | exact Or.inr rfl) (s_op op_add4 ok_add s_int (s_op op_modD ok_mod (s_op op_divD ok_div (s_var (pv 5)) s_int) s_int))))
    (sb_cons (ss_set (by rfl) (ps_set (i := 7) sc_law.nd rfl (by first | exact Or.inl rfl | exact Or.inr rfl) (s_ix (ix_4 (hu_of hr)) ok_ix (s_lst (sa_cons (s_var (pv 7)) (sa_cons (s_op op_sub ok_sub s_int (s_var (pv 7))) sa_nil))) (s_op op_modD ok_mod (s_var (pv 5)) s_int))))
    (sb_cons (ss_if (st_not (st_val (s_callG (takes_of rfl rfl rfl rfl) G__law_is_ratio hr (by decide) (by rfl) (by rfl) (sa_cons (s_callGD (takes_of rfl rfl rfl rfl) Gd_ratio_0 hr (by decide) (by rfl) (by rfl) (by rfl) (sa_cons (s_var (pv 6)) (sa_cons (s_var (pv 7)) sa_nil))) (sa_cons (s_callG (takes_of rfl rfl rfl rfl) G__law_lowest hr (by decide) (by rfl) (by rfl) (sa_cons (s_var (pv 6)) (sa_cons (s_var (pv 7)) sa_nil))) sa_nil)))))
    (sb_one (ss_ret s_bl))
    sb_nil)
    (sb_cons (ss_if (st_not (st_val (s_callG (takes_of rfl rfl rfl rfl) G__law_is_ratio hr (by decide) (by rfl) (by rfl) (sa_cons (s_callGD (takes_of rfl rfl rfl rfl) Gd_ratio_1 hr (by decide) (by rfl) (by rfl) (by rfl) (sa_cons (s_var (pv 6)) sa_nil)) (sa_cons (s_tup (sa_cons (s_var (pv 6)) (sa_cons s_int sa_nil))) sa_nil)))))
    (sb_one (ss_ret s_bl))
    sb_nil)
    (sb_cons (ss_set (by rfl) (ps_set (i := 8) sc_law.nd rfl (by first | exact Or.inl rfl | exact Or.inr rfl) (s_op op_modD ok_mod (s_op op_divD ok_div (s_var (pv 5)) s_int) s_int)))
    (sb_cons (ss_set (by rfl) (ps_set (i := 9) sc_law.nd rfl (by first | exact Or.inl rfl | exact Or.inr rfl) (s_ix (ix_4 (hu_of hr)) ok_ix (s_lst (sa_cons (s_tup (sa_cons (s_op op_powD ok_pow s_int s_int) (sa_cons s_int sa_nil))) (sa_cons (s_tup (sa_cons (s_op op_add4 ok_add (s_op op_powD ok_pow s_int s_int) s_int) (sa_cons s_int sa_nil))) (sa_cons (s_tup (sa_cons s_int (sa_cons (s_op op_powD ok_pow s_int s_int) sa_nil))) (sa_cons (s_tup (sa_cons s_int (sa_cons (s_op op_add4 ok_add (s_op op_powD ok_pow s_int s_int) s_int) sa_nil))) (sa_cons (s_tup (sa_cons (s_un un_neg ok_neg s_int) (sa_cons s_int sa_nil))) (sa_cons (s_tup (sa_cons s_int (sa_cons s_int sa_nil))) sa_nil))))))) (s_op op_modD ok_mod (s_op op_divD ok_div (s_var (pv 5)) s_int) s_int))))
    (sb_cons (ss_for (S := [10]) (passes_of rfl) rfl (si_val (s_tup (sa_cons (s_var (pv 16)) (sa_cons (s_var (pv 17)) (sa_cons (s_var (pv 9)) sa_nil))))) (pg_name (i := 10) sc_law.nd rfl (by first | exact Or.inl rfl | exact Or.inr rfl)) okTg_name (by rfl)
    (sb_one (ss_if (st_not (st_val (s_callG (takes_of rfl rfl rfl rfl) G__law_looked hr (by decide) (by rfl) (by rfl) (sa_cons (s_var (pv 10)) (sa_cons (s_var (pv 8)) sa_nil)))))
    (sb_one (ss_ret s_bl))
    sb_nil)))
    (sb_cons (ss_set (by rfl) (ps_set (i := 11) sc_law.nd rfl (by first | exact Or.inl rfl | exact Or.inr rfl) (s_tup (sa_cons (s_callB call_abs ok_abs (by rfl) T.n_abs (by decide +kernel) (sa_cons (s_ix (ix_4 (hu_of hr)) ok_ix (s_var (pv 16)) s_int) sa_nil)) (sa_cons (s_ix (ix_4 (hu_of hr)) ok_ix (s_var (pv 16)) s_int) sa_nil)))))
    (sb_cons (ss_set (by rfl) (ps_set (i := 12) sc_law.nd rfl (by first | exact Or.inl rfl | exact Or.inr rfl) (s_op op_add4 ok_add (s_callTy call_str_int ok_str (by rfl) T.n_str (by decide +kernel) (sa_cons (s_ix (ix_4 (hu_of hr)) ok_ix (s_var (pv 11)) s_int) sa_nil)) (s_ix (ix_4 (hu_of hr)) ok_ix (s_lst (sa_cons s_str (sa_cons (s_op op_add4 ok_add s_str (s_callTy call_str_int ok_str (by rfl) T.n_str (by decide +kernel) (sa_cons (s_ix (ix_4 (hu_of hr)) ok_ix (s_var (pv 16)) s_int) sa_nil))) sa_nil))) (s_callTy (call_int4 T.dig) ok_int4 (by rfl) T.n_int (by decide +kernel) (sa_cons (s_cmp op_gt ok_gt (s_ix (ix_4 (hu_of hr)) ok_ix (s_var (pv 16)) s_int) s_int (nomark _)) sa_nil))))))
    (sb_cons (ss_if (st_w (sw_or (st_cmp (op_neQ hr.units) ok_ne (s_callG (takes_of rfl rfl rfl rfl) G_ratio_text hr (by decide) (by rfl) (by rfl) (sa_cons (s_var (pv 11)) sa_nil)) (s_var (pv 12)) (nomark _)) (sw_or1 (st_not (st_val (s_callG (takes_of rfl rfl rfl rfl) G__law_is_ratio hr (by decide) (by rfl) (by rfl) (sa_cons (s_callG (takes_of rfl rfl rfl rfl) G_ratio_of hr (by decide) (by rfl) (by rfl) (sa_cons (s_var (pv 12)) sa_nil)) (sa_cons (s_var (pv 11)) sa_nil))))))))
    (sb_one (ss_ret s_bl))
    sb_nil)
    (sb_cons (ss_set (by rfl) (ps_set (i := 13) sc_law.nd rfl (by first | exact Or.inl rfl | exact Or.inr rfl) (s_callG (takes_of rfl rfl rfl rfl) G__law_bent hr (by decide) (by rfl) (by rfl) (sa_cons (s_var (pv 12)) (sa_cons (s_op op_divD ok_div (s_var (pv 5)) s_int) sa_nil)))))
    (sb_cons (ss_set (by rfl) (ps_set (i := 14) sc_law.nd rfl (by first | exact Or.inl rfl | exact Or.inr rfl) (s_callG (takes_of rfl rfl rfl rfl) G__law_read hr (by decide) (by rfl) (by rfl) (sa_cons (s_var (pv 13)) sa_nil))))
    (sb_cons (ss_set (by rfl) (ps_set (i := 15) sc_law.nd rfl (by first | exact Or.inl rfl | exact Or.inr rfl) (s_callG (takes_of rfl rfl rfl rfl) G_ratio_of hr (by decide) (by rfl) (by rfl) (sa_cons (s_var (pv 13)) sa_nil))))
    (sb_cons (ss_if (st_w (sw_or (st_cmp (op_neQ hr.units) ok_ne (s_var (pv 15)) (s_var (pv 14)) (nomark _)) (sw_or1 (st_w (sw_and (st_cmp op_isNQ ok_isN (s_var (pv 14)) s_non (nomark _)) (sw_and1 (st_not (st_val (s_callG (takes_of rfl rfl rfl rfl) G__law_is_ratio hr (by decide) (by rfl) (by rfl) (sa_cons (s_var (pv 15)) (sa_cons (s_var (pv 14)) sa_nil)))))))))))
    (sb_one (ss_ret s_bl))
    sb_nil)
    (sb_cons (ss_set (by rfl) (ps_set (i := 1) sc_law.nd rfl (by first | exact Or.inl rfl | exact Or.inr rfl) (s_callG (takes_of rfl rfl rfl rfl) G__law_odd hr (by decide) (by rfl) (by rfl) (sa_cons (s_var (pv 4)) (sa_cons (s_op op_divD ok_div (s_var (pv 5)) s_int) sa_nil)))))
    (sb_one (ss_if (st_w (sw_or (st_cmp op_isNQ ok_isN (s_callG (takes_of rfl rfl rfl rfl) G_is_ratio hr (by decide) (by rfl) (by rfl) (sa_cons (s_var (pv 1)) sa_nil)) s_bl (nomark _)) (sw_or1 (st_cmp op_isNQ ok_isN (s_callG (takes_of rfl rfl rfl rfl) G_is_amount hr (by decide) (by rfl) (by rfl) (sa_cons (s_var (pv 1)) (sa_cons (s_var (pv 8)) sa_nil))) s_bl (nomark _)))))
    (sb_one (ss_ret s_bl))
    sb_nil))))))))))))))))))))))
    (sb_cons (ss_set (by rfl) (ps_set (i := 1) sc_law.nd rfl (by first | exact Or.inl rfl | exact Or.inr rfl) (s_ix (ix_4 (hu_of hr)) ok_ix (s_lst (sa_cons s_non (sa_cons s_int (sa_cons s_bl (sa_cons (s_lst (sa_cons s_str sa_nil)) (sa_cons (s_tup (sa_cons s_int (sa_cons s_int sa_nil))) (sa_cons s_dict0 sa_nil))))))) (s_op op_modD ok_mod (s_callG (takes_of rfl rfl rfl rfl) G__law_draw hr (by decide) (by rfl) (by rfl) (sa_cons (s_callB (cr_sum (by rfl)) ok_sum (by rfl) T.n_sum (by decide +kernel) (sa_cons (s_slice sl_3 ok_sl (s_var (pv 0)) so_none (so_some s_int)) sa_nil)) (sa_cons s_int (sa_cons s_int sa_nil)))) s_int))))
    (sb_cons (ss_set (by rfl) (ps_set (i := 2) sc_law.nd rfl (by first | exact Or.inl rfl | exact Or.inr rfl) (s_lst (sa_cons (s_op op_mul3 ok_mul s_str s_int) (sa_cons (s_op op_add4 ok_add s_str (s_op op_mul3 ok_mul s_str s_int)) (sa_cons (s_op op_add4 ok_add (s_op op_mul3 ok_mul s_str s_int) s_str) sa_nil))))))
    (sb_cons (ss_if (st_cmp (op_neQ hr.units) ok_ne (s_comp (own := [("_law_word", 18)]) (by rfl) sc_law.nd (si_val (s_var (pv 2))) (blkOk_by (N := N_law) (sc := defScope s_law) (own := [("_law_word", 18)]) (by decide +kernel)) (by rfl) okTg_name (fun _ _ _ _ _ => (pg_name (i := 18) sc_law.nd rfl (by first | exact Or.inl rfl | exact Or.inr rfl))) (fun _ _ _ _ _ => (pts_one (st_cmp op_isNQ ok_isN (s_callG takes0 G_ratio_of hr (by decide) (by rfl) (by rfl) (sa_cons (s_var (pv 18)) sa_nil)) s_non (nomark _)))) (fun _ _ _ h => h) (fun _ _ _ _ _ => (s_var (pv 18)))) (s_lst sa_nil) (nomark _))
    (sb_one (ss_ret s_bl))
    sb_nil)
    (sb_one (ss_ret (s_and (s_cmp op_isQ ok_is (s_callG (takes_of rfl rfl rfl rfl) G_ratio_of hr (by decide) (by rfl) (by rfl) (sa_cons (s_var (pv 1)) sa_nil)) s_non (nomark _)) (s_one (s_cmp op_isQ ok_is (s_callG (takes_of rfl rfl rfl rfl) G_ratio_of hr (by decide) (by rfl) (by rfl) (sa_cons s_str sa_nil)) s_non (nomark _))))))))))
end
end OB

namespace OB
open PySem PySem.Spec PyProof.Rows L2 PySem.NumText
def dr (c k j : Int) : Int := (c % 2147483629 * 48271 + ((k + 3) * (k + 3) * 40692 + (j + 7) * (j + 7) * 69621)) % 2147483647 * 16807 % 2147483629 / 3
theorem dr_range (c k j : Int) : 0 ≤ dr c k j ∧ dr c k j < 1073741824 := by unfold dr; omega
theorem draw_eq {c k j : Int} [Bd k 20] [Bd j 20] : m__law_draw [.int c, .int k, .int j] = .ok (.int (dr c k j)) := by
  unfold m__law_draw g__law_draw dr
  simp (decide := true)
/-! the greatest common part -/
theorem gcd_turn (a b : Nat) : Nat.gcd a b = Nat.gcd b (a % b) := by rw [Nat.gcd_comm a b, Nat.gcd_rec b a, Nat.gcd_comm]
theorem common_loop (a b : Nat) : lp_common_1 [some (.int a), some (.int b)] = some (.nx, [some (.int (Nat.gcd a b)), some (.int 0)]) :=
  sWhile_run (α := Nat × Nat) (fun p => [some (.int p.1), some (.int p.2)]) (fun p => [some (.int (Nat.gcd p.1 p.2)), some (.int 0)]) (fun p => p.2) (fun _ => True) (fun ⟨a, b⟩ _ => by
    by_cases h : b = 0
    · subst h
      refine .inl ⟨?_, ?_⟩
      · unfold lt_common_1; simp
      · simp
    · have hb : 0 < b := by omega
      refine .inr ⟨?_, (b, a % b), ?_, trivial, Nat.mod_lt _ hb, ?_⟩
      · unfold lt_common_1; simp [hb]
      · unfold lb_common_1; simp [hb]
      · simp [gcd_turn a b]) (a, b) trivial
theorem common_eq {a b : Nat} : m_common [.int a, .int b] = .ok (.int (Nat.gcd a b)) := by
  unfold m_common g_common
  simp [common_loop]
theorem lowest_loop {x y z : Option D} (a b : Nat) : lp__law_lowest_1 [x, y, z, some (.int a), some (.int b)] = some (.nx, [x, y, z, some (.int (Nat.gcd a b)), some (.int 0)]) :=
  sWhile_run (α := Nat × Nat) (fun p => [x, y, z, some (.int p.1), some (.int p.2)]) (fun p => [x, y, z, some (.int (Nat.gcd p.1 p.2)), some (.int 0)]) (fun p => p.2) (fun _ => True) (fun ⟨a, b⟩ _ => by
    by_cases h : b = 0
    · subst h
      refine .inl ⟨?_, ?_⟩
      · unfold lt__law_lowest_1; simp
      · simp
    · have hb : 0 < b := by omega
      refine .inr ⟨?_, (b, a % b), ?_, trivial, Nat.mod_lt _ hb, ?_⟩
      · unfold lt__law_lowest_1; simp [hb]
      · unfold lb__law_lowest_1; simp [hb]
      · simp [gcd_turn a b]) (a, b) trivial
/-- a ratio in lowest terms -/
def sgn (b : Int) : Int := if 0 < b then 1 else -1
def loN (a b : Int) : Int := sgn b * a / (Int.gcd a b : Nat)
def loD (a b : Int) : Int := sgn b * b / (Int.gcd a b : Nat)
abbrev ratD (a b : Int) : D := .nd .tup [.int a, .int b]
theorem gcd_bd {a b : Int} (h : b ≠ 0) {n : Nat} [x : Bd b n] : Bd ((Int.gcd a b : Nat) : Int) n := ⟨by
  have : Int.gcd a b ≤ b.natAbs := Nat.le_of_dvd (by omega) (Nat.gcd_dvd_right _ _)
  have := x.lt
  omega⟩
theorem gcd_pos {a b : Int} (h : b ≠ 0) : 0 < Int.gcd a b := Nat.gcd_pos_of_pos_right a.natAbs (show 0 < b.natAbs by omega)
theorem gcd_abs (a b : Int) : Nat.gcd a.natAbs b.natAbs = Int.gcd a b := rfl
theorem lowest_eq {a b : Int} {n m : Nat} (h : b ≠ 0) [x : Bd a n] [y : Bd b m] (hn : n ≤ 8000 := by decide) (hm : m ≤ 8000 := by decide) : m__law_lowest [.int a, .int b] = .ok (ratD (loN a b) (loD a b)) := by
  replace x := x.mono hn
  replace y := y.mono hm
  have hp := gcd_pos (a := a) h
  have hb := gcd_bd (a := a) h (n := 8000)
  unfold m__law_lowest g__law_lowest loN loD sgn
  by_cases h0 : 0 < b
  · simp (decide := true) [lowest_loop, gcd_abs, h0, hp]
  · simp (decide := true) [lowest_loop, gcd_abs, h0, hp]
theorem ratio_eq {a b : Int} {n m : Nat} (h : b ≠ 0) [x : Bd a n] [y : Bd b m] (hn : n ≤ 8000 := by decide) (hm : m ≤ 8000 := by decide) : m_ratio [.int a, .int b] = .ok (ratD (loN a b) (loD a b)) := by
  replace x := x.mono hn
  replace y := y.mono hm
  have hp := gcd_pos (a := a) h
  have hb := gcd_bd (a := a) h (n := 8000)
  unfold m_ratio g_ratio loN loD sgn
  by_cases h0 : 0 < b
  · have h1 : ¬ b < 0 := by omega
    obtain ⟨q, rfl⟩ : ∃ q : Nat, b = q := ⟨b.toNat, by omega⟩
    have ec := common_eq (a := a.natAbs) (b := q)
    have eg : Nat.gcd a.natAbs q = Int.gcd a q := rfl
    have hq : 0 < q := by omega
    simp (decide := true) [ec, eg, h1, hp, hq]
  · have h1 : b < 0 := by omega
    obtain ⟨q, hq⟩ : ∃ q : Nat, b = -(q : Int) := ⟨(-b).toNat, by omega⟩
    subst hq
    have ec := common_eq (a := a.natAbs) (b := q)
    have eg : Nat.gcd a.natAbs q = Int.gcd a (-(q : Int)) := by unfold Int.gcd; simp
    rw [eg] at ec
    have hq : 0 < q := by omega
    have hq2 : ¬ ((q : Int) < 0) := by omega
    have eg2 : Int.gcd a (-(q : Int)) = Int.gcd a q := by simp
    rw [eg2] at hp hb ec
    simp (decide := true) [ec, hp, hq, hq2]
/-! what lowest terms are -/
theorem lo_pos {a b : Int} (h : b ≠ 0) : 0 < loD a b := by
  have hp := gcd_pos (a := a) h
  have hd : ((Int.gcd a b : Nat) : Int) ∣ sgn b * b := Int.dvd_trans (Int.gcd_dvd_right ..) (Int.dvd_mul_left _ _)
  have h1 : 0 < sgn b * b := by unfold sgn; split <;> omega
  exact Int.ediv_pos_of_pos_of_dvd h1 (by omega) hd
theorem lo_gcd {a b : Int} (h : b ≠ 0) : Int.gcd (loN a b) (loD a b) = 1 := by
  have hp := gcd_pos (a := a) h
  have e : Int.gcd a b = Int.gcd (sgn b * a) (sgn b * b) := by
    unfold sgn
    split
    · rw [Int.one_mul, Int.one_mul]
    · unfold Int.gcd
      rw [Int.neg_mul, Int.neg_mul, Int.one_mul, Int.one_mul, Int.natAbs_neg, Int.natAbs_neg]
  unfold loN loD
  rw [e] at hp ⊢
  exact Int.gcd_ediv_gcd_ediv_gcd hp
theorem lo_bdN {a b : Int} {n : Nat} [x : Bd a n] : Bd (loN a b) n := ⟨by
  unfold loN
  refine Nat.lt_of_le_of_lt (Int.natAbs_ediv_le_natAbs _ _) ?_
  have := x.lt
  unfold sgn
  split <;> omega⟩
theorem lo_bdD {a b : Int} {n : Nat} [x : Bd b n] : Bd (loD a b) n := ⟨by
  unfold loD
  refine Nat.lt_of_le_of_lt (Int.natAbs_ediv_le_natAbs _ _) ?_
  have := x.lt
  unfold sgn
  split <;> omega⟩
theorem lo_id {a b : Int} (h : 0 < b) (g : Int.gcd a b = 1) : loN a b = a ∧ loD a b = b := by
  unfold loN loD sgn
  rw [g, if_pos h]
  simp
/-- a ratio, its parts of at most n bits -/
structure Rt (a b : Int) (n : Nat) : Prop where
  pos : 0 < b
  gcd : Int.gcd a b = 1
  ba : Bd a n
  bb : Bd b n
theorem Rt.lo {a b : Int} {n : Nat} (h : b ≠ 0) (x : Bd a n) (y : Bd b n) : Rt (loN a b) (loD a b) n := ⟨lo_pos h, lo_gcd h, lo_bdN, lo_bdD⟩
theorem lo_lo {a b : Int} (h : b ≠ 0) : loN (loN a b) (loD a b) = loN a b ∧ loD (loN a b) (loD a b) = loD a b := lo_id (lo_pos h) (lo_gcd h)
end OB

namespace OB
open PySem PySem.Spec PyProof.Rows L2 PySem.NumText
section
variable {a b c d : Int} {n m : Nat}
theorem ne_mul {b d : Int} (h1 : 0 < b) (h2 : 0 < d) : b * d ≠ 0 := Int.mul_ne_zero (by omega) (by omega)
theorem plus_eq (x : Rt a b 3000) (y : Rt c d 3000) : m_plus [ratD a b, ratD c d] = .ok (ratD (loN (a * d + c * b) (b * d)) (loD (a * d + c * b) (b * d))) := by
  obtain ⟨p1, g1, _, _⟩ := x
  obtain ⟨p2, g2, _, _⟩ := y
  have e := ratio_eq (a := a * d + c * b) (b := b * d) (ne_mul p1 p2)
  unfold m_plus g_plus
  simp (decide := true) [e]
theorem less_eq (x : Rt a b 3000) (y : Rt c d 3000) : m_less [ratD a b, ratD c d] = .ok (ratD (loN (a * d - c * b) (b * d)) (loD (a * d - c * b) (b * d))) := by
  obtain ⟨p1, g1, _, _⟩ := x
  obtain ⟨p2, g2, _, _⟩ := y
  have e := ratio_eq (a := a * d - c * b) (b := b * d) (ne_mul p1 p2)
  unfold m_less g_less
  simp (decide := true) [e]
theorem times_eq (x : Rt a b 3000) (y : Rt c d 3000) : m_times [ratD a b, ratD c d] = .ok (ratD (loN (a * c) (b * d)) (loD (a * c) (b * d))) := by
  obtain ⟨p1, g1, _, _⟩ := x
  obtain ⟨p2, g2, _, _⟩ := y
  have e := ratio_eq (a := a * c) (b := b * d) (ne_mul p1 p2)
  unfold m_times g_times
  simp (decide := true) [e]
theorem over_eq (x : Rt a b 3000) (y : Rt c d 3000) (h : c ≠ 0) : m_over [ratD a b, ratD c d] = .ok (ratD (loN (a * d) (b * c)) (loD (a * d) (b * c))) := by
  obtain ⟨p1, g1, _, _⟩ := x
  obtain ⟨p2, g2, _, _⟩ := y
  have e := ratio_eq (a := a * d) (b := b * c) (Int.mul_ne_zero (by omega) h)
  unfold m_over g_over
  simp (decide := true) [e]
theorem law_sum_eq (p1 : 0 < b) (p2 : 0 < d) [x1 : Bd a 3000] [x2 : Bd b 3000] [y1 : Bd c 3000] [y2 : Bd d 3000] : m__law_sum [ratD a b, ratD c d] = .ok (ratD (loN (a * d + c * b) (b * d)) (loD (a * d + c * b) (b * d))) := by
  have e := lowest_eq (a := a * d + c * b) (b := b * d) (ne_mul p1 p2)
  unfold m__law_sum g__law_sum
  simp (decide := true) [e]
def ordI (x y : Int) : Int := (if y < x then 1 else 0) - (if x < y then 1 else 0)
theorem order_of_eq [x1 : Bd a 3000] [x2 : Bd b 3000] [y1 : Bd c 3000] [y2 : Bd d 3000] : m_order_of [ratD a b, ratD c d] = .ok (.int (ordI (a * d) (c * b))) := by
  unfold m_order_of g_order_of ordI
  simp (decide := true)
theorem law_is_ratio_eq : m__law_is_ratio [ratD a b, ratD a b] = .ok (.bl true) := by
  have e : cp__law_is_ratio_1 [some (ratD a b), some (ratD a b), none] = .ok (.nd (.lst .own) []) := by
    unfold cp__law_is_ratio_1 cc__law_is_ratio_1
    simp [eComp_eq, compL_cons, isiD, tyN, nbTy, sizeLine]
  unfold m__law_is_ratio g__law_is_ratio
  simp [e, isiD, tyN, nbTy]
theorem is_whole_int : m_is_whole [.int a] = .ok (.bl true) := by
  unfold m_is_whole g_is_whole
  simp [isiD, tyN, nbTy]
theorem is_ratio_eq [Bd a n] [Bd b m] : m_is_ratio [ratD a b] = .ok (.bl (decide (0 < b) && decide (Int.gcd a b = 1))) := by
  unfold m_is_ratio g_is_ratio
  by_cases h : 0 < b
  · obtain ⟨q, rfl⟩ : ∃ q : Nat, b = q := ⟨b.toNat, by omega⟩
    have ec := common_eq (a := a.natAbs) (b := q)
    have eg : Nat.gcd a.natAbs q = Int.gcd a q := rfl
    have hq : 0 < q := by omega
    rw [eg] at ec
    simp (decide := true) [isiD, tyN, nbTy, is_whole_int, h, ec, hq]
    by_cases h1 : Int.gcd a q = 1
    · simp [h1]
    · simp [h1]; omega
  · simp (decide := true) [isiD, tyN, nbTy, is_whole_int, h]
end
end OB

namespace OB
open PySem PySem.Spec PyProof.Rows L2 PySem.NumText
section
variable {a b c d : Int} {n m : Nat}
theorem Rt.mono (h : Rt a b n) (l : n ≤ m) : Rt a b m := ⟨h.pos, h.gcd, h.ba.mono l, h.bb.mono l⟩
theorem is_ratio_rt (x : Rt a b n) : m_is_ratio [ratD a b] = .ok (.bl true) := by
  obtain ⟨p, g, _, _⟩ := x
  rw [is_ratio_eq, decide_eq_true p, decide_eq_true g]
  rfl
theorem is_amount_rt (x : Rt a b n) (l : Int) : m_is_amount [ratD a b, .int l] = .ok (.bl ((decide (l ≤ a) && decide (a ≤ 1000000000000)) && decide (b ≤ 1000000))) := by
  have e := is_ratio_rt x
  unfold m_is_amount g_is_amount
  by_cases h1 : l ≤ a <;> by_cases h2 : a ≤ 1000000000000 <;> simp [e, h1, h2]
theorem looked_eq (x : Rt a b n) (l : Int) : m__law_looked [ratD a b, .int l] = .ok (.bl true) := by
  have e := is_ratio_rt x
  have e2 := is_amount_rt x l
  unfold m__law_looked g__law_looked
  by_cases h1 : l ≤ a <;> by_cases h2 : a ≤ 1000000000000 <;> simp (decide := true) [e, e2, h1, h2, isiD, tyN, nbTy]
theorem amount_eq [Bd a 20] [Bd b 20] : ∃ t s : Int, m__law_amount [.int c, .int a, .int b] = .ok (ratD (loN t s) (loD t s)) ∧ 1 ≤ t ∧ t ≤ 1000000000000 ∧ 1 ≤ s ∧ s ≤ 1000000 := by
  have e := draw_eq (c := c) (k := a) (j := b)
  obtain ⟨n0, n1⟩ := dr_range c a b
  generalize dr c a b = n at e n0 n1
  obtain ⟨t, ht, e1⟩ := pick_int (f := .tmp) (vs := [1 + n / 4 % 9, 1 + (c + n) % 1000000000000, 1000000000000 - n / 4 % 3, 1 + n / 4 % 1000]) (k := n % 4) (by omega) (by simp; omega)
  obtain ⟨s, hs, e2⟩ := pick_int (f := .tmp) (vs := [1, 1 + n / 64 % 12, 1 + n / 64 % 1000000, 1000000 - n / 64 % 2, 1]) (k := n / 16 % 5) (by omega) (by simp; omega)
  have bt : 1 ≤ t ∧ t ≤ 1000000000000 := by
    simp at ht
    omega
  have bs : 1 ≤ s ∧ s ≤ 1000000 := by
    simp at hs
    omega
  haveI : Bd t 40 := bd_range (c := 1000000000000) (by omega) (by decide)
  haveI : Bd s 20 := bd_range (c := 1000000) (by omega) (by decide)
  refine ⟨t, s, ?_, bt.1, bt.2, bs.1, bs.2⟩
  have el := lowest_eq (a := t) (b := s) (by omega)
  simp at e1 e2
  unfold m__law_amount g__law_amount
  simp (decide := true) [e, e1, e2, el]
theorem am_rt {t s : Int} (h : 1 ≤ t ∧ t ≤ 1000000000000 ∧ 1 ≤ s ∧ s ≤ 1000000) : Rt (loN t s) (loD t s) 40 :=
  Rt.lo (by omega) (bd_range (c := 1000000000000) (by omega) (by decide)) (bd_range (c := 1000000000000) (by omega) (by decide))
theorem rt01 : Rt 0 1 100 := ⟨by decide, by decide, ⟨by decide⟩, ⟨by decide⟩⟩
theorem gcd_neg1 {t s : Int} : Int.gcd (t * -1) s = Int.gcd t s := by simp
theorem drawn_eq (ha : 0 ≤ a ∧ a ≤ 1000) (hb : 0 ≤ b ∧ b ≤ 1000) : ∃ p q : Int, m__law_drawn [.int c, .int a, .int b] = .ok (ratD p q) ∧ Rt p q 100 := by
  haveI : Bd a 20 := bd_range (c := 1000) (by omega) (by decide)
  haveI : Bd b 20 := bd_range (c := 1000) (by omega) (by decide)
  haveI : Bd (b + 20) 20 := bd_range (c := 2000) (by omega) (by decide)
  haveI : Bd (b + 21) 20 := bd_range (c := 2000) (by omega) (by decide)
  have e := draw_eq (c := c) (k := a) (j := b)
  obtain ⟨t1, s1, e1, h1⟩ := amount_eq (c := c) (a := a) (b := b + 20)
  obtain ⟨t2, s2, e2, h2⟩ := amount_eq (c := c) (a := a) (b := b + 21)
  have r1 := am_rt h1
  have r2 := am_rt h2
  generalize loN t1 s1 = p1 at e1 r1
  generalize loD t1 s1 = q1 at e1 r1
  generalize loN t2 s2 = p2 at e2 r2
  generalize loD t2 s2 = q2 at e2 r2
  generalize dr c a b = n at e
  by_cases c1 : n % 7 = 1
  · refine ⟨0, 1, ?_, rt01⟩
    unfold m__law_drawn g__law_drawn st__law_drawn_1 st__law_drawn_2
    simp (decide := true) [e, e1, c1]
  · by_cases c2 : n % 7 = 2
    · obtain ⟨z1, g1, b1, b2⟩ := r1
      obtain ⟨z2, g2, b3, b4⟩ := r2
      refine ⟨loN (p1 * q2 + p2 * q1) (q1 * q2), loD (p1 * q2 + p2 * q1) (q1 * q2), ?_, Rt.lo (ne_mul z1 z2) (Bd.mono (n := max (40 + 40) (40 + 40) + 1) inferInstance (by decide)) (Bd.mono (n := 40 + 40) inferInstance (by decide))⟩
      haveI := b1.mono (m := 3000) (by decide)
      haveI := b2.mono (m := 3000) (by decide)
      haveI := b3.mono (m := 3000) (by decide)
      haveI := b4.mono (m := 3000) (by decide)
      have es := law_sum_eq (a := p1) (b := q1) (c := p2) (d := q2) z1 z2
      unfold m__law_drawn g__law_drawn st__law_drawn_1 st__law_drawn_2 st__law_drawn_3
      simp (decide := true) [e, e1, e2, c2, es]
    · obtain ⟨z1, g1, b1, b2⟩ := r1
      obtain ⟨v, hv, ev⟩ := pick_int (f := .own) (vs := [1, 1, -1]) (k := n / 7 % 3) (by omega) (by simp; omega)
      haveI : Bd v 1 := ⟨by simp at hv; rcases hv with rfl | rfl <;> decide⟩
      refine ⟨p1 * v, q1, ?_, z1, ?_, Bd.mono (n := 40 + 1) inferInstance (by decide), b2.mono (by decide)⟩
      · simp at ev
        unfold m__law_drawn g__law_drawn st__law_drawn_1 st__law_drawn_2 st__law_drawn_3 st__law_drawn_4
        simp (decide := true) [e, e1, c1, c2, ev]
      · simp at hv
        rcases hv with rfl | rfl
        · rw [Int.mul_one]; exact g1
        · rw [gcd_neg1]; exact g1
theorem reckoned_eq (x : Rt a b 100) (y : Rt c d 100) : m__law_reckoned [ratD a b, ratD c d] = .ok (.bl true) := by
  have x3 := x.mono (m := 3000) (by decide)
  have y3 := y.mono (m := 3000) (by decide)
  have e1 := plus_eq x3 y3
  have e2 := less_eq x3 y3
  have e3 := times_eq x3 y3
  have e4 := over_eq x3 y3
  obtain ⟨p1, g1, b1, b2⟩ := x3
  obtain ⟨p2, g2, b3, b4⟩ := y3
  haveI : Bd (0 - c) 3000 := by rw [Int.zero_sub]; exact inferInstance
  have s1 := law_sum_eq (a := a) (b := b) (c := c) (d := d) p1 p2
  have s2 := law_sum_eq (a := a) (b := b) (c := 0 - c) (d := d) p1 p2
  have e5 := order_of_eq (a := a) (b := b) (c := c) (d := d)
  have l1 := lowest_eq (a := a * c) (b := b * d) (ne_mul p1 p2)
  have es : a * d + (0 - c) * b = a * d - c * b := by rw [Int.zero_sub, Int.neg_mul]; omega
  rw [es] at s2
  have r1 := law_is_ratio_eq (a := loN (a * d + c * b) (b * d)) (b := loD (a * d + c * b) (b * d))
  have r2 := law_is_ratio_eq (a := loN (a * d - c * b) (b * d)) (b := loD (a * d - c * b) (b * d))
  have r3 := law_is_ratio_eq (a := loN (a * c) (b * d)) (b := loD (a * c) (b * d))
  have r4 := law_is_ratio_eq (a := loN (a * d) (b * c)) (b := loD (a * d) (b * c))
  simp at s2
  by_cases h : c = 0
  · subst h
    simp at e1 e2 e3 s1 s2 l1 r1 r2 r3 e5
    unfold m__law_reckoned g__law_reckoned st__law_reckoned_1 st__law_reckoned_2 st__law_reckoned_3 st__law_reckoned_4 st__law_reckoned_5 st__law_reckoned_6 st__law_reckoned_7 
    simp (decide := true) [e1, e2, e3, s1, s2, l1, r1, r2, r3, e5, isiD, tyN, nbTy, ordI]
  · have e4 := e4 h
    have l2 := lowest_eq (a := a * d) (b := b * c) (Int.mul_ne_zero (by omega) h)
    unfold m__law_reckoned g__law_reckoned st__law_reckoned_1 st__law_reckoned_2 st__law_reckoned_3 st__law_reckoned_4 st__law_reckoned_5 st__law_reckoned_6 st__law_reckoned_7 
    simp (decide := true) [e1, e2, e3, e4, s1, s2, l1, l2, r1, r2, r3, r4, e5, h, isiD, tyN, nbTy, ordI]
end
end OB

namespace OB
open PySem PySem.Spec PyProof.Rows L2 PySem.NumText PySem.StrLaws Builtin.Str
/-! ### texts by their signs -/
def tx (l : List Nat) : Str := ⟨l.toArray⟩
theorem sgs_tx (l : List Nat) : sgs (tx l) = l := rfl
theorem tx_sgs (s : Str) : tx (sgs s) = s := by
  unfold tx sgs
  cases s with
  | mk a => simp
theorem sgs_inj {s t : Str} (h : sgs s = sgs t) : s = t := by rw [← tx_sgs s, ← tx_sgs t, h]
theorem sgs_app (s t : Str) : sgs (s ++ t) = sgs s ++ sgs t := by
  show (s.cps ++ t.cps).toList = _
  simp [sgs]
theorem tx_app (u v : List Nat) : tx u ++ tx v = tx (u ++ v) := sgs_inj (by rw [sgs_app]; rfl)
theorem empty_tx : (Str.ofString "") = tx [] := by decide +kernel
theorem sgs_empty : sgs (Str.ofString "") = [] := by rw [empty_tx]; rfl
theorem okS_app {a b : Str} {n m : Nat} (ha : OkS a n) (hb : OkS b m) : OkS (a ++ b) (n + m) := ⟨by
  rw [show (a ++ b).length = a.length + b.length from Str.length_append a b]
  exact Nat.add_le_add ha.len hb.len, fun c hc => by
  have hc : c ∈ sgs (a ++ b) := hc
  rw [sgs_app, List.mem_append] at hc
  exact hc.elim (ha.ok c) (hb.ok c)⟩
theorem okS_tx {l : List Nat} {n : Nat} (h1 : l.length ≤ n) (h2 : ∀ c ∈ l, c < 0x110000) : OkS (tx l) n := ⟨by rw [← sgs_len]; exact h1, h2⟩
theorem okS_sub {s t : Str} {n : Nat} (h : OkS s n) (hl : (sgs t).Sublist (sgs s)) : OkS t n := ⟨by
  have := hl.length_le
  rw [sgs_len, sgs_len] at this
  exact Nat.le_trans this h.len, fun c hc => h.ok c (hl.subset hc)⟩
theorem okS_cut {s : Str} {n : Nat} (h : OkS s n) (lo hi : Option Int) : OkS (cutS s lo hi) n := okS_sub h ((List.take_sublist _ _).trans (List.drop_sublist _ _))
theorem slS {s : Str} (h : s.length ≤ 16777216) {lo hi : Option Int} : pSl (.str s) lo hi = some (.str (cutS s lo hi)) := if_pos h
/-! partition at a sign -/
theorem part_none {s : Str} {c : Nat} (h : c ∉ sgs s) : Txt.partition s (sg c) = (s, tx [], tx []) := by
  have e := found_one s c
  rw [show decide (c ∈ s.cps.toList) = false from decide_eq_false h] at e
  unfold Txt.partition
  change (!(occurrences s (sg c) 0 s.length 1).isEmpty) = false at e
  cases q : occurrences s (sg c) 0 s.length 1 with
  | nil => rfl
  | cons i r => rw [q] at e; cases e
theorem part_some {u w : List Nat} {c : Nat} (h : c ∉ u) : Txt.partition (tx (u ++ c :: w)) (sg c) = (tx u, sg c, tx w) := by
  have hl : (sgs (tx (u ++ c :: w))) = u ++ c :: w := rfl
  have hat : ∀ i, At (tx (u ++ c :: w)) (sg c) (tx (u ++ c :: w)).length i ↔ (u ++ c :: w)[i]? = some c := fun i => subAt_one _ c i
  rcases occ_head (tx (u ++ c :: w)) (sg c) 1 (Nat.le_refl _) with ⟨_, h2⟩ | ⟨i, r, h1, h2, h3⟩
  · exact absurd ((hat u.length).mpr (by simp)) (h2 _)
  · have e : i = u.length := by
      have a1 := (hat i).mp h2
      rcases Nat.lt_trichotomy i u.length with l | l | l
      · rw [List.getElem?_append_left l] at a1
        exact absurd (List.mem_of_getElem? a1) h
      · exact l
      · exact absurd ((hat u.length).mpr (by simp)) (h3 _ l)
    subst e
    unfold Txt.partition
    rw [h1]
    have e1 : strSub (tx (u ++ c :: w)) 0 u.length = tx u := sgs_inj (by
      show (strSub (tx (u ++ c :: w)) 0 u.length).cps.toList = _
      rw [strSub_toList]
      show ((u ++ c :: w).drop 0).take _ = u
      simp)
    have e2 : strSub (tx (u ++ c :: w)) (u.length + (sg c).length) (tx (u ++ c :: w)).length = tx w := sgs_inj (by
      show (strSub (tx (u ++ c :: w)) _ _).cps.toList = _
      rw [strSub_toList, ← sgs_len, hl]
      show ((u ++ c :: w).drop (u.length + 1)).take _ = w
      have ed : (u ++ c :: w).drop (u.length + 1) = w := by
        rw [List.drop_append]
        simp
      rw [ed]
      exact List.take_of_length_le (by rw [show (sg c).length = 1 from rfl, List.length_append, List.length_cons]; omega))
    show (strSub (tx (u ++ c :: w)) 0 u.length, sg c, strSub (tx (u ++ c :: w)) (u.length + (sg c).length) (tx (u ++ c :: w)).length) = _
    rw [e1, e2]
/-- a text has a first c, or none -/
theorem at_sign (s : Str) (c : Nat) : c ∉ sgs s ∨ ∃ u w, c ∉ u ∧ s = tx (u ++ c :: w) := by
  by_cases h : c ∈ sgs s
  · obtain ⟨u, w, e, hu⟩ := List.eq_append_cons_of_mem h
    exact .inr ⟨u, w, hu, by rw [← e, tx_sgs]⟩
  · exact .inl h
/-! numbers in texts -/
theorem numD_cases (s : Str) : numD s = .non ∨ ∃ v : Nat, numD s = .int v ∧ v < 2 ^ 3400 := by
  unfold numD
  split
  · rename_i h
    rw [Bool.and_eq_true, Bool.and_eq_true] at h
    have h2 := of_decide_eq_true h.2.1
    split
    · exact .inl rfl
    · refine .inr ⟨_, rfl, ?_⟩
      have := dv_lt (sgs s) (among_figs h.2.2)
      refine Nat.lt_of_lt_of_le this (Nat.le_trans (Nat.pow_le_pow_right (by decide) (by rw [sgs_len]; omega : _ ≤ 1000)) (by decide +kernel))
  · exact .inl rfl
theorem str_num {m : Nat} (h : m < 2 ^ 1900) : pStr [.int m] = some (.str (num m)) := by
  have hlog : (m : Int).natAbs.log2 < 1920 := by
    by_cases h0 : m = 0
    · subst h0; decide
    · exact Nat.lt_trans ((Nat.log2_lt (by simpa using h0)).mpr (by simpa using h)) (by decide)
  show (if (m : Int).natAbs.log2 < 1920 then some (D.str (Str.ofString (toString (m : Int)))) else none) = _
  rw [if_pos hlog, num_eq]
theorem num_ok {m : Nat} {k : Nat} (h : m < 10 ^ (k + 1)) : OkS (num m) (k + 1) := ⟨by rw [← sgs_len, sgs_num]; exact dgs_len k m h, fun c hc => by
  have hc : c ∈ sgs (num m) := hc
  rw [sgs_num] at hc
  have := (dgs_all m).1 c hc
  omega⟩
end OB

namespace OB
open PySem PySem.Spec PyProof.Rows L2 PySem.NumText PySem.StrLaws Builtin.Str
theorem are_signs_eq {s z : Str} (h : s.length ≤ 16777216) : m_are_signs [.str s, .str z] = .ok (.bl (among s z)) := by
  have hl : ((sgs s).map fun c => D.bl (decide (c ∈ sgs z))).length ≤ sizeLine := by rw [List.length_map, sgs_len]; exact h
  have e1 : cp_are_signs_1 [some (.str s), some (.str z), none] = .ok (.nd (.lst .own) ((sgs s).map fun c => D.bl (decide (c ∈ sgs z)))) := by
    unfold cp_are_signs_1 ce_are_signs_1
    refine eComp_ok (p := ((sgs s).map fun c => D.str (sg c), true)) rfl ?_ hl
    have := compL_map (tg := tgName 2) (f := ePr pIn [eVar 2, eVar 1]) (ρ := wipeE [some (.str s), some (.str z), none] [2]) (fun d => match d with | .str a => .bl (match sgs a with | [c] => decide (c ∈ sgs z) | _ => false) | _ => .non) ((sgs s).map fun c => D.str (sg c)) fun d hd => by
      obtain ⟨c, hc, rfl⟩ := List.mem_map.mp hd
      exact ⟨[some (.str s), some (.str z), some (.str (sg c))], rfl, by simp [in_sg]; rfl⟩
    rw [this, List.map_map]
    rfl
  have e3 : pAll [.nd (.lst .own) ((sgs s).map fun c => D.bl (decide (c ∈ sgs z)))] = some (.bl (among s z)) := by
    have := blsD_map ((sgs s).map fun c => decide (c ∈ sgs z))
    rw [List.map_map] at this
    show Option.map _ (blsD _) = _
    rw [show (fun c => D.bl (decide (c ∈ sgs z))) = D.bl ∘ fun c => decide (c ∈ sgs z) from rfl, this]
    unfold among
    simp
  unfold m_are_signs g_are_signs
  simp [e1, e3]
/-- the first sign, and the number -/
theorem num_ready {s : Str} (h1 : (1 : Int) ≤ s.length) (h2 : (s.length : Int) ≤ 1000) (ha : among s figs = true) : ∃ c r, sgs s = c :: r ∧ pIx [.str s, .int 0] = some (.str (sg c)) ∧ pInt4 [.str s] = some (.int (digitsVal (sgs s))) := by
  cases hs : sgs s with
  | nil =>
    have := sgs_len (s := s)
    rw [hs] at this
    simp at this
    omega
  | cons c r =>
    refine ⟨c, r, rfl, ix0_str (by omega) hs, ?_⟩
    have it := intText_digits (x := s) (among_figs ha) (by show sgs s ≠ []; rw [hs]; simp) (by omega)
    show (if s.length ≤ 4300 then (PySem.intText? s).map D.int else none) = _
    rw [if_pos (by omega), it, ← hs]; rfl
theorem number_of_eq {s : Str} (h : s.length ≤ 16777216) : m_number_of [.str s] = .ok (numD s) := by
  have e : m_are_signs [.str s, .str "0123456789"] = Ot.ok (D.bl (among s figs)) := are_signs_eq (s := s) (z := figs) h
  unfold m_number_of g_number_of numD
  rw [zero_sg]
  by_cases h1 : (1 : Int) ≤ s.length
  · by_cases h2 : (s.length : Int) ≤ 1000
    · cases ha : among s figs with
      | false =>
        rw [ha] at e
        simp [isiD, tyN, nbTy, h, h1, h2, e]
      | true =>
        rw [ha] at e
        obtain ⟨c, r, hs, i0, i4⟩ := num_ready h1 h2 ha
        rw [hs] at i4 ⊢
        obtain ⟨p1, q1⟩ : ∃ p : Prop, (sg c = sg 48) = p := ⟨_, rfl⟩
        obtain ⟨p2, q2⟩ : ∃ p : Prop, (s = sg 48) = p := ⟨_, rfl⟩
        by_cases b1 : p1 <;> by_cases b2 : p2 <;> simp [isiD, tyN, nbTy, h, h1, h2, e, i0, q1, q2, b1, b2, i4]
    · simp [isiD, tyN, nbTy, h, h1, h2]
  · simp [isiD, tyN, nbTy, h, h1]
theorem figures_eq {s : Str} {n : Nat} (hn : n ≤ 16777216) (o : OkS s n) : m__law_figures [.str s] = .ok (numD s) := by
  have h : s.length ≤ 16777216 := Nat.le_trans o.len hn
  have e := comp_notIn (i := 1) (s := s) (z := figs) (ρ := [some (.str s), none]) (fz := eC (.str figs)) h (by simp) (by simp) (fun d => rfl)
  have e : cp__law_figures_1 [some (.str s), none] = .ok (.nd (.lst .own) (((sgs s).filter fun c => !decide (c ∈ sgs figs)).map fun c => .str (sg c))) := e
  have e2 := pNe_nil (f := .own) (g := .own) (n := 1) (ss := ((sgs s).filter fun c => !decide (c ∈ sgs figs)).map sg) fun t ht => by
    obtain ⟨c, hc, rfl⟩ := List.mem_map.mp ht
    exact sg_ok o (List.mem_filter.mp hc).1
  rw [List.map_map] at e2
  have e3 : (((sgs s).filter fun c => !decide (c ∈ sgs figs)).map sg).isEmpty = among s figs := by
    rw [List.isEmpty_map]
    exact odd_sgs
  rw [e3] at e2
  have e2 : pNe [.nd (.lst .own) (((sgs s).filter fun c => !decide (c ∈ sgs figs)).map fun c => .str (sg c)), .nd (.lst .own) []] = some (.bl (!among s figs)) := e2
  unfold m__law_figures g__law_figures numD
  rw [zero_sg]
  by_cases h1 : (1 : Int) ≤ s.length
  · by_cases h2 : (s.length : Int) ≤ 1000
    · cases ha : among s figs with
      | false =>
        rw [ha] at e2
        simp [h, h1, h2, e, e2]
      | true =>
        rw [ha] at e2
        obtain ⟨c, r, hs, i0, i4⟩ := num_ready h1 h2 ha
        rw [hs] at i4 e e2 ⊢
        obtain ⟨p1, q1⟩ : ∃ p : Prop, (sg c = sg 48) = p := ⟨_, rfl⟩
        obtain ⟨p2, q2⟩ : ∃ p : Prop, (s = sg 48) = p := ⟨_, rfl⟩
        by_cases b1 : p1 <;> by_cases b2 : p2 <;> simp [h, h1, h2, e, e2, i0, q1, q2, b1, b2, i4]
    · simp [h, h1, h2]
  · simp [h, h1]
/-! a ratio's text -/
def readD (s : Str) : D := let p := Txt.partition s (sg 47); if p.2.1 = tx [] then (match numD p.1 with | .int v => ratD v 1 | _ => .non) else match numD p.1, numD p.2.2 with
  | .int v, .int w => if 2 ≤ w ∧ Int.gcd v w = 1 then ratD v w else .non
  | _, _ => .non
theorem slash : (Str.ofString "/") = sg 47 := by decide +kernel
theorem part_row {s : Str} (h : s.length ≤ 16777216) : pPart [.str s, .str (sg 47)] = some (.nd .tup [.str (Txt.partition s (sg 47)).1, .str (Txt.partition s (sg 47)).2.1, .str (Txt.partition s (sg 47)).2.2]) := if_pos ⟨by decide, h⟩
theorem sg47_ne : ¬ sg 47 = tx [] := by decide
theorem ratio_of_eq {s : Str} (h : s.length ≤ 16777216) : m_ratio_of [.str s] = .ok (readD s) := by
  have ep := part_row h
  unfold m_ratio_of g_ratio_of st_ratio_of_1 st_ratio_of_2 st_ratio_of_3 st_ratio_of_4 readD
  rw [slash, empty_tx]
  rcases at_sign s 47 with hn | ⟨u, w, hu, rfl⟩
  · have e := part_none hn
    rw [e] at ep ⊢
    have en := number_of_eq h
    rcases numD_cases s with hc | ⟨v, hc, hv⟩
    · rw [hc] at en
      simp [hc, sTgt, sOn, isiD, tyN, nbTy, tyB, ep, tgTup, tgs, en]
    · rw [hc] at en
      haveI : Bd (v : Int) 3400 := ⟨by simpa using hv⟩
      have er := is_ratio_eq (a := v) (b := 1)
      simp at er
      simp [hc, sTgt, sOn, isiD, tyN, nbTy, tyB, ep, tgTup, tgs, en, er]
  · have e := part_some (w := w) hu
    rw [e] at ep ⊢
    have hl : u.length + (w.length + 1) ≤ 16777216 := by
      have : (sgs (tx (u ++ 47 :: w))).length ≤ 16777216 := by rw [sgs_len]; exact h
      rw [sgs_tx, List.length_append, List.length_cons] at this
      exact this
    have e1 := number_of_eq (s := tx u) (by rw [← sgs_len, sgs_tx]; omega)
    have e2 := number_of_eq (s := tx w) (by rw [← sgs_len, sgs_tx]; omega)
    have hne := sg47_ne
    rcases numD_cases (tx u) with hc | ⟨v, hc, hv⟩
    · rcases numD_cases (tx w) with hc2 | ⟨v2, hc2, hv2⟩ <;> rw [hc] at e1 <;> rw [hc2] at e2 <;> simp [hc, hc2, sTgt, sOn, isiD, tyN, nbTy, tyB, ep, tgTup, tgs, e1, e2, hne]
    · rcases numD_cases (tx w) with hc2 | ⟨v2, hc2, hv2⟩
      · rw [hc] at e1; rw [hc2] at e2; simp [hc, hc2, sTgt, sOn, isiD, tyN, nbTy, tyB, ep, tgTup, tgs, e1, e2, hne]
      · rw [hc] at e1; rw [hc2] at e2
        haveI : Bd (v : Int) 3400 := ⟨by simpa using hv⟩
        haveI : Bd (v2 : Int) 3400 := ⟨by simpa using hv2⟩
        have er := is_ratio_eq (a := v) (b := v2)
        by_cases k : (v2 : Int) < 2
        · have k2 : ¬ 2 ≤ v2 := by omega
          have k2i : ¬ (2 : Int) ≤ v2 := by omega
          simp [sTgt, sOn, isiD, tyN, nbTy, tyB, ep, tgTup, tgs, e1, e2, hne, hc, hc2, k, k2, k2i]
        · have k2 : 2 ≤ v2 := by omega
          have k2i : (2 : Int) ≤ v2 := by omega
          have k3 : 0 < v2 := by omega
          simp [k3] at er
          by_cases k4 : Nat.gcd v v2 = 1 <;> simp [sTgt, sOn, isiD, tyN, nbTy, tyB, ep, tgTup, tgs, e1, e2, hne, hc, hc2, k, k2, k2i, er, k4]
theorem lo_iff {v w : Nat} (h : 2 ≤ w) : (loN v w = v ∧ loD v w = w) ↔ Nat.gcd v w = 1 := by
  have hp : (0 : Int) < w := by omega
  refine ⟨fun h2 => ?_, fun h2 => lo_id hp h2⟩
  have h3 := h2.2
  unfold loD sgn at h3
  rw [if_pos hp, Int.one_mul] at h3
  change (w : Int) / ((Nat.gcd v w : Nat) : Int) = w at h3
  rw [← Int.natCast_ediv] at h3
  have h4 : w / Nat.gcd v w = w := by omega
  have h5 : Nat.gcd v w ∣ w := Nat.gcd_dvd_right _ _
  have h6 := Nat.div_mul_cancel h5
  rw [h4] at h6
  have : Nat.gcd v w = 1 := by
    refine Nat.eq_of_mul_eq_mul_left (show 0 < w by omega) ?_
    rw [h6, Nat.mul_one]
  exact this
theorem law_read_eq {s : Str} {n : Nat} (hn0 : n ≤ 16777216) (o : OkS s n) : m__law_read [.str s] = .ok (readD s) := by
  have h : s.length ≤ 16777216 := Nat.le_trans o.len hn0
  have ep := part_row h
  unfold m__law_read g__law_read st__law_read_1 st__law_read_2 st__law_read_3 readD
  rw [slash, empty_tx]
  rcases at_sign s 47 with hn | ⟨u, w, hu, rfl⟩
  · have e := part_none hn
    rw [e] at ep ⊢
    have en := figures_eq hn0 o
    rcases numD_cases s with hc | ⟨v, hc, hv⟩
    · rw [hc] at en
      simp [hc, sTgt, sOn, tyB, ep, tgTup, tgs, en]
    · rw [hc] at en
      simp [hc, sTgt, sOn, tyB, ep, tgTup, tgs, en]
  · have e := part_some (w := w) hu
    rw [e] at ep ⊢
    have o1 : OkS (tx u) n := okS_sub o (by rw [sgs_tx, sgs_tx]; exact List.sublist_append_left _ _)
    have o2 : OkS (tx w) n := okS_sub o (by rw [sgs_tx, sgs_tx]; exact (List.sublist_cons_self _ _).trans (List.sublist_append_right _ _))
    have e1 := figures_eq hn0 o1
    have e2 := figures_eq hn0 o2
    have hne := sg47_ne
    rcases numD_cases (tx u) with hc | ⟨v, hc, hv⟩
    · rcases numD_cases (tx w) with hc2 | ⟨v2, hc2, hv2⟩ <;> rw [hc] at e1 <;> rw [hc2] at e2 <;> simp [hc, hc2, sTgt, sOn, tyB, ep, tgTup, tgs, e1, e2, hne]
    · rcases numD_cases (tx w) with hc2 | ⟨v2, hc2, hv2⟩
      · rw [hc] at e1; rw [hc2] at e2; simp [hc, hc2, sTgt, sOn, tyB, ep, tgTup, tgs, e1, e2, hne]
      · rw [hc] at e1; rw [hc2] at e2
        haveI : Bd (v : Int) 3400 := ⟨by simpa using hv⟩
        haveI : Bd (v2 : Int) 3400 := ⟨by simpa using hv2⟩
        by_cases k : (v2 : Int) < 2
        · have k2 : ¬ 2 ≤ v2 := by omega
          have k2i : ¬ (2 : Int) ≤ v2 := by omega
          simp [sTgt, sOn, tyB, ep, tgTup, tgs, e1, e2, hne, hc, hc2, k, k2, k2i]
        · have k2 : 2 ≤ v2 := by omega
          have k2i : (2 : Int) ≤ v2 := by omega
          have el := lowest_eq (a := v) (b := v2) (by omega)
          have eq := lo_iff (v := v) k2
          have en : pNe [ratD (loN v v2) (loD v v2), ratD v v2] = some (.bl (!decide (Nat.gcd v v2 = 1))) := by
            rw [neT2]
            by_cases k4 : Nat.gcd v v2 = 1
            · obtain ⟨a, b⟩ := eq.mpr k4
              rw [a, b]; simp [k4]
            · have : (decide (loN v v2 = v) && decide (loD v v2 = v2)) = false := by
                rw [← Bool.decide_and]
                exact decide_eq_false fun q => k4 (eq.mp q)
              rw [this, decide_eq_false k4]
          by_cases k4 : Nat.gcd v v2 = 1
          · rw [decide_eq_true k4] at en
            unfold ratD at en el
            simp only [Bool.not_true] at en
            simp [-neT2, sTgt, sOn, tyB, ep, tgTup, tgs, e1, e2, hne, hc, hc2, k, k2, k2i, el, k4, en]
          · rw [decide_eq_false k4] at en
            unfold ratD at en el
            simp only [Bool.not_false] at en
            simp [-neT2, sTgt, sOn, tyB, ep, tgTup, tgs, e1, e2, hne, hc, hc2, k, k2, k2i, el, k4, en]
end OB

namespace OB
open PySem PySem.Spec PyProof.Rows L2 PySem.NumText PySem.StrLaws Builtin.Str
/-- a ratio as it is written -/
def wr (p q : Nat) : Str := tx (dgs p ++ if q = 1 then [] else 47 :: dgs q)
theorem num_tx (m : Nat) : num m = tx (dgs m) := rfl
theorem len_lt10 {m : Nat} (h : m < 2 ^ 110) : (dgs m).length ≤ 34 := dgs_len 33 m (Nat.lt_trans h (by decide +kernel))
theorem wr_ok {p q : Nat} (hp : p < 2 ^ 110) (hq : q < 2 ^ 110) : OkS (wr p q) 100 := by
  have h1 := len_lt10 hp
  have h2 := len_lt10 hq
  refine okS_tx ?_ fun c hc => ?_
  · split <;> simp <;> omega
  · rcases List.mem_append.mp hc with hc | hc
    · have := (dgs_all p).1 c hc
      omega
    · split at hc
      · cases hc
      · rcases List.mem_cons.mp hc with hc | hc
        · omega
        · have := (dgs_all q).1 c hc
          omega
theorem number_text_eq {m : Nat} (h : m < 2 ^ 110) : m_number_text [.int m] = .ok (.str (num m)) := by
  have e := str_num (m := m) (Nat.lt_of_lt_of_le h (Nat.pow_le_pow_right (by decide) (by decide)))
  unfold m_number_text g_number_text
  simp [e]
theorem addS {a b : Str} {n m : Nat} (ha : OkS a n) (hb : OkS b m) (h : n + m ≤ 16777216) : pAdd [.str a, .str b] = some (.str (a ++ b)) := by
  show (if a.length + b.length ≤ sizeLine then _ else _) = _
  exact if_pos (Nat.le_trans (Nat.add_le_add ha.len hb.len) h)
theorem num_okS {m : Nat} (h : m < 2 ^ 110) : OkS (num m) 34 := num_ok (k := 33) (Nat.lt_trans h (by decide +kernel))
theorem sg_tx (c : Nat) : sg c = tx [c] := rfl
theorem sl_ok : OkS (sg 47) 1 := ⟨by decide, fun c hc => by
  have : c = 47 := by simpa [sg] using hc
  omega⟩
theorem ratio_text_eq {p q : Nat} (hp : p < 2 ^ 110) (hq : q < 2 ^ 110) : m_ratio_text [ratD p q] = .ok (.str (wr p q)) := by
  have e1 := number_text_eq hp
  have e2 := number_text_eq hq
  have a1 := addS (num_okS hp) sl_ok (by decide)
  have a2 := addS (okS_app (num_okS hp) sl_ok) (num_okS hq) (by decide)
  unfold m_ratio_text g_ratio_text wr
  rw [slash]
  by_cases h : q = 1
  · have h2 : (q : Int) = 1 := by omega
    rw [if_pos h, List.append_nil, ← num_tx]
    simp [h2, e1]
  · have h2 : ¬ (q : Int) = 1 := by omega
    rw [if_neg h, show tx (dgs p ++ 47 :: dgs q) = num p ++ sg 47 ++ num q by rw [num_tx, num_tx, sg_tx, tx_app, tx_app]; simp]
    simp [h, h2, e1, e2, a1, a2]
theorem readD_wr {p q : Nat} (hq0 : 0 < q) (hg : Nat.gcd p q = 1) (hp : p < 2 ^ 110) (hq : q < 2 ^ 110) : readD (wr p q) = ratD p q := by
  have h1 := len_lt10 hp
  have h2 := len_lt10 hq
  have hn : 47 ∉ dgs p := fun h => by
    have := (dgs_all p).1 47 h
    omega
  unfold readD wr
  by_cases h : q = 1
  · subst h
    have e := part_none (s := tx (dgs p)) (c := 47) hn
    have en := numD_num (m := p) (by omega)
    rw [num_tx] at en
    rw [if_pos rfl, List.append_nil, e]
    simp [en]
  · have e := part_some (w := dgs q) hn
    have e1 := numD_num (m := p) (by omega)
    have e2 := numD_num (m := q) (by omega)
    rw [num_tx] at e1 e2
    have hne := sg47_ne
    have k2 : (2 : Int) ≤ q := by omega
    have k3 : 2 ≤ q := by omega
    rw [if_neg h, e]
    simp [hne, e1, e2, k2, k3, hg]
/-- the law's own writing -/
theorem law_text {p q : Nat} (hq0 : 0 < q) (hp : p < 2 ^ 110) (hq : q < 2 ^ 110) : ∃ d, pIx [.nd (.lst .own) [.str "", .str (sg 47 ++ num q)], .int (if (1 : Int) < q then 1 else 0)] = some (.str d) ∧ pAdd [.str (num p), .str d] = some (.str (wr p q)) := by
  by_cases h : q = 1
  · subst h
    refine ⟨"", by simp, ?_⟩
    rw [addS (num_okS hp) (lit_ok "") (by decide), empty_tx, num_tx, tx_app]
    unfold wr
    rw [if_pos rfl]
  · have h1 : (1 : Int) < q := by omega
    refine ⟨sg 47 ++ num q, by simp [h1], ?_⟩
    rw [addS (num_okS hp) (okS_app sl_ok (num_okS hq)) (by decide), num_tx, num_tx, sg_tx, tx_app, tx_app]
    unfold wr
    rw [if_neg h]
    rfl
theorem bent_eq {s : Str} {k : Nat} (o : OkS s k) (hk : k ≤ 1000) {n : Int} (hn : 0 ≤ n) : ∃ t, m__law_bent [.str s, .int n] = .ok (.str t) ∧ OkS t 3000 := by
  have h : s.length ≤ 16777216 := by have := o.len; omega
  have hpos : (0 : Int) < s.length + 1 := by omega
  have zl : (Str.ofString "0123456789/- a.+").length = 16 := by decide +kernel
  obtain ⟨w, ew, ow⟩ := at_str (z := "0123456789/- a.+") (okS_of (by decide +kernel) (by decide +kernel)) (k := n / 100 % 16) (by omega) (by rw [zl]; omega)
  have hs : ∀ lo hi, pSl (.str s) lo hi = some (.str (cutS s lo hi)) := fun lo hi => slS h
  have oc : ∀ lo hi, OkS (cutS s lo hi) 1000 := fun lo hi => (okS_cut o lo hi).mono hk
  have a1 : ∀ a b c d, pAdd [.str (cutS s a b), .str (cutS s c d)] = some (.str (cutS s a b ++ cutS s c d)) := fun a b c d => addS (oc a b) (oc c d) (by decide)
  have a2 : ∀ a b, pAdd [.str (cutS s a b), .str w] = some (.str (cutS s a b ++ w)) := fun a b => addS (oc a b) ow (by decide)
  have a3 : ∀ a b c d, pAdd [.str (cutS s a b ++ w), .str (cutS s c d)] = some (.str (cutS s a b ++ w ++ cutS s c d)) := fun a b c d => addS (okS_app (oc a b) ow) (oc c d) (by decide)
  unfold m__law_bent g__law_bent
  by_cases h3 : n % 3 = 1
  · refine ⟨cutS s none (some (n / 3 % (s.length + 1))) ++ cutS s (some (n / 3 % (s.length + 1) + 1)) none, ?_, (okS_app (oc _ _) (oc _ _)).mono (by decide)⟩
    simp (decide := true) [h, hpos, ew, hs, h3, a1]
  · refine ⟨cutS s none (some (n / 3 % (s.length + 1))) ++ w ++ cutS s (some (n / 3 % (s.length + 1) + (if n % 3 = 2 then 1 else 0))) none, ?_, (okS_app (okS_app (oc _ _) ow) (oc _ _)).mono (by decide)⟩
    by_cases h4 : n % 3 = 2 <;> simp (decide := true) [h, hpos, ew, hs, h3, h4, a2, a3]
end OB

namespace OB
open PySem PySem.Spec PyProof.Rows L2 PySem.NumText PySem.StrLaws Builtin.Str
def oddsD (g f : Fl) (c : Int) : List D := [.non, .bl true, .int 5, .str "1/2", .nd (.lst g) [.int 1, .int 2], .nd .tup [.int 1], .nd .tup [.int 1, .int 2, .int 3], ratD 2 4, ratD 0 2, ratD 1 0, ratD 1 (-2), .nd .tup [.bl true, .int 2], .nd .tup [.int 1, .bl true],
  .nd .tup [.str "1", .int 2], .nd .tup [.non, .int 1], .nd (.dct f []) [], .nd .tup [.nd (.lst f) [.int 1], .int 2], ratD 0 0, ratD (-6) 4, ratD (c % 1000 * 2) 2]
theorem odds_map (c : Int) : (oddsD .tmp .own c).map (mapF Fl.tmpFrz) = oddsD .frz .frz c := by
  unfold oddsD
  simp
theorem odd_eq {c n : Int} (hn : 0 ≤ n) : ∃ d ∈ oddsD .frz .frz c, m__law_odd [.int c, .int n] = .ok d := by
  obtain ⟨d, hd, e⟩ := at_lst (f := .own) (ds := oddsD .tmp .own c) (k := n % 20) (by omega) (by unfold oddsD; simp; omega)
  refine ⟨mapF Fl.tmpFrz d, by rw [← odds_map]; exact List.mem_map_of_mem hd, ?_⟩
  unfold m__law_odd g__law_odd
  unfold oddsD at e
  simp (decide := true) [pAdd, sizeLine, e]
theorem even_gcd (k : Int) : Int.gcd (k * 2) 2 ≠ 1 := by
  have h : (2 : Nat) ∣ Int.gcd (k * 2) 2 := by
    refine Nat.dvd_gcd ?_ ?_
    · rw [Int.natAbs_mul]; exact Nat.dvd_mul_left _ _
    · exact Nat.dvd_refl _
  intro e
  rw [e] at h
  omega
theorem odd_no {c : Int} {d : D} (hd : d ∈ oddsD .frz .frz c) : m_is_ratio [d] = .ok (.bl false) ∧ (∀ l, m_is_amount [d, .int l] = .ok (.bl false)) ∧ noT d = true ∧ mapF Fl.toArg d = d ∧ mapF Fl.toTmp d = d ∧ noB d = true := by
  have w1 : m_is_whole [.bl true] = .ok (.bl false) := by unfold m_is_whole g_is_whole; simp [isiD, tyN, nbTy]
  have w2 : m_is_whole [.str "1"] = .ok (.bl false) := by unfold m_is_whole g_is_whole; simp [isiD, tyN, nbTy]
  have w3 : m_is_whole [.non] = .ok (.bl false) := by unfold m_is_whole g_is_whole; simp [isiD, tyN, nbTy]
  have w4 : ∀ f, m_is_whole [.nd (.lst f) [.int 1]] = .ok (.bl false) := fun f => by unfold m_is_whole g_is_whole; simp [isiD, tyN, nbTy]
  have w5 : ∀ i : Int, m_is_whole [.int i] = .ok (.bl true) := fun i => is_whole_int
  have key : m_is_ratio [d] = .ok (.bl false) ∧ noT d = true ∧ mapF Fl.toArg d = d ∧ mapF Fl.toTmp d = d ∧ noB d = true := by
    have r1 := is_ratio_eq (a := 2) (b := 4)
    have r2 := is_ratio_eq (a := 0) (b := 2)
    have r3 := is_ratio_eq (a := 1) (b := 0)
    have r4 := is_ratio_eq (a := 1) (b := -2)
    have r5 := is_ratio_eq (a := 0) (b := 0)
    have r6 := is_ratio_eq (a := -6) (b := 4)
    have r7 := is_ratio_eq (a := c % 1000 * 2) (b := 2)
    rw [decide_eq_false (even_gcd _), Bool.and_false] at r7
    unfold oddsD at hd
    simp only [List.mem_cons, List.not_mem_nil, or_false] at hd
    rcases hd with rfl | rfl | rfl | rfl | rfl | rfl | rfl | rfl | rfl | rfl | rfl | rfl | rfl | rfl | rfl | rfl | rfl | rfl | rfl | rfl
    all_goals refine ⟨?_, by simp, by simp, by simp, by simp⟩
    all_goals first
      | exact r1 | exact r2 | exact r3 | exact r4 | exact r5 | exact r6 | exact r7
      | (unfold m_is_ratio g_is_ratio; simp [isiD, tyN, nbTy, w1, w2, w3, w4, w5]; done)
  obtain ⟨k1, k2, k3, k4, k5⟩ := key
  refine ⟨k1, fun l => ?_, k2, k3, k4, k5⟩
  unfold m_is_amount g_is_amount
  simp [k1, k3, k4]
end OB

namespace OB
open PySem PySem.Spec PyProof.Rows L2 PySem.NumText PySem.StrLaws Builtin.Str
theorem edge_ok {k : Int} (h0 : 0 ≤ k) (h1 : k < 6) : ∃ p q : Int, pIx [.nd (.lst .own) [ratD 1000000000000 1, ratD 1000000000001 1, ratD 1 1000000, ratD 1 1000001, ratD (-1) 1, ratD 0 1], .int k] = some (ratD p q) ∧ Rt p q 100 := by
  obtain ⟨d, hd, e⟩ := at_lst (f := .own) (ds := [ratD 1000000000000 1, ratD 1000000000001 1, ratD 1 1000000, ratD 1 1000001, ratD (-1) 1, ratD 0 1]) h0 (by simpa using h1)
  simp only [List.mem_cons, List.not_mem_nil, or_false] at hd
  rcases hd with rfl | rfl | rfl | rfl | rfl | rfl
  all_goals exact ⟨_, _, e, by decide, by decide, ⟨by decide⟩, ⟨by decide⟩⟩
theorem looked_loop {x0 x1 x2 x3 x4 x5 x6 x7 x10 x11 x12 x13 x14 x15 x18 : Option D} {a b c d p q l : Int} (h1 : Rt a b 100) (h2 : Rt c d 100) (h3 : Rt p q 100) :
    ∃ y, lp_law_1 [x0, x1, x2, x3, x4, x5, x6, x7, some (.int l), some (ratD p q), x10, x11, x12, x13, x14, x15, some (ratD a b), some (ratD c d), x18] = some (.nx, [x0, x1, x2, x3, x4, x5, x6, x7, some (.int l), some (ratD p q), y, x11, x12, x13, x14, x15, some (ratD a b), some (ratD c d), x18]) := by
  have e1 := looked_eq h1 l
  have e2 := looked_eq h2 l
  have e3 := looked_eq h3 l
  refine ⟨some (ratD p q), ?_⟩
  unfold lp_law_1 lb_law_1 sFor
  simp [forL, e1, e2, e3]
theorem draw_at {c k j : Int} (hk : 0 ≤ k ∧ k ≤ 1000) (hj : 0 ≤ j ∧ j ≤ 1000) : ∃ n, m__law_draw [.int c, .int k, .int j] = .ok (.int n) ∧ 0 ≤ n ∧ n < 1073741824 := by
  haveI : Bd k 20 := bd_range (c := 1000) (by omega) (by decide)
  haveI : Bd j 20 := bd_range (c := 1000) (by omega) (by decide)
  exact ⟨dr c k j, draw_eq, dr_range c k j⟩
abbrev En18 (s : Option D) (x1 x2 x3 x4 x5 x6 x7 x8 x9 x10 x11 x12 x13 x14 x15 x16 x17 : Option D) : En := [s, x1, x2, x3, x4, x5, x6, x7, x8, x9, x10, x11, x12, x13, x14, x15, x16, x17, none]
theorem gcd_one (a : Int) : Int.gcd a 1 = 1 := by simp
theorem readD_cases {s : Str} : readD s = .non ∨ ∃ a b, readD s = ratD a b := by
  unfold readD
  dsimp only
  split
  · split
    · exact .inr ⟨_, _, rfl⟩
    · exact .inl rfl
  · split
    · split
      · exact .inr ⟨_, _, rfl⟩
      · exact .inl rfl
    · exact .inl rfl
theorem told_ok {s : Str} : pNe [readD s, readD s] = some (.bl false) ∧ ((∃ a b, readD s = ratD a b ∧ m__law_is_ratio [readD s, readD s] = .ok (.bl true)) ∨ readD s = .non) := by
  rcases readD_cases (s := s) with h | ⟨a, b, h⟩
  · rw [h]; exact ⟨rfl, .inr rfl⟩
  · rw [h]; exact ⟨by simp, .inl ⟨a, b, rfl, law_is_ratio_eq⟩⟩
theorem body_eq {s x1 x2 x5 x6 x7 x8 x9 x10 x11 x12 x13 x14 x15 x16 x17 : Option D} {c : Int} {k : Nat} (hk : k ≤ 100) : ∃ y1 y5 y6 y7 y8 y9 y10 y11 y12 y13 y14 y15 y16 y17,
    lb_law_2 (En18 s x1 x2 (some (.int k)) (some (.int c)) x5 x6 x7 x8 x9 x10 x11 x12 x13 x14 x15 x16 x17) = some (.nx, En18 s y1 x2 (some (.int k)) (some (.int c)) y5 y6 y7 y8 y9 y10 y11 y12 y13 y14 y15 y16 y17) := by
  obtain ⟨n, e0, n0, n1⟩ := draw_at (c := c) (k := k) (j := 2) (by omega) (by decide)
  obtain ⟨p1, q1, e1, r1⟩ := drawn_eq (c := c) (a := k) (b := 3) (by omega) (by decide)
  obtain ⟨p2, q2, e2, r2⟩ := drawn_eq (c := c) (a := k) (b := 4) (by omega) (by decide)
  have k1 := reckoned_eq r1 r2
  have k2 := reckoned_eq r1 r1
  obtain ⟨b, hb, eb⟩ := pick_int (f := .own) (vs := [1 + n / 5 % 1000, 0 - (1 + n / 5 % 1000)]) (k := n % 2) (by omega) (by simp; omega)
  have hb0 : b ≠ 0 ∧ -1000 ≤ b ∧ b ≤ 1000 := by
    simp at hb
    omega
  haveI : Bd b 20 := bd_range (c := 1000) (by omega) (by decide)
  obtain ⟨top, ht⟩ : ∃ t : Int, t = c % 10000000000000000000000000000000000000000 - 5000000000000000000000000000000000000000 := ⟨_, rfl⟩
  haveI : Bd top 200 := bd_range (c := 10000000000000000000000000000000000000000) (by omega) (by decide)
  have f1 := ratio_eq (a := top) (b := b) hb0.1
  have f2 := lowest_eq (a := top) (b := b) hb0.1
  have f3 := ratio_eq (a := top) (b := 1) (by decide)
  obtain ⟨g1, g2⟩ := lo_id (a := top) (b := 1) (by decide) (gcd_one top)
  rw [g1, g2] at f3
  have i1 := law_is_ratio_eq (a := loN top b) (b := loD top b)
  have i2 := law_is_ratio_eq (a := top) (b := 1)
  obtain ⟨p3, q3, e3, r3⟩ := edge_ok (k := n / 6 % 6) (by omega) (by omega)
  obtain ⟨pn, hpn⟩ : ∃ m : Nat, m = p1.natAbs := ⟨_, rfl⟩
  obtain ⟨qn, hqn⟩ : ∃ m : Nat, q1 = m := ⟨q1.toNat, by have := r1.pos; omega⟩
  have hp2 : pn < 2 ^ 110 := by have := (r1.ba.mono (show 100 ≤ 110 by decide)).lt; omega
  have hq2 : qn < 2 ^ 110 := by have := (r1.bb.mono (show 100 ≤ 110 by decide)).lt; omega
  have hq0 : 0 < qn := by have := r1.pos; omega
  have hg : Nat.gcd pn qn = 1 := by
    have := r1.gcd
    rw [hqn] at this
    rw [hpn]; exact this
  have t1 := ratio_text_eq hp2 hq2
  have t2 := str_num (m := pn) (Nat.lt_of_lt_of_le hp2 (Nat.pow_le_pow_right (by decide) (by decide)))
  have t3 := str_num (m := qn) (Nat.lt_of_lt_of_le hq2 (Nat.pow_le_pow_right (by decide) (by decide)))
  have t4 := addS sl_ok (num_okS hq2) (by decide)
  obtain ⟨dt, t5, t6⟩ := law_text hq0 hp2 hq2
  have ow := wr_ok hp2 hq2
  have t7 := ratio_of_eq (s := wr pn qn) (Nat.le_trans ow.len (by decide))
  rw [readD_wr hq0 hg hp2 hq2] at t7
  have i3 := law_is_ratio_eq (a := pn) (b := qn)
  obtain ⟨u, u1, ou⟩ := bent_eq ow (by decide) (n := n / 40) (by omega)
  have u2 := law_read_eq (by decide) ou
  have u3 := ratio_of_eq (s := u) (Nat.le_trans ou.len (by decide))
  obtain ⟨od, hod, o1⟩ := odd_eq (c := c) (n := n / 7) (by omega)
  obtain ⟨o2, o3, o4, o5, o6, o7⟩ := odd_no hod
  obtain ⟨v1, v2⟩ := told_ok (s := u)
  subst hqn
  have hl := fun x0 x1 x2 x3 x4 x5 x6 x7 x10 x11 x12 x13 x14 x15 x18 => looked_loop (x0 := x0) (x1 := x1) (x2 := x2) (x3 := x3) (x4 := x4) (x5 := x5) (x6 := x6) (x7 := x7) (x10 := x10) (x11 := x11) (x12 := x12) (x13 := x13) (x14 := x14) (x15 := x15) (x18 := x18) (l := n / 3 % 2) r1 r2 r3
  obtain ⟨y, hy⟩ := hl s x1 x2 (some (.int k)) (some (.int c)) (some (.int n)) (some (.int top)) (some (.int b)) x10 x11 x12 x13 x14 x15 none
  have tb : noT (readD u) = true ∧ mapF Fl.toArg (readD u) = readD u ∧ mapF Fl.toTmp (readD u) = readD u ∧ noB (readD u) = true ∧ (pIsN [readD u, .non] = some (.bl true) ∧ m__law_is_ratio [readD u, readD u] = .ok (.bl true) ∨ pIsN [readD u, .non] = some (.bl false)) := by
    rcases v2 with ⟨a, b, h, h2⟩ | h
    · rw [h] at h2 ⊢; exact ⟨by simp, by simp, by simp, by simp, .inl ⟨by simp, h2⟩⟩
    · rw [h]; exact ⟨by simp, by simp, by simp, by simp, .inr (by simp)⟩
  obtain ⟨w1, w2, w3, w4, w5⟩ := tb
  generalize readD u = rd at *
  refine ⟨some od, some (.int n), some (.int top), some (.int b), some (.int (n / 3 % 2)), some (ratD p3 q3), y, some (ratD pn qn), some (.str (wr pn qn)), some (.str u), some rd, some rd, some (ratD p1 qn), some (ratD p2 q2), ?_⟩
  unfold lb_law_2
  rw [sSeq_nx (ρ1 := En18 s x1 x2 (some (.int k)) (some (.int c)) (some (.int n)) x6 x7 x8 x9 x10 x11 x12 x13 x14 x15 x16 x17) (by unfold st_law_1; simp [e0])]
  rw [sSeq_nx (ρ1 := En18 s x1 x2 (some (.int k)) (some (.int c)) (some (.int n)) x6 x7 x8 x9 x10 x11 x12 x13 x14 x15 (some (ratD p1 qn)) (some (ratD p2 q2))) (by unfold st_law_2; simp [e1, e2])]
  rw [sSeq_nx (ρ1 := En18 s x1 x2 (some (.int k)) (some (.int c)) (some (.int n)) x6 x7 x8 x9 x10 x11 x12 x13 x14 x15 (some (ratD p1 qn)) (some (ratD p2 q2))) (by unfold st_law_3; simp [k1, k2])]
  rw [sSeq_nx (ρ1 := En18 s x1 x2 (some (.int k)) (some (.int c)) (some (.int n)) (some (.int top)) x7 x8 x9 x10 x11 x12 x13 x14 x15 (some (ratD p1 qn)) (some (ratD p2 q2))) (by unfold st_law_4; simp (decide := true) [ht])]
  rw [sSeq_nx (ρ1 := En18 s x1 x2 (some (.int k)) (some (.int c)) (some (.int n)) (some (.int top)) (some (.int (1 + n / 5 % 1000))) x8 x9 x10 x11 x12 x13 x14 x15 (some (ratD p1 qn)) (some (ratD p2 q2))) (by unfold st_law_5; simp (decide := true))]
  simp at eb
  rw [sSeq_nx (ρ1 := En18 s x1 x2 (some (.int k)) (some (.int c)) (some (.int n)) (some (.int top)) (some (.int b)) x8 x9 x10 x11 x12 x13 x14 x15 (some (ratD p1 qn)) (some (ratD p2 q2))) (by unfold st_law_6; simp (decide := true) [eb])]
  rw [sSeq_nx (ρ1 := En18 s x1 x2 (some (.int k)) (some (.int c)) (some (.int n)) (some (.int top)) (some (.int b)) x8 x9 x10 x11 x12 x13 x14 x15 (some (ratD p1 qn)) (some (ratD p2 q2))) (by unfold st_law_7; simp [f1, f2, i1])]
  rw [sSeq_nx (ρ1 := En18 s x1 x2 (some (.int k)) (some (.int c)) (some (.int n)) (some (.int top)) (some (.int b)) x8 x9 x10 x11 x12 x13 x14 x15 (some (ratD p1 qn)) (some (ratD p2 q2))) (by unfold st_law_8; simp [f3, i2])]
  rw [sSeq_nx (ρ1 := En18 s x1 x2 (some (.int k)) (some (.int c)) (some (.int n)) (some (.int top)) (some (.int b)) (some (.int (n / 3 % 2))) x9 x10 x11 x12 x13 x14 x15 (some (ratD p1 qn)) (some (ratD p2 q2))) (by unfold st_law_9; simp (decide := true))]
  rw [sSeq_nx (ρ1 := En18 s x1 x2 (some (.int k)) (some (.int c)) (some (.int n)) (some (.int top)) (some (.int b)) (some (.int (n / 3 % 2))) (some (ratD p3 q3)) x10 x11 x12 x13 x14 x15 (some (ratD p1 qn)) (some (ratD p2 q2))) (by unfold st_law_10; simp (decide := true) [e3])]
  rw [sSeq_nx hy]
  rw [sSeq_nx (ρ1 := En18 s x1 x2 (some (.int k)) (some (.int c)) (some (.int n)) (some (.int top)) (some (.int b)) (some (.int (n / 3 % 2))) (some (ratD p3 q3)) y (some (ratD pn qn)) x12 x13 x14 x15 (some (ratD p1 qn)) (some (ratD p2 q2))) (by unfold st_law_11; simp [hpn])]
  rw [sSeq_nx (ρ1 := En18 s x1 x2 (some (.int k)) (some (.int c)) (some (.int n)) (some (.int top)) (some (.int b)) (some (.int (n / 3 % 2))) (some (ratD p3 q3)) y (some (ratD pn qn)) (some (.str (wr pn qn))) x13 x14 x15 (some (ratD p1 qn)) (some (ratD p2 q2))) (by
    unfold st_law_12
    rw [slash]
    by_cases hq1' : (1 : Int) < qn
    · rw [if_pos hq1'] at t5
      simp at t5
      rw [← t5] at t6
      simp [-gtI, -Int.natCast_pos, t2, t3, t4, hq1', t6, gt_int]
    · rw [if_neg hq1'] at t5
      simp at t5
      rw [← t5] at t6
      simp [t2, t3, t4, hq1', t6])]
  rw [sSeq_nx (ρ1 := En18 s x1 x2 (some (.int k)) (some (.int c)) (some (.int n)) (some (.int top)) (some (.int b)) (some (.int (n / 3 % 2))) (some (ratD p3 q3)) y (some (ratD pn qn)) (some (.str (wr pn qn))) x13 x14 x15 (some (ratD p1 qn)) (some (ratD p2 q2))) (by unfold st_law_13; simp [t1, t7, i3])]
  rw [sSeq_nx (ρ1 := En18 s x1 x2 (some (.int k)) (some (.int c)) (some (.int n)) (some (.int top)) (some (.int b)) (some (.int (n / 3 % 2))) (some (ratD p3 q3)) y (some (ratD pn qn)) (some (.str (wr pn qn))) (some (.str u)) x14 x15 (some (ratD p1 qn)) (some (ratD p2 q2))) (by unfold st_law_14; simp (decide := true) [u1])]
  rw [sSeq_nx (ρ1 := En18 s x1 x2 (some (.int k)) (some (.int c)) (some (.int n)) (some (.int top)) (some (.int b)) (some (.int (n / 3 % 2))) (some (ratD p3 q3)) y (some (ratD pn qn)) (some (.str (wr pn qn))) (some (.str u)) (some rd) x15 (some (ratD p1 qn)) (some (ratD p2 q2))) (by simp [u2, w1, w4])]
  rw [sSeq_nx (ρ1 := En18 s x1 x2 (some (.int k)) (some (.int c)) (some (.int n)) (some (.int top)) (some (.int b)) (some (.int (n / 3 % 2))) (some (ratD p3 q3)) y (some (ratD pn qn)) (some (.str (wr pn qn))) (some (.str u)) (some rd) (some rd) (some (ratD p1 qn)) (some (ratD p2 q2))) (by simp [u3, w1, w4])]
  rw [sSeq_nx (ρ1 := En18 s x1 x2 (some (.int k)) (some (.int c)) (some (.int n)) (some (.int top)) (some (.int b)) (some (.int (n / 3 % 2))) (some (ratD p3 q3)) y (some (ratD pn qn)) (some (.str (wr pn qn))) (some (.str u)) (some rd) (some rd) (some (ratD p1 qn)) (some (ratD p2 q2))) (by
    unfold st_law_15
    rcases w5 with ⟨w5, w6⟩ | w5
    · simp [v1, w2, w3, w5, w6]
    · simp [v1, w2, w3, w5])]
  rw [sSeq_nx (ρ1 := En18 s (some od) x2 (some (.int k)) (some (.int c)) (some (.int n)) (some (.int top)) (some (.int b)) (some (.int (n / 3 % 2))) (some (ratD p3 q3)) y (some (ratD pn qn)) (some (.str (wr pn qn))) (some (.str u)) (some rd) (some rd) (some (ratD p1 qn)) (some (ratD p2 q2))) (by unfold st_law_16; simp (decide := true) [o1, o4, o7])]
  unfold st_law_17
  simp [o2, o3, o5, o6]
end OB

namespace OB
open PySem PySem.Spec PyProof.Rows L2 PySem.NumText PySem.StrLaws Builtin.Str
theorem map_int_tmp {k : Fl → Fl} {ns : List Int} : (ns.map D.int).map (mapF k) = ns.map D.int := by rw [List.map_map]; rfl
theorem cut_nat {xs : List D} {k : Nat} : cutD xs none (some (k : Int)) = xs.take k := by
  unfold cutD
  rw [HT.sIx_none, HT.sIx_nat]
  simp
theorem sl_lst {f : Fl} {xs : List D} {lo hi : Option Int} : pSl (.nd (.lst f) xs) lo hi = some (.nd (.lst .own) (cutD xs lo hi)) := rfl
theorem cat_lst {f g : Fl} {xs ys : List D} (h : xs.length + ys.length ≤ 16777216) : pAdd [.nd (.lst f) xs, .nd (.lst g) ys] = some (.nd (.lst .own) (xs ++ ys)) := by
  unfold pAdd
  exact if_pos h
theorem walk_eq {ns : List Int} {x1 x2 x3 x4 x5 x6 x7 x8 x9 x10 x11 x12 x13 x14 x15 x16 x17 : Option D} : ∃ y1 y3 y4 y5 y6 y7 y8 y9 y10 y11 y12 y13 y14 y15 y16 y17,
    lp_law_2 (En18 (some (.nd (.lst .bor) (ns.map .int))) x1 x2 x3 x4 x5 x6 x7 x8 x9 x10 x11 x12 x13 x14 x15 x16 x17) = some (.nx, En18 (some (.nd (.lst .bor) (ns.map .int))) y1 x2 y3 y4 y5 y6 y7 y8 y9 y10 y11 y12 y13 y14 y15 y16 y17) := by
  have e0 : itEnum [ePr pAdd [eSl pSl (eVar 0) oNone (oSome (eC (.int 63))), ePr pLst [eC (.int 7)]]] (En18 (some (.nd (.lst .bor) (ns.map .int))) x1 x2 x3 x4 x5 x6 x7 x8 x9 x10 x11 x12 x13 x14 x15 x16 x17) = .ok (enumD ((ns.take 63 ++ [7]).map .int), true) := by
    have ec := cut_nat (xs := ns.map D.int) (k := 63)
    have ea := cat_lst (f := .own) (g := .own) (xs := (ns.take 63).map D.int) (ys := [.int 7]) (by simp; omega)
    rw [← List.map_take] at ec
    simp at ec ea
    unfold itEnum
    simp [sl_lst, ec, ea, map_int_tmp, listOf]
    refine ⟨rfl, fun x hx => ?_⟩
    obtain ⟨z, _, rfl⟩ := List.mem_map.mp (List.mem_of_mem_take hx)
    rfl
  obtain ⟨ρ', e, y1, y3, y4, y5, y6, y7, y8, y9, y10, y11, y12, y13, y14, y15, y16, y17, rfl⟩ := sFor_ok (tg := tgTup [tgName 3, tgName 4]) (b := lb_law_2) e0 (fun j ρ => ∃ y1 y3 y4 y5 y6 y7 y8 y9 y10 y11 y12 y13 y14 y15 y16 y17, ρ = En18 (some (.nd (.lst .bor) (ns.map .int))) y1 x2 y3 y4 y5 y6 y7 y8 y9 y10 y11 y12 y13 y14 y15 y16 y17)
    ⟨x1, x3, x4, x5, x6, x7, x8, x9, x10, x11, x12, x13, x14, x15, x16, x17, rfl⟩ (fun j d ρ hd ⟨y1, y3, y4, y5, y6, y7, y8, y9, y10, y11, y12, y13, y14, y15, y16, y17, hρ⟩ => by
      subst hρ
      obtain ⟨d', hd', rfl⟩ := enumD_get hd
      rw [List.getElem?_map] at hd'
      cases hz : (ns.take 63 ++ [7])[j]? with
      | none => rw [hz] at hd'; cases hd'
      | some z =>
        rw [hz] at hd'
        cases hd'
        have hj : j < (ns.take 63 ++ [7]).length := (List.getElem?_eq_some_iff.mp hz).1
        have hj : j ≤ 100 := by simp at hj; omega
        obtain ⟨z1, z5, z6, z7, z8, z9, z10, z11, z12, z13, z14, z15, z16, z17, e⟩ := body_eq (s := some (.nd (.lst .bor) (ns.map .int))) (x1 := y1) (x2 := x2) (x5 := y5) (x6 := y6) (x7 := y7) (x8 := y8) (x9 := y9) (x10 := y10) (x11 := y11) (x12 := y12) (x13 := y13) (x14 := y14) (x15 := y15) (x16 := y16) (x17 := y17) (c := z) (k := j) hj
        exact ⟨_, _, rfl, e, _, _, _, _, _, _, _, _, _, _, _, _, _, _, _, _, rfl⟩)
  exact ⟨y1, y3, y4, y5, y6, y7, y8, y9, y10, y11, y12, y13, y14, y15, y16, y17, e⟩
theorem numD_long {s : Str} (h : 1000 < s.length) : numD s = .non := by
  unfold numD
  rw [decide_eq_false (p := (s.length : Int) ≤ 1000) (by omega)]
  simp
theorem numD_short {s : Str} (h : s.length = 0) : numD s = .non := by
  unfold numD
  rw [decide_eq_false (p := (1 : Int) ≤ s.length) (by omega)]
  simp
theorem nines {w : Str} {k : Nat} (h : w.length = 1) (hk : 2 ≤ k) (hk2 : k ≤ 10000) (hc : ∀ c ∈ sgs w, c < 0x110000) (h47 : 47 ∉ sgs w) : OkS (rep w k) k ∧ 47 ∉ sgs (rep w k) := by
  have key : ∀ c ∈ sgs (rep w k), c ∈ sgs w := fun c hm => by
    have hm : c ∈ ((List.replicate k w.cps.toList).flatten.toArray).toList := hm
    simp only [List.toList_toArray, List.mem_flatten] at hm
    obtain ⟨l, hl, hm⟩ := hm
    rw [(List.mem_replicate.mp hl).2] at hm
    exact hm
  exact ⟨⟨Nat.le_of_eq (rep_len h), fun c hm => hc c (key c hm)⟩, fun q => h47 (key 47 q)⟩
theorem far_ok : ∃ b : Str, pMul [.str "9", .int 5000] = some (.str b) ∧ b.length = 5000 ∧ OkS b 5000 ∧ 47 ∉ sgs b := by
  have l9 : (Str.ofString "9").length = 1 := by decide +kernel
  have s9 : sgs (Str.ofString "9") = [57] := by decide +kernel
  have m9 := mul_rep (z := "9") (k := 5000) l9 (by decide) (by decide)
  obtain ⟨o9, h9⟩ := nines (w := "9") (k := 5000) l9 (by decide) (by decide) (by rw [s9]; decide) (by rw [s9]; decide)
  exact ⟨_, m9, rep_len (z := "9") (k := 5000) l9, o9, h9⟩
theorem far2_ok {b : Str} (k9 : b.length = 5000) (o9 : OkS b 5000) (h9 : 47 ∉ sgs b) : m_ratio_of [.str b] = .ok .non ∧ m_ratio_of [.str ("1/" ++ b)] = .ok .non ∧ m_ratio_of [.str (b ++ "/7")] = .ok .non := by
  have f1 : m_ratio_of [.str b] = .ok .non := by
    rw [ratio_of_eq (by omega)]
    unfold readD
    rw [part_none h9]
    simp [numD_long (s := b) (by omega)]
  have f2 : m_ratio_of [.str ("1/" ++ b)] = .ok .non := by
    have o2 := okS_app (lit_ok "1/") o9
    rw [ratio_of_eq (Nat.le_trans o2.len (by decide))]
    have eb : ((Str.ofString "1/") ++ b) = tx ([49] ++ 47 :: sgs b) := sgs_inj (by rw [sgs_app, show sgs (Str.ofString "1/") = [49, 47] by decide +kernel]; rfl)
    unfold readD
    rw [eb, part_some (by decide), tx_sgs]
    have hne := sg47_ne
    simp [hne, numD_long (s := b) (by omega)]
  have f3 : m_ratio_of [.str (b ++ "/7")] = .ok .non := by
    have o2 := okS_app o9 (lit_ok "/7")
    rw [ratio_of_eq (Nat.le_trans o2.len (by decide))]
    have eb : (b ++ (Str.ofString "/7")) = tx (sgs b ++ 47 :: [55]) := sgs_inj (by rw [sgs_app, show sgs (Str.ofString "/7") = [47, 55] by decide +kernel]; rfl)
    unfold readD
    rw [eb, part_some h9, tx_sgs]
    have hne := sg47_ne
    simp [hne, numD_long (s := b) (by omega)]
  exact ⟨f1, f2, f3⟩
theorem empty_no : m_ratio_of [.str ""] = .ok .non := by
  rw [ratio_of_eq (by decide), empty_tx]
  unfold readD
  rw [part_none (by decide)]
  have : numD (tx []) = .non := numD_short rfl
  simp [this]
theorem law_is (ns : List Int) (hl : ns.length ≤ 63) (hb : ∀ z ∈ ns, Builtin.Int.intBits z ≤ 1048576) : m_law [.nd (.lst .bor) (ns.map .int)] = .ok (.bl true) := by
  obtain ⟨y1, y3, y4, y5, y6, y7, y8, y9, y10, y11, y12, y13, y14, y15, y16, y17, e⟩ := walk_eq (ns := ns) (x1 := none) (x2 := none) (x3 := none) (x4 := none) (x5 := none) (x6 := none) (x7 := none) (x8 := none) (x9 := none) (x10 := none) (x11 := none) (x12 := none) (x13 := none) (x14 := none) (x15 := none) (x16 := none) (x17 := none)
  -- the odd thing
  have ec : cutD (ns.map D.int) none (some 3) = (ns.map D.int).take 3 := cut_nat (xs := ns.map D.int) (k := 3)
  have es : pSum [.nd (.lst .own) ((ns.map D.int).take 3)] = some (.int (ns.take 3).sum) := by
    rw [← List.map_take]
    have : ∀ l : List Int, intsD (l.map .int) = some l := by
      intro l
      induction l with
      | nil => rfl
      | cons a l ih => rw [List.map_cons, intsD, ih]; rfl
    show (intsD _).map _ = _
    rw [this]; rfl
  obtain ⟨n, e0, n0, n1⟩ := draw_at (c := (ns.take 3).sum) (k := 4) (j := 5) (by decide) (by decide)
  obtain ⟨d, hd, ed⟩ := at_lst (f := .own) (ds := [.non, .int 5, .bl true, .nd (.lst .own) [.str "1"], .nd .tup [.int 1, .int 2], .nd (.dct .own []) []]) (k := n % 6) (by omega) (by simp; omega)
  have hd2 : noT d = true ∧ m_ratio_of [mapF Fl.toArg (mapF Fl.toTmp d)] = .ok .non := by
    simp only [List.mem_cons, List.not_mem_nil, or_false] at hd
    rcases hd with rfl | rfl | rfl | rfl | rfl | rfl
    all_goals refine ⟨by simp, ?_⟩
    all_goals unfold m_ratio_of g_ratio_of st_ratio_of_1
    all_goals simp [isiD, tyN, nbTy]
  obtain ⟨b, m9, k9, o9, h9⟩ := far_ok
  obtain ⟨f1, f2, f3⟩ := far2_ok k9 o9 h9
  have a1 := addS (a := "1/") (b := b) (lit_ok "1/") o9 (by decide)
  have a2 := addS (a := b) (b := "/7") o9 (lit_ok "/7") (by decide)
  have f4 := empty_no
  have e2 : ∀ y16 y17, cp_law_1 (En18 (some (.nd (.lst .bor) (ns.map .int))) (some d) (some (.nd (.lst .own) [.str b, .str ("1/" ++ b), .str (b ++ "/7")])) y3 y4 y5 y6 y7 y8 y9 y10 y11 y12 y13 y14 y15 y16 y17) = .ok (.nd (.lst .own) []) := fun y16 y17 => by
    unfold cp_law_1 cc_law_1
    simp [eComp_eq, compL_cons, f1, f2, f3, sizeLine]
  unfold m_law g_law
  rw [bodyM_eq]
  rw [show initE 19 [.nd (.lst .bor) (ns.map .int)] = En18 (some (.nd (.lst .bor) (ns.map .int))) none none none none none none none none none none none none none none none none none from rfl]
  rw [sSeq_nx e]
  rw [sSeq_nx (ρ1 := En18 (some (.nd (.lst .bor) (ns.map .int))) (some d) none y3 y4 y5 y6 y7 y8 y9 y10 y11 y12 y13 y14 y15 y16 y17) (by
    unfold st_law_18
    simp [sl_lst, map_int_tmp, ec, es, e0, ed, hd2.1])]
  rw [sSeq_nx (ρ1 := En18 (some (.nd (.lst .bor) (ns.map .int))) (some d) (some (.nd (.lst .own) [.str b, .str ("1/" ++ b), .str (b ++ "/7")])) y3 y4 y5 y6 y7 y8 y9 y10 y11 y12 y13 y14 y15 y16 y17) (by
    unfold st_law_19
    simp [m9, a1, a2])]
  rw [sSeq_nx (ρ1 := En18 (some (.nd (.lst .bor) (ns.map .int))) (some d) (some (.nd (.lst .own) [.str b, .str ("1/" ++ b), .str (b ++ "/7")])) y3 y4 y5 y6 y7 y8 y9 y10 y11 y12 y13 y14 y15 y16 y17) (by
    unfold st_law_20
    simp [e2])]
  unfold st_law_21
  simp [hd2.2, f4]
end OB

namespace OB
open PySem PySem.Spec PyProof.Rows L2
def d__law_draw : He.DefD := ⟨("_law_draw", none), "_law_draw", "_law_draw", defArgs s__law_draw, defBody s__law_draw, defScope s__law_draw, [], []⟩
def d__law_lowest : He.DefD := ⟨("_law_lowest", none), "_law_lowest", "_law_lowest", defArgs s__law_lowest, defBody s__law_lowest, defScope s__law_lowest, [], []⟩
def d__law_amount : He.DefD := ⟨("_law_amount", none), "_law_amount", "_law_amount", defArgs s__law_amount, defBody s__law_amount, defScope s__law_amount, [], []⟩
def d__law_sum : He.DefD := ⟨("_law_sum", none), "_law_sum", "_law_sum", defArgs s__law_sum, defBody s__law_sum, defScope s__law_sum, [], []⟩
def d__law_drawn : He.DefD := ⟨("_law_drawn", none), "_law_drawn", "_law_drawn", defArgs s__law_drawn, defBody s__law_drawn, defScope s__law_drawn, [], []⟩
def d__law_is_ratio : He.DefD := ⟨("_law_is_ratio", none), "_law_is_ratio", "_law_is_ratio", defArgs s__law_is_ratio, defBody s__law_is_ratio, defScope s__law_is_ratio, [], []⟩
def d_common : He.DefD := ⟨("common", none), "common", "common", defArgs s_common, defBody s_common, defScope s_common, [], []⟩
def d_ratio : He.DefD := ⟨("ratio", none), "ratio", "ratio", defArgs s_ratio, defBody s_ratio, defScope s_ratio, [(.int 1)], []⟩
def d_plus : He.DefD := ⟨("plus", none), "plus", "plus", defArgs s_plus, defBody s_plus, defScope s_plus, [], []⟩
def d_less : He.DefD := ⟨("less", none), "less", "less", defArgs s_less, defBody s_less, defScope s_less, [], []⟩
def d_times : He.DefD := ⟨("times", none), "times", "times", defArgs s_times, defBody s_times, defScope s_times, [], []⟩
def d_over : He.DefD := ⟨("over", none), "over", "over", defArgs s_over, defBody s_over, defScope s_over, [], []⟩
def d_order_of : He.DefD := ⟨("order_of", none), "order_of", "order_of", defArgs s_order_of, defBody s_order_of, defScope s_order_of, [], []⟩
def d__law_reckoned : He.DefD := ⟨("_law_reckoned", none), "_law_reckoned", "_law_reckoned", defArgs s__law_reckoned, defBody s__law_reckoned, defScope s__law_reckoned, [], []⟩
def d_is_whole : He.DefD := ⟨("is_whole", none), "is_whole", "is_whole", defArgs s_is_whole, defBody s_is_whole, defScope s_is_whole, [], []⟩
def d_is_ratio : He.DefD := ⟨("is_ratio", none), "is_ratio", "is_ratio", defArgs s_is_ratio, defBody s_is_ratio, defScope s_is_ratio, [], []⟩
def d_is_amount : He.DefD := ⟨("is_amount", none), "is_amount", "is_amount", defArgs s_is_amount, defBody s_is_amount, defScope s_is_amount, [], []⟩
def d__law_looked : He.DefD := ⟨("_law_looked", none), "_law_looked", "_law_looked", defArgs s__law_looked, defBody s__law_looked, defScope s__law_looked, [], []⟩
def d_number_text : He.DefD := ⟨("number_text", none), "number_text", "number_text", defArgs s_number_text, defBody s_number_text, defScope s_number_text, [], []⟩
def d_ratio_text : He.DefD := ⟨("ratio_text", none), "ratio_text", "ratio_text", defArgs s_ratio_text, defBody s_ratio_text, defScope s_ratio_text, [], []⟩
def d_are_signs : He.DefD := ⟨("are_signs", none), "are_signs", "are_signs", defArgs s_are_signs, defBody s_are_signs, defScope s_are_signs, [], []⟩
def d_number_of : He.DefD := ⟨("number_of", none), "number_of", "number_of", defArgs s_number_of, defBody s_number_of, defScope s_number_of, [], []⟩
def d_ratio_of : He.DefD := ⟨("ratio_of", none), "ratio_of", "ratio_of", defArgs s_ratio_of, defBody s_ratio_of, defScope s_ratio_of, [], []⟩
def d__law_bent : He.DefD := ⟨("_law_bent", none), "_law_bent", "_law_bent", defArgs s__law_bent, defBody s__law_bent, defScope s__law_bent, [], []⟩
def d__law_figures : He.DefD := ⟨("_law_figures", none), "_law_figures", "_law_figures", defArgs s__law_figures, defBody s__law_figures, defScope s__law_figures, [], []⟩
def d__law_read : He.DefD := ⟨("_law_read", none), "_law_read", "_law_read", defArgs s__law_read, defBody s__law_read, defScope s__law_read, [], []⟩
def d__law_odd : He.DefD := ⟨("_law_odd", none), "_law_odd", "_law_odd", defArgs s__law_odd, defBody s__law_odd, defScope s__law_odd, [], []⟩
def d_law : He.DefD := ⟨("law", none), "law", "law", defArgs s_law, defBody s_law, defScope s_law, [], []⟩
def fnL : List He.DefD := [d__law_draw, d__law_lowest, d__law_amount, d__law_sum, d__law_drawn, d__law_is_ratio, d_common, d_ratio, d_plus, d_less, d_times, d_over, d_order_of, d__law_reckoned, d_is_whole, d_is_ratio, d_is_amount, d__law_looked, d_number_text, d_ratio_text, d_are_signs, d_number_of, d_ratio_of, d__law_bent, d__law_figures, d__law_read, d__law_odd, d_law]
def faL : List He.Fa := [.glo "_law_draw", .glo "_law_lowest", .glo "_law_amount", .glo "_law_sum", .glo "_law_drawn", .glo "_law_is_ratio", .glo "common", .glo "ratio", .glo "plus", .glo "less", .glo "times", .glo "over", .glo "order_of", .glo "_law_reckoned", .glo "is_whole", .glo "is_ratio", .glo "is_amount", .glo "_law_looked", .glo "number_text", .glo "ratio_text", .glo "are_signs", .glo "number_of", .glo "ratio_of", .glo "_law_bent", .glo "_law_figures", .glo "_law_read", .glo "_law_odd", .glo "law", .free "abs", .free "isinstance", .free "tuple", .free "bool", .free "int", .free "len", .free "str", .free "all", .free "enumerate", .free "sum", .int "MOST_TOP" 1000000000000, .int "MOST_BOTTOM" 1000000, .int "MOST_FIGURES" 1000, .str "FIGURES" "0123456789"]
abbrev RR : PySem.W.OpenRow := PySem.W.OpenLaw.row PySem.Challenge.rw_larderwise_k02_ratios
abbrev hk : PySem.W.Hook := hookZ 4 faL fnL
def obK (s : PySem.W.SharedT) : He.AlD := obsZ 4 faL fnL (HandSHeadRun.getT s)
theorem obK_eq (s : PySem.W.SharedT) : obK s = hk.obs s.abs := obsZ_eq (HandSHeadRun.getT_eq s)
def looseL : List PySem.Str := ["FIGURES", "MOST_FIGURES", "is_whole", "are_signs", "number_text", "number_of", "MOST_TOP", "MOST_BOTTOM", "common", "ratio", "plus", "less", "times", "over", "order_of", "is_ratio", "is_amount", "ratio_text", "ratio_of", "_law_draw", "_law_lowest", "_law_amount", "_law_sum", "_law_is_ratio", "_law_drawn", "_law_odd", "_law_figures", "_law_read", "_law_bent", "_law_reckoned", "_law_looked"]
theorem runK (w : World) : HandSHeadRun.RunEq RR (PySem.W.view RR.prog [34]) hk obK 1500 looseL w := by
  intro os
  kernel_rfl
theorem factsK {w : World} {K : PySem.W.Frag} {h : Heap} {mg : Str → Option Value} {f : Addr} {cm : Cm} (X : K.In h) (G : h.Ns mainGlobals mg) (hfa : mg ("law" : Str) = some (.ref f)) (cz : SaysZ faL fnL K) :
    ∃ fd : FuncData, (∀ (s : Shared) (v : Value), BindsTo s fd ⟨[v], []⟩ [("_law_script", v)]) ∧ ∀ base : Heap, K.In base → base.Ns mainGlobals mg → FnOk P0 w K mg base (L2.CX P0 w) 5 f fd ["_law_script"] (spP K cm 1 m_law) := by
  have c := cz.c
  have T : Txt K mg := ⟨He.int_ok X G (c.fact 38 rfl), He.int_ok X G (c.fact 39 rfl), He.int_ok X G (c.fact 40 rfl), He.str_ok X G (c.fact 41 rfl), He.free_ok X G (c.fact 28 rfl), He.free_ok X G (c.fact 29 rfl), He.free_ok X G (c.fact 30 rfl), He.free_ok X G (c.fact 31 rfl), He.free_ok X G (c.fact 32 rfl), He.free_ok X G (c.fact 33 rfl), He.free_ok X G (c.fact 34 rfl), He.free_ok X G (c.fact 35 rfl), He.free_ok X G (c.fact 36 rfl), He.free_ok X G (c.fact 37 rfl), cz.dig⟩
  obtain ⟨fd__law_draw, F__law_draw⟩ := c.def_ 0 (d := d__law_draw) rfl
  have U__law_draw : Fun K "_law_draw" "_law_draw" s__law_draw _ fd__law_draw := He5.fun_of (st := s__law_draw) F__law_draw
  obtain ⟨fd__law_lowest, F__law_lowest⟩ := c.def_ 1 (d := d__law_lowest) rfl
  have U__law_lowest : Fun K "_law_lowest" "_law_lowest" s__law_lowest _ fd__law_lowest := He5.fun_of (st := s__law_lowest) F__law_lowest
  obtain ⟨fd__law_amount, F__law_amount⟩ := c.def_ 2 (d := d__law_amount) rfl
  have U__law_amount : Fun K "_law_amount" "_law_amount" s__law_amount _ fd__law_amount := He5.fun_of (st := s__law_amount) F__law_amount
  obtain ⟨fd__law_sum, F__law_sum⟩ := c.def_ 3 (d := d__law_sum) rfl
  have U__law_sum : Fun K "_law_sum" "_law_sum" s__law_sum _ fd__law_sum := He5.fun_of (st := s__law_sum) F__law_sum
  obtain ⟨fd__law_drawn, F__law_drawn⟩ := c.def_ 4 (d := d__law_drawn) rfl
  have U__law_drawn : Fun K "_law_drawn" "_law_drawn" s__law_drawn _ fd__law_drawn := He5.fun_of (st := s__law_drawn) F__law_drawn
  obtain ⟨fd__law_is_ratio, F__law_is_ratio⟩ := c.def_ 5 (d := d__law_is_ratio) rfl
  have U__law_is_ratio : Fun K "_law_is_ratio" "_law_is_ratio" s__law_is_ratio _ fd__law_is_ratio := He5.fun_of (st := s__law_is_ratio) F__law_is_ratio
  obtain ⟨fd_common, F_common⟩ := c.def_ 6 (d := d_common) rfl
  have U_common : Fun K "common" "common" s_common _ fd_common := He5.fun_of (st := s_common) F_common
  obtain ⟨fd_ratio, F_ratio⟩ := c.def_ 7 (d := d_ratio) rfl
  have U_ratio := F_ratio
  obtain ⟨fd_plus, F_plus⟩ := c.def_ 8 (d := d_plus) rfl
  have U_plus : Fun K "plus" "plus" s_plus _ fd_plus := He5.fun_of (st := s_plus) F_plus
  obtain ⟨fd_less, F_less⟩ := c.def_ 9 (d := d_less) rfl
  have U_less : Fun K "less" "less" s_less _ fd_less := He5.fun_of (st := s_less) F_less
  obtain ⟨fd_times, F_times⟩ := c.def_ 10 (d := d_times) rfl
  have U_times : Fun K "times" "times" s_times _ fd_times := He5.fun_of (st := s_times) F_times
  obtain ⟨fd_over, F_over⟩ := c.def_ 11 (d := d_over) rfl
  have U_over : Fun K "over" "over" s_over _ fd_over := He5.fun_of (st := s_over) F_over
  obtain ⟨fd_order_of, F_order_of⟩ := c.def_ 12 (d := d_order_of) rfl
  have U_order_of : Fun K "order_of" "order_of" s_order_of _ fd_order_of := He5.fun_of (st := s_order_of) F_order_of
  obtain ⟨fd__law_reckoned, F__law_reckoned⟩ := c.def_ 13 (d := d__law_reckoned) rfl
  have U__law_reckoned : Fun K "_law_reckoned" "_law_reckoned" s__law_reckoned _ fd__law_reckoned := He5.fun_of (st := s__law_reckoned) F__law_reckoned
  obtain ⟨fd_is_whole, F_is_whole⟩ := c.def_ 14 (d := d_is_whole) rfl
  have U_is_whole : Fun K "is_whole" "is_whole" s_is_whole _ fd_is_whole := He5.fun_of (st := s_is_whole) F_is_whole
  obtain ⟨fd_is_ratio, F_is_ratio⟩ := c.def_ 15 (d := d_is_ratio) rfl
  have U_is_ratio : Fun K "is_ratio" "is_ratio" s_is_ratio _ fd_is_ratio := He5.fun_of (st := s_is_ratio) F_is_ratio
  obtain ⟨fd_is_amount, F_is_amount⟩ := c.def_ 16 (d := d_is_amount) rfl
  have U_is_amount : Fun K "is_amount" "is_amount" s_is_amount _ fd_is_amount := He5.fun_of (st := s_is_amount) F_is_amount
  obtain ⟨fd__law_looked, F__law_looked⟩ := c.def_ 17 (d := d__law_looked) rfl
  have U__law_looked : Fun K "_law_looked" "_law_looked" s__law_looked _ fd__law_looked := He5.fun_of (st := s__law_looked) F__law_looked
  obtain ⟨fd_number_text, F_number_text⟩ := c.def_ 18 (d := d_number_text) rfl
  have U_number_text : Fun K "number_text" "number_text" s_number_text _ fd_number_text := He5.fun_of (st := s_number_text) F_number_text
  obtain ⟨fd_ratio_text, F_ratio_text⟩ := c.def_ 19 (d := d_ratio_text) rfl
  have U_ratio_text : Fun K "ratio_text" "ratio_text" s_ratio_text _ fd_ratio_text := He5.fun_of (st := s_ratio_text) F_ratio_text
  obtain ⟨fd_are_signs, F_are_signs⟩ := c.def_ 20 (d := d_are_signs) rfl
  have U_are_signs : Fun K "are_signs" "are_signs" s_are_signs _ fd_are_signs := He5.fun_of (st := s_are_signs) F_are_signs
  obtain ⟨fd_number_of, F_number_of⟩ := c.def_ 21 (d := d_number_of) rfl
  have U_number_of : Fun K "number_of" "number_of" s_number_of _ fd_number_of := He5.fun_of (st := s_number_of) F_number_of
  obtain ⟨fd_ratio_of, F_ratio_of⟩ := c.def_ 22 (d := d_ratio_of) rfl
  have U_ratio_of : Fun K "ratio_of" "ratio_of" s_ratio_of _ fd_ratio_of := He5.fun_of (st := s_ratio_of) F_ratio_of
  obtain ⟨fd__law_bent, F__law_bent⟩ := c.def_ 23 (d := d__law_bent) rfl
  have U__law_bent : Fun K "_law_bent" "_law_bent" s__law_bent _ fd__law_bent := He5.fun_of (st := s__law_bent) F__law_bent
  obtain ⟨fd__law_figures, F__law_figures⟩ := c.def_ 24 (d := d__law_figures) rfl
  have U__law_figures : Fun K "_law_figures" "_law_figures" s__law_figures _ fd__law_figures := He5.fun_of (st := s__law_figures) F__law_figures
  obtain ⟨fd__law_read, F__law_read⟩ := c.def_ 25 (d := d__law_read) rfl
  have U__law_read : Fun K "_law_read" "_law_read" s__law_read _ fd__law_read := He5.fun_of (st := s__law_read) F__law_read
  obtain ⟨fd__law_odd, F__law_odd⟩ := c.def_ 26 (d := d__law_odd) rfl
  have U__law_odd : Fun K "_law_odd" "_law_odd" s__law_odd _ fd__law_odd := He5.fun_of (st := s__law_odd) F__law_odd
  obtain ⟨fd_law, F_law⟩ := c.def_ 27 (d := d_law) rfl
  have U_law : Fun K "law" "law" s_law _ fd_law := He5.fun_of (st := s_law) F_law
  have e := hfa.symm.trans (He.glo_ok X G (c.fact 27 (f := .glo "law") rfl))
  cases e
  have b := FunD.bindsA (ps := ["_law_script"]) F_law fun _ _ _ _ _ _ us hl => match us, hl with | [_], _ => rfl
  refine ⟨fd_law, fun s v => b s [v] rfl, fun base _ _ => ?_⟩
  have G__law_draw : Good P0 w K mg base cm "_law_draw" 3 1 m__law_draw := ⟨_, fd__law_draw, ["_law_cell", "_law_k", "_law_j"], He.glo_ok X G (c.fact 0 rfl), F__law_draw.kp, (FunD.bindsN F__law_draw fun _ _ _ _ _ _ us hl => match us, hl with | [_, _, _], _ => rfl), ok__law_draw T U__law_draw⟩
  have G__law_lowest : Good P0 w K mg base cm "_law_lowest" 2 1 m__law_lowest := ⟨_, fd__law_lowest, ["_law_top", "_law_bottom"], He.glo_ok X G (c.fact 1 rfl), F__law_lowest.kp, (FunD.bindsN F__law_lowest fun _ _ _ _ _ _ us hl => match us, hl with | [_, _], _ => rfl), ok__law_lowest T U__law_lowest⟩
  have G__law_amount : Good P0 w K mg base cm "_law_amount" 3 2 m__law_amount := ⟨_, fd__law_amount, ["_law_cell", "_law_k", "_law_j"], He.glo_ok X G (c.fact 2 rfl), F__law_amount.kp, (FunD.bindsN F__law_amount fun _ _ _ _ _ _ us hl => match us, hl with | [_, _, _], _ => rfl), ok__law_amount T U__law_amount G__law_draw G__law_lowest⟩
  have G__law_sum : Good P0 w K mg base cm "_law_sum" 2 2 m__law_sum := ⟨_, fd__law_sum, ["_law_one", "_law_other"], He.glo_ok X G (c.fact 3 rfl), F__law_sum.kp, (FunD.bindsN F__law_sum fun _ _ _ _ _ _ us hl => match us, hl with | [_, _], _ => rfl), ok__law_sum T U__law_sum G__law_lowest⟩
  have G__law_drawn : Good P0 w K mg base cm "_law_drawn" 3 3 m__law_drawn := ⟨_, fd__law_drawn, ["_law_cell", "_law_k", "_law_j"], He.glo_ok X G (c.fact 4 rfl), F__law_drawn.kp, (FunD.bindsN F__law_drawn fun _ _ _ _ _ _ us hl => match us, hl with | [_, _, _], _ => rfl), ok__law_drawn T U__law_drawn G__law_draw G__law_amount G__law_sum⟩
  have G__law_is_ratio : Good P0 w K mg base cm "_law_is_ratio" 2 1 m__law_is_ratio := ⟨_, fd__law_is_ratio, ["_law_found", "_law_due"], He.glo_ok X G (c.fact 5 rfl), F__law_is_ratio.kp, (FunD.bindsN F__law_is_ratio fun _ _ _ _ _ _ us hl => match us, hl with | [_, _], _ => rfl), ok__law_is_ratio T U__law_is_ratio⟩
  have G_common : Good P0 w K mg base cm "common" 2 1 m_common := ⟨_, fd_common, ["one", "other"], He.glo_ok X G (c.fact 6 rfl), F_common.kp, (FunD.bindsN F_common fun _ _ _ _ _ _ us hl => match us, hl with | [_, _], _ => rfl), ok_common T U_common⟩
  have Gd_ratio_0 : GoodD P0 w K mg base cm "ratio" 2 2 m_ratio [] := by
    obtain ⟨ds, hv, hb⟩ := FunD.binds1 (ps := ["n", "d"]) F_ratio 2 1 (List.cons_ne_nil _ _) (by rfl) fun _ _ _ _ _ _ _ us its hu hi => match us, its, hu, hi with | [_, _], [_], _, _ => ⟨_, rfl, rfl⟩
    exact ⟨_, fd_ratio, ["n", "d"], ds, He.glo_ok X G (c.fact 7 rfl), F_ratio.kp, hb, hv, ok_ratio T U_ratio G_common⟩
  have Gd_ratio_1 : GoodD P0 w K mg base cm "ratio" 2 2 m_ratio [(.int 1)] := by
    obtain ⟨ds, hv, hb⟩ := FunD.binds1 (ps := ["n", "d"]) F_ratio 1 0 (List.cons_ne_nil _ _) (by rfl) fun _ _ _ _ _ _ _ us its hu hi => match us, its, hu, hi with | [_], [_], _, _ => ⟨_, rfl, rfl⟩
    exact ⟨_, fd_ratio, ["n", "d"], ds, He.glo_ok X G (c.fact 7 rfl), F_ratio.kp, hb, hv, ok_ratio T U_ratio G_common⟩
  have G_plus : Good P0 w K mg base cm "plus" 2 3 m_plus := ⟨_, fd_plus, ["one", "other"], He.glo_ok X G (c.fact 8 rfl), F_plus.kp, (FunD.bindsN F_plus fun _ _ _ _ _ _ us hl => match us, hl with | [_, _], _ => rfl), ok_plus T U_plus Gd_ratio_0⟩
  have G_less : Good P0 w K mg base cm "less" 2 3 m_less := ⟨_, fd_less, ["one", "other"], He.glo_ok X G (c.fact 9 rfl), F_less.kp, (FunD.bindsN F_less fun _ _ _ _ _ _ us hl => match us, hl with | [_, _], _ => rfl), ok_less T U_less Gd_ratio_0⟩
  have G_times : Good P0 w K mg base cm "times" 2 3 m_times := ⟨_, fd_times, ["one", "other"], He.glo_ok X G (c.fact 10 rfl), F_times.kp, (FunD.bindsN F_times fun _ _ _ _ _ _ us hl => match us, hl with | [_, _], _ => rfl), ok_times T U_times Gd_ratio_0⟩
  have G_over : Good P0 w K mg base cm "over" 2 3 m_over := ⟨_, fd_over, ["one", "other"], He.glo_ok X G (c.fact 11 rfl), F_over.kp, (FunD.bindsN F_over fun _ _ _ _ _ _ us hl => match us, hl with | [_, _], _ => rfl), ok_over T U_over Gd_ratio_0⟩
  have G_order_of : Good P0 w K mg base cm "order_of" 2 1 m_order_of := ⟨_, fd_order_of, ["one", "other"], He.glo_ok X G (c.fact 12 rfl), F_order_of.kp, (FunD.bindsN F_order_of fun _ _ _ _ _ _ us hl => match us, hl with | [_, _], _ => rfl), ok_order_of T U_order_of⟩
  have G__law_reckoned : Good P0 w K mg base cm "_law_reckoned" 2 4 m__law_reckoned := ⟨_, fd__law_reckoned, ["_law_one", "_law_other"], He.glo_ok X G (c.fact 13 rfl), F__law_reckoned.kp, (FunD.bindsN F__law_reckoned fun _ _ _ _ _ _ us hl => match us, hl with | [_, _], _ => rfl), ok__law_reckoned T U__law_reckoned G__law_is_ratio G_plus G__law_sum G_less G_times G__law_lowest G_over G_order_of⟩
  have G_is_whole : Good P0 w K mg base cm "is_whole" 1 1 m_is_whole := ⟨_, fd_is_whole, ["thing"], He.glo_ok X G (c.fact 14 rfl), F_is_whole.kp, (FunD.bindsN F_is_whole fun _ _ _ _ _ _ us hl => match us, hl with | [_], _ => rfl), ok_is_whole T U_is_whole⟩
  have G_is_ratio : Good P0 w K mg base cm "is_ratio" 1 2 m_is_ratio := ⟨_, fd_is_ratio, ["thing"], He.glo_ok X G (c.fact 15 rfl), F_is_ratio.kp, (FunD.bindsN F_is_ratio fun _ _ _ _ _ _ us hl => match us, hl with | [_], _ => rfl), ok_is_ratio T U_is_ratio G_is_whole G_common⟩
  have G_is_amount : Good P0 w K mg base cm "is_amount" 2 3 m_is_amount := ⟨_, fd_is_amount, ["thing", "least"], He.glo_ok X G (c.fact 16 rfl), F_is_amount.kp, (FunD.bindsN F_is_amount fun _ _ _ _ _ _ us hl => match us, hl with | [_, _], _ => rfl), ok_is_amount T U_is_amount G_is_ratio⟩
  have G__law_looked : Good P0 w K mg base cm "_law_looked" 2 4 m__law_looked := ⟨_, fd__law_looked, ["_law_one", "_law_least"], He.glo_ok X G (c.fact 17 rfl), F__law_looked.kp, (FunD.bindsN F__law_looked fun _ _ _ _ _ _ us hl => match us, hl with | [_, _], _ => rfl), ok__law_looked T U__law_looked G_is_amount G_is_ratio⟩
  have G_number_text : Good P0 w K mg base cm "number_text" 1 1 m_number_text := ⟨_, fd_number_text, ["number"], He.glo_ok X G (c.fact 18 rfl), F_number_text.kp, (FunD.bindsN F_number_text fun _ _ _ _ _ _ us hl => match us, hl with | [_], _ => rfl), ok_number_text T U_number_text⟩
  have G_ratio_text : Good P0 w K mg base cm "ratio_text" 1 2 m_ratio_text := ⟨_, fd_ratio_text, ["one"], He.glo_ok X G (c.fact 19 rfl), F_ratio_text.kp, (FunD.bindsN F_ratio_text fun _ _ _ _ _ _ us hl => match us, hl with | [_], _ => rfl), ok_ratio_text T U_ratio_text G_number_text⟩
  have G_are_signs : Good P0 w K mg base cm "are_signs" 2 1 m_are_signs := ⟨_, fd_are_signs, ["text", "signs"], He.glo_ok X G (c.fact 20 rfl), F_are_signs.kp, (FunD.bindsN F_are_signs fun _ _ _ _ _ _ us hl => match us, hl with | [_, _], _ => rfl), ok_are_signs T U_are_signs⟩
  have G_number_of : Good P0 w K mg base cm "number_of" 1 2 m_number_of := ⟨_, fd_number_of, ["word"], He.glo_ok X G (c.fact 21 rfl), F_number_of.kp, (FunD.bindsN F_number_of fun _ _ _ _ _ _ us hl => match us, hl with | [_], _ => rfl), ok_number_of T U_number_of G_are_signs⟩
  have G_ratio_of : Good P0 w K mg base cm "ratio_of" 1 3 m_ratio_of := ⟨_, fd_ratio_of, ["word"], He.glo_ok X G (c.fact 22 rfl), F_ratio_of.kp, (FunD.bindsN F_ratio_of fun _ _ _ _ _ _ us hl => match us, hl with | [_], _ => rfl), ok_ratio_of T U_ratio_of G_number_of G_is_ratio⟩
  have G__law_bent : Good P0 w K mg base cm "_law_bent" 2 1 m__law_bent := ⟨_, fd__law_bent, ["_law_text", "_law_n"], He.glo_ok X G (c.fact 23 rfl), F__law_bent.kp, (FunD.bindsN F__law_bent fun _ _ _ _ _ _ us hl => match us, hl with | [_, _], _ => rfl), ok__law_bent T U__law_bent⟩
  have G__law_figures : Good P0 w K mg base cm "_law_figures" 1 1 m__law_figures := ⟨_, fd__law_figures, ["_law_word"], He.glo_ok X G (c.fact 24 rfl), F__law_figures.kp, (FunD.bindsN F__law_figures fun _ _ _ _ _ _ us hl => match us, hl with | [_], _ => rfl), ok__law_figures T U__law_figures⟩
  have G__law_read : Good P0 w K mg base cm "_law_read" 1 2 m__law_read := ⟨_, fd__law_read, ["_law_word"], He.glo_ok X G (c.fact 25 rfl), F__law_read.kp, (FunD.bindsN F__law_read fun _ _ _ _ _ _ us hl => match us, hl with | [_], _ => rfl), ok__law_read T U__law_read G__law_figures G__law_lowest⟩
  have G__law_odd : Good P0 w K mg base cm "_law_odd" 2 1 m__law_odd := ⟨_, fd__law_odd, ["_law_cell", "_law_n"], He.glo_ok X G (c.fact 26 rfl), F__law_odd.kp, (FunD.bindsN F__law_odd fun _ _ _ _ _ _ us hl => match us, hl with | [_, _], _ => rfl), ok__law_odd T U__law_odd⟩
  exact ok_law T U_law G__law_draw G__law_drawn G__law_reckoned G__law_is_ratio G__law_lowest G__law_looked G_ratio_text G_ratio_of G__law_bent G__law_read G__law_odd G_is_ratio G_is_amount Gd_ratio_0 Gd_ratio_1

end OB
open PySem PySem.W PySem.Calls PyProof.Rows in
theorem PySem.Challenge.cw_larderwise_k02_ratios_holds : PySem.Challenge.rw_larderwise_k02_ratios.Holds := by
  w_on; o_law
  refine HandSHeadRun.head_any (r := OpenLaw.row PySem.Challenge.rw_larderwise_k02_ratios) (q := view (OpenLaw.row PySem.Challenge.rw_larderwise_k02_ratios).prog [34]) (H := OB.hk) (ob := OB.obK) (M := 1500) (loose := OB.looseL) (d := HandSHeadRun.topDef (OpenLaw.row PySem.Challenge.rw_larderwise_k02_ratios).prog 34) (kwd := []) OB.obK_eq
    (by kernel_rfl) (fun s => by kernel_rfl) OB.runK (by kernel_rfl) (by kernel_rfl) (by kernel_rfl) (by rfl) (by first | assumption | decide +kernel) (by decide +kernel) ⟨rfl, rfl, rfl, rfl, rfl, by decide +kernel⟩ ?hw ?hc
  case hw => w_witness2
  case hc =>
    refine OB.walk_ofEB (l := PySem.Challenge.rw_larderwise_k02_ratios) (n := 63) (k := 5) (x := "_law_script") (CX := fun w => L2.CX OB.P0 w) rfl (by decide) (by kernel_rfl) ⟨rfl, by decide, by decide⟩ ?F (fun w => OB.cx_no)
    intro w mg fa h Y G hmg0
    obtain ⟨K, KX, c⟩ := Y
    have hmg : mg ("law" : PySem.Str) = some (.ref fa) := by
      have e : (HandSHeadRun.topDef (OpenLaw.row PySem.Challenge.rw_larderwise_k02_ratios).prog 34).name = ("law" : PySem.Str) := by kernel_rfl
      rw [← e]
      exact hmg0
    obtain ⟨fd, hb, hF⟩ := OB.factsK (w := w) (cm := fun _ => 0) KX G hmg c
    exact ⟨K, fd, OB.spP K (fun _ => 0) 1 OB.m_law, KX, hb, fun H a ns hl hbits _ hS => OB.spP_script c.nol hS (OB.law_is ns hl hbits), hF⟩
