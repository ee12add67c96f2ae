import PyProof.Rows.All
import Wide.All
import OpenK.AllK
import Wide.FinOn
import HandS.ForMost
import HandS.WordsExc
import HandS.TryOnly
import HandS.IsInst
import HandS.StrMore
import HandS.Style
import HandS.Zip
import HandS.CallSlots
import HandS.Rev
import HandS.MapJoin
import HandS.Replace
import PyProof.JoinWalk
import HandS.Head0
import HandS.Head1
import HandS.Head2
import HandS.HeadEnd
import HandS.HeadHook1
import HandS.HeadHook2
import HandS.HeadNt
import HandS.EndBits
import HandS.Defaults
import PySem.Challenge.RW_larderwise_k01_words_and_numbers
set_option Elab.async false
set_option linter.all false
set_option maxRecDepth 100000
set_option maxHeartbeats 4000000
namespace OB
open PySem L2

inductive Fl where
  | own | frz | bor | tmp
  deriving DecidableEq
inductive Kd where
  | tup | lst (f : Fl) | dct (f : Fl) (ks : List Key) | obj (f : Fl) (c : Str) (fs : List Str)
  deriving DecidableEq
inductive D where
  | non | bl (b : Bool) | int (i : Int) | str (s : Str) | nd (k : Kd) (ds : List D)

@[reducible] def D.tup (ds : List D) : D := .nd .tup ds
@[reducible] def D.lst (f : Fl) (ds : List D) : D := .nd (.lst f) ds

/-- an exception: its class, its one field -/
structure XD where
  cls : Str
  fld : Option (Str × D)
inductive Ot (α : Type) where
  | no | ok (a : α) | ex (x : XD)
namespace Ot
def bind {α β : Type} (o : Ot α) (f : α → Ot β) : Ot β := match o with
  | .no => .no
  | .ok a => f a
  | .ex x => .ex x
@[simp] theorem bind_ok {α β : Type} (a : α) (f : α → Ot β) : (Ot.ok a).bind f = f a := rfl
@[simp] theorem bind_no {α β : Type} (f : α → Ot β) : (Ot.no : Ot α).bind f = .no := rfl
@[simp] theorem bind_ex {α β : Type} (x : XD) (f : α → Ot β) : (Ot.ex x : Ot α).bind f = .ex x := rfl
def of {α : Type} (o : Option α) : Ot α := match o with
  | some a => .ok a
  | none => .no
@[simp] theorem of_some {α : Type} (a : α) : Ot.of (some a) = .ok a := rfl
@[simp] theorem of_none {α : Type} : (Ot.of (none : Option α)) = .no := rfl
end Ot

structure Zn where
  f : Addr → Prop
  b : Addr → Prop
  t : Addr → Prop
def Zn.ok (Z : Zn) (a : Addr) : Fl → Prop
  | .own => True
  | .frz => Z.f a
  | .bor => Z.b a
  | .tmp => Z.t a
abbrev Cm := Str → Addr

def Cell (K : PySem.W.Frag) (cm : Cm) (H : Hp) (Z : Zn) (a : Addr) : Kd → List V → Prop
  | .tup, vs => SqT K H a vs
  | .lst f, vs => (f ≠ .bor → H a = some (.lst vs)) ∧ Rd H a (.lst vs) ∧ Z.ok a f
  | .dct f ks, vs => H a = some (.dK (ks.zip vs)) ∧ ks.length = vs.length ∧ Z.ok a f
  | .obj f c fs, vs => (∃ dx, H a = some (.ins (cm c) dx (fs.zip vs))) ∧ fs.length = vs.length ∧ Z.ok a f
def Kd.fl : Kd → Option Fl
  | .tup => none
  | .lst f => some f
  | .dct f _ => some f
  | .obj f _ _ => some f
def Kd.isOwn (k : Kd) : Bool := k.fl == some .own
def ownA (k : Kd) (a : Addr) : List Addr := if k.isOwn then [a] else []

mutual
def Rep (K : PySem.W.Frag) (cm : Cm) (H : Hp) (Z : Zn) : D → V → List Addr → Prop
  | .non, v, F => v = .non ∧ F = []
  | .bl b, v, F => v = .bl b ∧ F = []
  | .int i, v, F => v = .int i ∧ F = []
  | .str s, v, F => v = .str s ∧ F = []
  | .nd k ds, v, F => ∃ a vs Fs, v = .ref a ∧ Cell K cm H Z a k vs ∧ RepL K cm H Z ds vs Fs ∧ F = ownA k a ++ Fs.flatten
def RepL (K : PySem.W.Frag) (cm : Cm) (H : Hp) (Z : Zn) : List D → List V → List (List Addr) → Prop
  | [], vs, Fs => vs = [] ∧ Fs = []
  | d :: ds, vs, Fs => ∃ v vs' F Fs', vs = v :: vs' ∧ Fs = F :: Fs' ∧ Rep K cm H Z d v F ∧ RepL K cm H Z ds vs' Fs'
end

/-! ### flags changed -/
def Kd.mapF (g : Fl → Fl) : Kd → Kd
  | .tup => .tup
  | .lst f => .lst (g f)
  | .dct f ks => .dct (g f) ks
  | .obj f c fs => .obj (g f) c fs
mutual
def mapF (g : Fl → Fl) : D → D
  | .non => .non
  | .bl b => .bl b
  | .int i => .int i
  | .str s => .str s
  | .nd k ds => .nd (k.mapF g) (mapFL g ds)
def mapFL (g : Fl → Fl) : List D → List D
  | [] => []
  | d :: ds => mapF g d :: mapFL g ds
end
theorem mapFL_eq (g : Fl → Fl) : ∀ ds, mapFL g ds = ds.map (mapF g)
  | [] => rfl
  | d :: ds => by rw [mapFL, mapFL_eq g ds]; rfl
mutual
/-- all flags have the property -/
def allF (p : Fl → Bool) : D → Bool
  | .non => true
  | .bl _ => true
  | .int _ => true
  | .str _ => true
  | .nd k ds => (match k.fl with | some f => p f | none => true) && allFL p ds
def allFL (p : Fl → Bool) : List D → Bool
  | [] => true
  | d :: ds => allF p d && allFL p ds
end
theorem allFL_eq (p : Fl → Bool) : ∀ ds, allFL p ds = ds.all (allF p)
  | [] => rfl
  | d :: ds => by rw [allFL, allFL_eq p ds]; rfl

mutual
theorem allF_mapF {p q : Fl → Bool} {g : Fl → Fl} (h : ∀ f, p f = true → q (g f) = true) : ∀ d : D, allF p d = true → allF q (mapF g d) = true
  | .non, _ => rfl
  | .bl _, _ => rfl
  | .int _, _ => rfl
  | .str _, _ => rfl
  | .nd k ds, e => by
    unfold allF at e
    rw [Bool.and_eq_true] at e
    unfold mapF allF
    rw [Bool.and_eq_true]
    refine ⟨?_, allFL_mapF h ds e.2⟩
    cases k with
    | tup => rfl
    | lst f => exact h f e.1
    | dct f ks => exact h f e.1
    | obj f c fs => exact h f e.1
theorem allFL_mapF {p q : Fl → Bool} {g : Fl → Fl} (h : ∀ f, p f = true → q (g f) = true) : ∀ ds : List D, allFL p ds = true → allFL q (mapFL g ds) = true
  | [], _ => rfl
  | d :: ds, e => by
    unfold allFL at e
    rw [Bool.and_eq_true] at e
    unfold mapFL allFL
    rw [Bool.and_eq_true]
    exact ⟨allF_mapF h d e.1, allFL_mapF h ds e.2⟩
end

/-! ### the relation, forms -/
section
variable {K : PySem.W.Frag} {cm : Cm} {H H' : Hp} {Z Z' : Zn}
theorem RepL.len : ∀ {ds : List D} {vs : List V} {Fs : List (List Addr)}, RepL K cm H Z ds vs Fs → vs.length = ds.length ∧ Fs.length = ds.length
  | [], _, _, h => by obtain ⟨rfl, rfl⟩ := h; exact ⟨rfl, rfl⟩
  | _ :: ds, _, _, h => by
    obtain ⟨v, vs', F, Fs', rfl, rfl, _, h2⟩ := h
    obtain ⟨a, b⟩ := RepL.len h2
    exact ⟨by simp [a], by simp [b]⟩
theorem repL_nil : RepL K cm H Z [] [] [] := ⟨rfl, rfl⟩
theorem repL_cons {d : D} {ds : List D} {v : V} {vs : List V} {F : List Addr} {Fs : List (List Addr)} (h : Rep K cm H Z d v F) (hs : RepL K cm H Z ds vs Fs) : RepL K cm H Z (d :: ds) (v :: vs) (F :: Fs) :=
  ⟨v, vs, F, Fs, rfl, rfl, h, hs⟩
theorem RepL.get : ∀ {ds : List D} {vs : List V} {Fs : List (List Addr)} {i : Nat} {d : D}, RepL K cm H Z ds vs Fs → ds[i]? = some d → ∃ v F, vs[i]? = some v ∧ Fs[i]? = some F ∧ Rep K cm H Z d v F
  | [], _, _, i, d, _, e => by simp at e
  | d0 :: ds, _, _, 0, d, h, e => by
    obtain ⟨v, vs', F, Fs', rfl, rfl, h1, h2⟩ := h
    simp at e; subst e
    exact ⟨v, F, rfl, rfl, h1⟩
  | d0 :: ds, _, _, i + 1, d, h, e => by
    obtain ⟨v, vs', F, Fs', rfl, rfl, h1, h2⟩ := h
    obtain ⟨v1, F1, a, b, c⟩ := RepL.get (i := i) (d := d) h2 (by simpa using e)
    exact ⟨v1, F1, by simpa using a, by simpa using b, c⟩
theorem RepL.app : ∀ {ds es : List D} {vs us : List V} {Fs Gs : List (List Addr)}, RepL K cm H Z ds vs Fs → RepL K cm H Z es us Gs → RepL K cm H Z (ds ++ es) (vs ++ us) (Fs ++ Gs)
  | [], _, _, _, _, _, h, g => by obtain ⟨rfl, rfl⟩ := h; exact g
  | d :: ds, _, _, _, _, _, h, g => by
    obtain ⟨v, vs', F, Fs', rfl, rfl, h1, h2⟩ := h
    exact repL_cons h1 (RepL.app h2 g)
theorem RepL.set : ∀ {ds : List D} {vs : List V} {Fs : List (List Addr)} (i : Nat) {d : D} {v : V} {F : List Addr}, RepL K cm H Z ds vs Fs → Rep K cm H Z d v F → RepL K cm H Z (ds.set i d) (vs.set i v) (Fs.set i F)
  | [], _, _, _, _, _, _, h, _ => by obtain ⟨rfl, rfl⟩ := h; exact repL_nil
  | d0 :: ds, _, _, 0, _, _, _, h, g => by
    obtain ⟨v, vs', F, Fs', rfl, rfl, h1, h2⟩ := h
    exact repL_cons g h2
  | d0 :: ds, _, _, i + 1, _, _, _, h, g => by
    obtain ⟨v, vs', F, Fs', rfl, rfl, h1, h2⟩ := h
    exact repL_cons h1 (RepL.set i h2 g)
theorem RepL.take : ∀ {ds : List D} {vs : List V} {Fs : List (List Addr)} (n : Nat), RepL K cm H Z ds vs Fs → RepL K cm H Z (ds.take n) (vs.take n) (Fs.take n)
  | [], _, _, _, h => by obtain ⟨rfl, rfl⟩ := h; simp [RepL]
  | d0 :: ds, _, _, 0, h => by simp [RepL]
  | d0 :: ds, _, _, n + 1, h => by
    obtain ⟨v, vs', F, Fs', rfl, rfl, h1, h2⟩ := h
    exact repL_cons h1 (RepL.take n h2)
theorem RepL.drop : ∀ {ds : List D} {vs : List V} {Fs : List (List Addr)} (n : Nat), RepL K cm H Z ds vs Fs → RepL K cm H Z (ds.drop n) (vs.drop n) (Fs.drop n)
  | [], _, _, _, h => by obtain ⟨rfl, rfl⟩ := h; simp [RepL]
  | d0 :: ds, _, _, 0, h => h
  | d0 :: ds, _, _, n + 1, h => by
    obtain ⟨v, vs', F, Fs', rfl, rfl, h1, h2⟩ := h
    exact RepL.drop n h2

/-! ### moves of the relation -/
/-- what has to hold of each cell -/
def CellMove (K : PySem.W.Frag) (cm : Cm) (H H' : Hp) (Z Z' : Zn) (g : Fl → Fl) (O : Addr → Prop) : Prop :=
  ∀ a k vs, Cell K cm H Z a k vs → (k.isOwn = true → O a) → Cell K cm H' Z' a (k.mapF g) vs
theorem isOwn_mapF {g : Fl → Fl} (hg : g .own = .own) (hg2 : ∀ f, g f = .own → f = .own) (k : Kd) : (k.mapF g).isOwn = k.isOwn := by
  have key : ∀ f : Fl, (some (g f) == some Fl.own) = (some f == some Fl.own) := fun f => by
    by_cases e : f = .own
    · rw [e, hg]
    · have e2 : g f ≠ .own := fun q => e (hg2 f q)
      have a : (some f == some Fl.own) = false := by simpa using e
      have b : (some (g f) == some Fl.own) = false := by simpa using e2
      rw [a, b]
  cases k with
  | tup => rfl
  | lst f => exact key f
  | dct f ks => exact key f
  | obj f c fs => exact key f
mutual
theorem Rep.move {g : Fl → Fl} {O : Addr → Prop} (m : CellMove K cm H H' Z Z' g O) (hg : g .own = .own) (hg2 : ∀ f, g f = .own → f = .own) : ∀ (d : D) {v : V} {F : List Addr}, Rep K cm H Z d v F → (∀ a ∈ F, O a) → Rep K cm H' Z' (mapF g d) v F
  | .non, _, _, h, _ => h
  | .bl _, _, _, h, _ => h
  | .int _, _, _, h, _ => h
  | .str _, _, _, h, _ => h
  | .nd k ds, v, F, h, o => by
    obtain ⟨a, vs, Fs, rfl, hc, hl, rfl⟩ := h
    have hk : (k.mapF g).isOwn = k.isOwn := isOwn_mapF hg hg2 k
    refine ⟨a, vs, Fs, rfl, m a k vs hc fun q => o a ?_, RepL.move m hg hg2 ds hl fun b hb => o b (List.mem_append_right _ hb), ?_⟩
    · unfold ownA; rw [q]; simp
    · unfold ownA; rw [hk]
theorem RepL.move {g : Fl → Fl} {O : Addr → Prop} (m : CellMove K cm H H' Z Z' g O) (hg : g .own = .own) (hg2 : ∀ f, g f = .own → f = .own) : ∀ (ds : List D) {vs : List V} {Fs : List (List Addr)}, RepL K cm H Z ds vs Fs → (∀ a ∈ Fs.flatten, O a) → RepL K cm H' Z' (mapFL g ds) vs Fs
  | [], _, _, h, _ => h
  | d :: ds, vs, Fs, h, o => by
    obtain ⟨v, vs', F, Fs', rfl, rfl, h1, h2⟩ := h
    exact ⟨v, vs', F, Fs', rfl, rfl, Rep.move m hg hg2 d h1 fun b hb => o b (by simp [hb]), RepL.move m hg hg2 ds h2 fun b hb => o b (by rw [List.flatten_cons]; exact List.mem_append_right _ hb)⟩
end
mutual
/-- nothing owned any more -/
theorem Rep.give {g : Fl → Fl} {O : Addr → Prop} (m : CellMove K cm H H' Z Z' g O) (hg : ∀ f, g f ≠ .own) : ∀ (d : D) {v : V} {F : List Addr}, Rep K cm H Z d v F → (∀ a ∈ F, O a) → Rep K cm H' Z' (mapF g d) v []
  | .non, _, _, h, _ => ⟨h.1, rfl⟩
  | .bl _, _, _, h, _ => ⟨h.1, rfl⟩
  | .int _, _, _, h, _ => ⟨h.1, rfl⟩
  | .str _, _, _, h, _ => ⟨h.1, rfl⟩
  | .nd k ds, v, F, h, o => by
    obtain ⟨a, vs, Fs, rfl, hc, hl, rfl⟩ := h
    have hk : (k.mapF g).isOwn = false := by
      cases k with
      | tup => rfl
      | lst f => simp [Kd.mapF, Kd.isOwn, Kd.fl, hg f]
      | dct f ks => simp [Kd.mapF, Kd.isOwn, Kd.fl, hg f]
      | obj f c fs => simp [Kd.mapF, Kd.isOwn, Kd.fl, hg f]
    obtain ⟨Gs, hG, hl'⟩ := RepL.give m hg ds hl fun b hb => o b (List.mem_append_right _ hb)
    refine ⟨a, vs, Gs, rfl, m a k vs hc fun q => o a ?_, hl', ?_⟩
    · unfold ownA; rw [q]; simp
    · unfold ownA; rw [hk, hG]; rfl
theorem RepL.give {g : Fl → Fl} {O : Addr → Prop} (m : CellMove K cm H H' Z Z' g O) (hg : ∀ f, g f ≠ .own) : ∀ (ds : List D) {vs : List V} {Fs : List (List Addr)}, RepL K cm H Z ds vs Fs → (∀ a ∈ Fs.flatten, O a) → ∃ Gs, Gs.flatten = [] ∧ RepL K cm H' Z' (mapFL g ds) vs Gs
  | [], _, _, h, _ => ⟨[], rfl, h.1, rfl⟩
  | d :: ds, vs, Fs, h, o => by
    obtain ⟨v, vs', F, Fs', rfl, rfl, h1, h2⟩ := h
    obtain ⟨Gs, hG, hl'⟩ := RepL.give m hg ds h2 fun b hb => o b (by rw [List.flatten_cons]; exact List.mem_append_right _ hb)
    exact ⟨[] :: Gs, by simpa using hG, repL_cons (Rep.give m hg d h1 fun b hb => o b (by simp [hb])) hl'⟩
end
theorem Kd.mapF_id : ∀ k : Kd, k.mapF id = k
  | .tup => rfl
  | .lst _ => rfl
  | .dct _ _ => rfl
  | .obj _ _ _ => rfl
mutual
theorem mapF_id : ∀ d : D, mapF id d = d
  | .non => rfl
  | .bl _ => rfl
  | .int _ => rfl
  | .str _ => rfl
  | .nd k ds => by rw [mapF, Kd.mapF_id, mapFL_id ds]
theorem mapFL_id : ∀ ds : List D, mapFL id ds = ds
  | [] => rfl
  | d :: ds => by rw [mapFL, mapF_id d, mapFL_id ds]
end
/-- the heap is kept at what d stands on -/
theorem Rep.stay {O : Addr → Prop} (m : CellMove K cm H H' Z Z' id O) {d : D} {v : V} {F : List Addr} (h : Rep K cm H Z d v F) (o : ∀ a ∈ F, O a) : Rep K cm H' Z' d v F := by
  have q := Rep.move m rfl (fun _ e => e) d h o
  rwa [mapF_id] at q
theorem RepL.stay {O : Addr → Prop} (m : CellMove K cm H H' Z Z' id O) {ds : List D} {vs : List V} {Fs : List (List Addr)} (h : RepL K cm H Z ds vs Fs) (o : ∀ a ∈ Fs.flatten, O a) : RepL K cm H' Z' ds vs Fs := by
  have q := RepL.move m rfl (fun _ e => e) ds h o
  rwa [mapFL_id] at q
end

/-! ### the heap only grows -/
def Grow (H H' : Hp) : Prop := ∀ a o, H a = some o → H' a = some o
theorem Grow.refl (H : Hp) : Grow H H := fun _ _ h => h
theorem Grow.trans {H H1 H2 : Hp} (a : Grow H H1) (b : Grow H1 H2) : Grow H H2 := fun x o h => b x o (a x o h)
theorem Grow.new {H : Hp} {p : Addr} {o : HO} (h : H p = none) : Grow H (upd H p o) := fun a u e => by
  rw [upd_ne (ne_of_none e h)]
  exact e
theorem Grow.back {H H' : Hp} {a : Addr} (g : Grow H H') (h : H' a = none) : H a = none := by
  cases e : H a with
  | none => rfl
  | some o => rw [g a o e] at h; cases h
theorem Grow.rd {H H' : Hp} {a : Addr} {u : HO} (g : Grow H H') (h : Rd H a u) : Rd H' a u := by
  rcases h with h | ⟨o, h⟩
  · exact .inl (g _ _ h)
  · exact .inr ⟨o, g _ _ h⟩
theorem Grow.sqL {K : PySem.W.Frag} {H H' : Hp} {a : Addr} {vs : List V} (g : Grow H H') (h : SqL K H a vs) : SqL K H' a vs := by
  rcases h with h | h
  · rcases h with h | ⟨o, h⟩
    · exact .inl (.inl (g _ _ h))
    · exact .inl (.inr ⟨o, g _ _ h⟩)
  · exact .inr h
theorem Grow.sqT {K : PySem.W.Frag} {H H' : Hp} {a : Addr} {vs : List V} (g : Grow H H') (h : SqT K H a vs) : SqT K H' a vs := by
  rcases h with h | h
  · rcases h with h | ⟨o, h⟩
    · exact .inl (.inl (g _ _ h))
    · exact .inl (.inr ⟨o, g _ _ h⟩)
  · exact .inr h
/-- growth, the flags' sets grow -/
structure Ext (H : Hp) (Z : Zn) (H' : Hp) (Z' : Zn) : Prop where
  gr : Grow H H'
  f : ∀ a, Z.f a → Z'.f a
  fn : ∀ a, Z'.f a → Z.f a ∨ H a = none
  fd : ∀ a, Z'.f a → H' a ≠ none
  b : Z'.b = Z.b
  t : Z'.t = Z.t
structure Dom (H : Hp) (Z : Zn) : Prop where
  f : ∀ a, Z.f a → H a ≠ none
  b : ∀ a, Z.b a → H a ≠ none
  t : ∀ a, Z.t a → H a ≠ none
theorem Dom.ext {H H' : Hp} {Z Z' : Zn} (d : Dom H Z) (e : Ext H Z H' Z') : Dom H' Z' := ⟨e.fd, fun a h => by
  rw [e.b] at h
  intro q
  exact d.b a h (e.gr.back q), fun a h => by
  rw [e.t] at h
  intro q
  exact d.t a h (e.gr.back q)⟩
theorem Ext.refl {H : Hp} {Z : Zn} (d : Dom H Z) : Ext H Z H Z := ⟨.refl H, fun _ h => h, fun _ h => .inl h, d.f, rfl, rfl⟩
theorem Ext.trans {H H1 H2 : Hp} {Z Z1 Z2 : Zn} (a : Ext H Z H1 Z1) (b : Ext H1 Z1 H2 Z2) : Ext H Z H2 Z2 :=
  ⟨a.gr.trans b.gr, fun x h => b.f x (a.f x h), fun x h => (b.fn x h).elim (fun q => a.fn x q) fun q => .inr (a.gr.back q), b.fd, b.b.trans a.b, b.t.trans a.t⟩
theorem Ext.grow {H H' : Hp} {Z : Zn} (d : Dom H Z) (g : Grow H H') : Ext H Z H' Z := ⟨g, fun _ h => h, fun _ h => .inl h, fun a h q => d.f a h (g.back q), rfl, rfl⟩
section
variable {K : PySem.W.Frag} {cm : Cm} {H H' : Hp} {Z Z' : Zn}
theorem Zn.ok_mono {a : Addr} (f : ∀ a, Z.f a → Z'.f a) (b : ∀ a, Z.b a → Z'.b a) (t : ∀ a, Z.t a → Z'.t a) : ∀ {x : Fl}, Z.ok a x → Z'.ok a x
  | .own, h => h
  | .frz, h => f a h
  | .bor, h => b a h
  | .tmp, h => t a h
theorem cell_grow (g : Grow H H') (f : ∀ a, Z.f a → Z'.f a) (b : ∀ a, Z.b a → Z'.b a) (t : ∀ a, Z.t a → Z'.t a) : CellMove K cm H H' Z Z' id (fun _ => True) := fun a k vs h _ => by
  cases k with
  | tup => exact g.sqT h
  | lst fl => exact ⟨fun e => g _ _ (h.1 e), g.rd h.2.1, Zn.ok_mono f b t h.2.2⟩
  | dct fl ks => exact ⟨g _ _ h.1, h.2.1, Zn.ok_mono f b t h.2.2⟩
  | obj fl c fs =>
    obtain ⟨⟨dx, e⟩, l, o⟩ := h
    exact ⟨⟨dx, g _ _ e⟩, l, Zn.ok_mono f b t o⟩
theorem Rep.grow {d : D} {v : V} {F : List Addr} (h : Rep K cm H Z d v F) (g : Grow H H') (f : ∀ a, Z.f a → Z'.f a) (b : ∀ a, Z.b a → Z'.b a) (t : ∀ a, Z.t a → Z'.t a) : Rep K cm H' Z' d v F :=
  h.stay (cell_grow g f b t) fun _ _ => trivial
theorem RepL.grow {ds : List D} {vs : List V} {Fs : List (List Addr)} (h : RepL K cm H Z ds vs Fs) (g : Grow H H') (f : ∀ a, Z.f a → Z'.f a) (b : ∀ a, Z.b a → Z'.b a) (t : ∀ a, Z.t a → Z'.t a) : RepL K cm H' Z' ds vs Fs :=
  h.stay (cell_grow g f b t) fun _ _ => trivial
theorem Rep.ext {d : D} {v : V} {F : List Addr} (h : Rep K cm H Z d v F) (e : Ext H Z H' Z') : Rep K cm H' Z' d v F :=
  h.grow e.gr e.f (fun a q => by rw [e.b]; exact q) (fun a q => by rw [e.t]; exact q)
theorem RepL.ext {ds : List D} {vs : List V} {Fs : List (List Addr)} (h : RepL K cm H Z ds vs Fs) (e : Ext H Z H' Z') : RepL K cm H' Z' ds vs Fs :=
  h.grow e.gr e.f (fun a q => by rw [e.b]; exact q) (fun a q => by rw [e.t]; exact q)
/-- flags changed, the heap as it is -/
theorem cell_flag {g : Fl → Fl} {O : Addr → Prop} (hl : ∀ a, O a → ∀ f, f = .own → g f ≠ .own → Z'.ok a (g f)) (ho : ∀ a f, f ≠ .own → Z.ok a f → Z'.ok a (g f)) (hw : ∀ f, g f ≠ .bor → f ≠ .bor) : CellMove K cm H H Z Z' g O := fun a k vs h o => by
  have key : ∀ f : Fl, (f = .own → O a) → Z.ok a f → Z'.ok a (g f) := fun f of ok => by
    by_cases e : f = .own
    · by_cases e2 : g f = .own
      · rw [e2]; trivial
      · exact hl a (of e) f e e2
    · exact ho a f e ok
  cases k with
  | tup => exact h
  | lst fl => exact ⟨fun e => h.1 (hw _ e), h.2.1, key fl (fun e => o (by rw [e]; rfl)) h.2.2⟩
  | dct fl ks => exact ⟨h.1, h.2.1, key fl (fun e => o (by rw [e]; rfl)) h.2.2⟩
  | obj fl c fs => exact ⟨h.1, h.2.1, key fl (fun e => o (by rw [e]; rfl)) h.2.2⟩
end

/-! ### owned things stand, and may be written -/
section
variable {K : PySem.W.Frag} {cm : Cm} {H H' : Hp} {Z Z' : Zn}
mutual
theorem Rep.mut : ∀ (d : D) {v : V} {F : List Addr}, Rep K cm H Z d v F → ∀ a ∈ F, Mut (H a)
  | .non, _, _, h, a, q => by rw [h.2] at q; cases q
  | .bl _, _, _, h, a, q => by rw [h.2] at q; cases q
  | .int _, _, _, h, a, q => by rw [h.2] at q; cases q
  | .str _, _, _, h, a, q => by rw [h.2] at q; cases q
  | .nd k ds, v, F, h, a, q => by
    obtain ⟨p, vs, Fs, rfl, hc, hl, rfl⟩ := h
    rcases List.mem_append.mp q with q | q
    · unfold ownA at q
      cases k with
      | tup => cases q
      | lst f =>
        cases f with
        | own =>
          have e : a = p := by simpa [Kd.isOwn, Kd.fl] using q
          subst e
          rw [hc.1 (by decide)]; trivial
        | _ => cases q
      | dct f ks =>
        cases f with
        | own =>
          have e : a = p := by simpa [Kd.isOwn, Kd.fl] using q
          subst e
          rw [hc.1]; trivial
        | _ => cases q
      | obj f c fs =>
        cases f with
        | own =>
          have e : a = p := by simpa [Kd.isOwn, Kd.fl] using q
          subst e
          obtain ⟨dx, e⟩ := hc.1
          rw [e]; trivial
        | _ => cases q
    · exact RepL.mut ds hl a q
theorem RepL.mut : ∀ (ds : List D) {vs : List V} {Fs : List (List Addr)}, RepL K cm H Z ds vs Fs → ∀ a ∈ Fs.flatten, Mut (H a)
  | [], _, _, h, a, q => by rw [h.2] at q; cases q
  | d :: ds, _, _, h, a, q => by
    obtain ⟨v, vs', F, Fs', rfl, rfl, h1, h2⟩ := h
    rw [List.flatten_cons] at q
    rcases List.mem_append.mp q with q | q
    · exact Rep.mut d h1 a q
    · exact RepL.mut ds h2 a q
end
/-- one object that d doesn't stand on is written -/
theorem cell_upd {p : Addr} {o : HO} (mu : Mut (H p)) (nf : ¬ Z.f p) (nb : ¬ Z.b p) (nt : ¬ Z.t p) : CellMove K cm H (upd H p o) Z Z id (fun a => a ≠ p) := fun a k vs h ho => by
  have nm : ∀ u, Mut (some u) = False → H a = some u → a ≠ p := fun u e q z => by subst z; rw [q, e] at mu; exact mu
  have ne : ∀ fl : Fl, (fl = .own → a ≠ p) → Z.ok a fl → a ≠ p := fun fl h1 h2 z => by
    subst z
    cases fl with
    | own => exact h1 rfl rfl
    | frz => exact nf h2
    | bor => exact nb h2
    | tmp => exact nt h2
  have rd : ∀ u, a ≠ p → Rd H a u → Rd (upd H p o) a u := fun u n r => by
    rcases r with r | ⟨ob, r⟩
    · exact .inl (by rw [upd_ne n]; exact r)
    · exact .inr ⟨ob, by rw [upd_ne n]; exact r⟩
  cases k with
  | tup =>
    rcases h with (h | ⟨ob, h⟩) | h
    · exact .inl (.inl (by rw [upd_ne (nm _ rfl h)]; exact h))
    · exact .inl (.inr ⟨ob, by rw [upd_ne (nm _ rfl h)]; exact h⟩)
    · exact .inr h
  | lst fl =>
    have n := ne fl (fun e => ho (by rw [e]; rfl)) h.2.2
    exact ⟨fun e => by rw [upd_ne n]; exact h.1 e, rd _ n h.2.1, h.2.2⟩
  | dct fl ks =>
    have n := ne fl (fun e => ho (by rw [e]; rfl)) h.2.2
    exact ⟨by rw [upd_ne n]; exact h.1, h.2.1, h.2.2⟩
  | obj fl c fs =>
    have n := ne fl (fun e => ho (by rw [e]; rfl)) h.2.2
    obtain ⟨⟨dx, e⟩, l, q⟩ := h
    exact ⟨⟨dx, by rw [upd_ne n]; exact e⟩, l, q⟩
theorem Rep.upd {p : Addr} {o : HO} {d : D} {v : V} {F : List Addr} (h : Rep K cm H Z d v F) (mu : Mut (H p)) (nF : p ∉ F) (nf : ¬ Z.f p) (nb : ¬ Z.b p) (nt : ¬ Z.t p) : Rep K cm (upd H p o) Z d v F :=
  h.stay (cell_upd mu nf nb nt) fun a ha z => nF (z ▸ ha)
theorem RepL.upd {p : Addr} {o : HO} {ds : List D} {vs : List V} {Fs : List (List Addr)} (h : RepL K cm H Z ds vs Fs) (mu : Mut (H p)) (nF : p ∉ Fs.flatten) (nf : ¬ Z.f p) (nb : ¬ Z.b p) (nt : ¬ Z.t p) : RepL K cm (upd H p o) Z ds vs Fs :=
  h.stay (cell_upd mu nf nb nt) fun a ha z => nF (z ▸ ha)
mutual
theorem Rep.only {pf : Fl → Bool} (hz : ∀ a f, pf f = true → Z.ok a f → Z'.ok a f) : ∀ (d : D) {v : V} {F : List Addr}, Rep K cm H Z d v F → allF pf d = true → Rep K cm H Z' d v F
  | .non, _, _, h, _ => h
  | .bl _, _, _, h, _ => h
  | .int _, _, _, h, _ => h
  | .str _, _, _, h, _ => h
  | .nd k ds, v, F, h, e => by
    obtain ⟨a, vs, Fs, rfl, hc, hl, rfl⟩ := h
    unfold allF at e
    rw [Bool.and_eq_true] at e
    refine ⟨a, vs, Fs, rfl, ?_, RepL.only hz ds hl e.2, rfl⟩
    cases k with
    | tup => exact hc
    | lst f => exact ⟨hc.1, hc.2.1, hz a f e.1 hc.2.2⟩
    | dct f ks => exact ⟨hc.1, hc.2.1, hz a f e.1 hc.2.2⟩
    | obj f c fs => exact ⟨hc.1, hc.2.1, hz a f e.1 hc.2.2⟩
theorem RepL.only {pf : Fl → Bool} (hz : ∀ a f, pf f = true → Z.ok a f → Z'.ok a f) : ∀ (ds : List D) {vs : List V} {Fs : List (List Addr)}, RepL K cm H Z ds vs Fs → allFL pf ds = true → RepL K cm H Z' ds vs Fs
  | [], _, _, h, _ => h
  | d :: ds, _, _, h, e => by
    obtain ⟨v, vs', F, Fs', rfl, rfl, h1, h2⟩ := h
    unfold allFL at e
    rw [Bool.and_eq_true] at e
    exact repL_cons (Rep.only hz d h1 e.1) (RepL.only hz ds h2 e.2)
end
theorem mut_ne {o : Option HO} (h : Mut o) : o ≠ none := fun e => by rw [e] at h; exact h
end
end OB

namespace OB
open PySem PySem.Spec PyProof.Rows L2

abbrev En := List (Option D)
structure RepE (K : PySem.W.Frag) (cm : Cm) (H : Hp) (Z : Zn) (σ : L2.St) (ρ : En) (Fs : List (List Addr)) : Prop where
  lσ : σ.length = ρ.length
  lF : Fs.length = ρ.length
  get : ∀ (i : Nat) (d : D), ρ[i]? = some (some d) → ∃ v F, σ[i]? = some (some v) ∧ Fs[i]? = some F ∧ Rep K cm H Z d v F
structure OkP (K : PySem.W.Frag) (cm : Cm) (H : Hp) (σ : L2.St) (ρ : En) (Fs : List (List Addr)) (Z : Zn) : Prop where
  rep : RepE K cm H Z σ ρ Fs
  dom : Dom H Z
  tm : ∀ a ∈ Fs.flatten, Z.t a
structure Res (K : PySem.W.Frag) (cm : Cm) (H : Hp) (Z : Zn) (H' : Hp) (Z' : Zn) (A : List Addr) (d : D) (v : V) (F : List Addr) : Prop where
  ext : Ext H Z H' Z'
  rep : Rep K cm H' Z' d v F
  nd : F.Nodup
  fr : ∀ a ∈ F, H a = none ∨ a ∈ A
  nf : ∀ a ∈ F, ¬ Z'.f a
structure ResL (K : PySem.W.Frag) (cm : Cm) (H : Hp) (Z : Zn) (H' : Hp) (Z' : Zn) (A : List Addr) (ds : List D) (vs : List V) (Fs : List (List Addr)) : Prop where
  ext : Ext H Z H' Z'
  rep : RepL K cm H' Z' ds vs Fs
  nd : Fs.flatten.Nodup
  fr : ∀ a ∈ Fs.flatten, H a = none ∨ a ∈ A
  nf : ∀ a ∈ Fs.flatten, ¬ Z'.f a
def noB (d : D) : Bool := allF (fun f => f == .own || f == .frz) d
def xB (x : XD) : Bool := match x.fld with
  | none => true
  | some p => noB p.2
def XRep (K : PySem.W.Frag) (cm : Cm) (H : Hp) (Z : Zn) (x : XD) (cls : Value) (dd : Option Addr) : Prop :=
  cls = .ref (cm x.cls) ∧ xB x = true ∧ match x.fld with
    | none => dd = none
    | some (n, d) => ∃ a v, dd = some a ∧ H a = some (.xd [(n, v)]) ∧ Rep K cm H Z d v []

/-- what is asked of an expression's reading -/
def FinD (K : PySem.W.Frag) (cm : Cm) (W : WX) (σ : L2.St) (H : Hp) (Z : Zn) (Q : VK) : Ot D → Prop
  | .no => False
  | .ok d => ∀ v H' Z' F, Res K cm H Z H' Z' [] d v F → Q v H'
  | .ex x => ∀ cls dd H' Z', Ext H Z H' Z' → XRep K cm H' Z' x cls dd → W cls dd σ H'
def FinL (K : PySem.W.Frag) (cm : Cm) (W : WX) (σ : L2.St) (H : Hp) (Z : Zn) (Q : List V → Hp → Prop) : Ot (List D) → Prop
  | .no => False
  | .ok ds => ∀ vs H' Z' Fs, ResL K cm H Z H' Z' [] ds vs Fs → Q vs H'
  | .ex x => ∀ cls dd H' Z', Ext H Z H' Z' → XRep K cm H' Z' x cls dd → W cls dd σ H'
def FinB (K : PySem.W.Frag) (cm : Cm) (W : WX) (σ : L2.St) (H : Hp) (Z : Zn) (Q : Bool → Hp → Prop) : Ot Bool → Prop
  | .no => False
  | .ok b => ∀ H' Z', Ext H Z H' Z' → Q b H'
  | .ex x => ∀ cls dd H' Z', Ext H Z H' Z' → XRep K cm H' Z' x cls dd → W cls dd σ H'
def tP (K : PySem.W.Frag) (cm : Cm) (W : WX) (f : En → Ot D) : TE := fun σ H Q => ∃ Z ρ Fs, OkP K cm H σ ρ Fs Z ∧ FinD K cm W σ H Z Q (f ρ)
def tPL (K : PySem.W.Frag) (cm : Cm) (W : WX) (f : En → Ot (List D)) : TA := fun σ H Q => ∃ Z ρ Fs, OkP K cm H σ ρ Fs Z ∧ FinL K cm W σ H Z Q (f ρ)
def tPT (K : PySem.W.Frag) (cm : Cm) (W : WX) (f : En → Ot Bool) : TT := fun σ H Q => ∃ Z ρ Fs, OkP K cm H σ ρ Fs Z ∧ FinB K cm W σ H Z Q (f ρ)
abbrev SE (X : Cx) (cm : Cm) (W : WX) (e : Expr) (f : En → Ot D) : Prop := PE X e (tP X.K cm W f)
abbrev SA (X : Cx) (cm : Cm) (W : WX) (es : List Expr) (f : En → Ot (List D)) : Prop := PA X es (tPL X.K cm W f)
abbrev ST (X : Cx) (cm : Cm) (W : WX) (e : Expr) (f : En → Ot Bool) : Prop := PT X e (tPT X.K cm W f)
abbrev SW (X : Cx) (cm : Cm) (W : WX) (e : Expr) (f : En → Ot Bool) : Prop := PW X e (tPT X.K cm W f)

theorem PE.imp {X : Cx} {e : Expr} {t t' : TE} (h : PE X e t) (i : ∀ σ H Q, t' σ H Q → t σ H Q) : PE X e t' := ⟨fun pins s σ H Q I q => h.run pins s σ H Q I (i σ H Q q)⟩
theorem PT.imp {X : Cx} {e : Expr} {t t' : TT} (h : PT X e t) (i : ∀ σ H Q, t' σ H Q → t σ H Q) : PT X e t' := ⟨fun pins s σ H Q I q => h.run pins s σ H Q I (i σ H Q q)⟩
theorem PW.imp {X : Cx} {e : Expr} {t t' : TT} (h : PW X e t) (i : ∀ σ H Q, t' σ H Q → t σ H Q) : PW X e t' := ⟨fun w pins s σ H Q I q => h.run w pins s σ H Q I (i σ H Q q)⟩
theorem PA.imp {X : Cx} {es : List Expr} {t t' : TA} (h : PA X es t) (i : ∀ σ H Q, t' σ H Q → t σ H Q) : PA X es t' := ⟨fun p pins s σ H Q I q => h.run p pins s σ H Q I (i σ H Q q)⟩

section
variable {K : PySem.W.Frag} {cm : Cm} {H H1 H2 H' : Hp} {Z Z1 Z2 Z' : Zn} {σ : L2.St} {ρ : En} {Fs : List (List Addr)}
theorem RepE.ext (r : RepE K cm H Z σ ρ Fs) (e : Ext H Z H' Z') : RepE K cm H' Z' σ ρ Fs := ⟨r.lσ, r.lF, fun i d q => by
  obtain ⟨v, F, a, b, c⟩ := r.get i d q
  exact ⟨v, F, a, b, c.ext e⟩⟩
theorem OkP.ext (r : OkP K cm H σ ρ Fs Z) (e : Ext H Z H' Z') : OkP K cm H' σ ρ Fs Z' := ⟨r.rep.ext e, r.dom.ext e, fun a h => by rw [e.t]; exact r.tm a h⟩
theorem XRep.ext {x : XD} {cls : Value} {dd : Option Addr} (h : XRep K cm H Z x cls dd) (e : Ext H Z H' Z') : XRep K cm H' Z' x cls dd := by
  obtain ⟨rfl, nb, h⟩ := h
  refine ⟨rfl, nb, ?_⟩
  cases q : x.fld with
  | none => rw [q] at h; exact h
  | some p =>
    obtain ⟨n, d⟩ := p
    rw [q] at h
    obtain ⟨a, v, rfl, ha, r⟩ := h
    exact ⟨a, v, rfl, e.gr _ _ ha, r.ext e⟩
theorem noB_only {d : D} {v : V} {F : List Addr} (r : Rep K cm H Z d v F) (nb : noB d = true) (hf : ∀ a, Z.f a → Z'.f a) : Rep K cm H Z' d v F := by
  refine Rep.only (pf := fun f => f == .own || f == .frz) (fun a f hf' hz => ?_) d r nb
  cases f with
  | own => trivial
  | frz => exact hf a hz
  | bor => cases hf'
  | tmp => cases hf'
theorem XRep.back {x : XD} {cls : Value} {dd : Option Addr} (h : XRep K cm H Z x cls dd) (hf : ∀ a, Z.f a → Z'.f a) : XRep K cm H Z' x cls dd := by
  obtain ⟨rfl, nb, h⟩ := h
  refine ⟨rfl, nb, ?_⟩
  unfold xB at nb
  cases q : x.fld with
  | none => rw [q] at h; exact h
  | some p =>
    obtain ⟨n, d⟩ := p
    rw [q] at h nb
    obtain ⟨a, v, rfl, ha, r⟩ := h
    exact ⟨a, v, rfl, ha, noB_only r nb hf⟩
theorem Res.trans {A : List Addr} {d : D} {v : V} {F : List Addr} (e : Ext H Z H1 Z1) (r : Res K cm H1 Z1 H' Z' A d v F) (ha : ∀ a ∈ A, H a = none ∨ a ∈ ([] : List Addr)) : Res K cm H Z H' Z' [] d v F :=
  ⟨e.trans r.ext, r.rep, r.nd, fun a h => (r.fr a h).elim (fun q => .inl (e.gr.back q)) fun q => ha a q, r.nf⟩
theorem Res.trans0 {d : D} {v : V} {F : List Addr} (e : Ext H Z H1 Z1) (r : Res K cm H1 Z1 H' Z' [] d v F) : Res K cm H Z H' Z' [] d v F := r.trans e (fun _ q => nomatch q)
/-- an atom -/
theorem Res.atom {d : D} {v : V} (e : Ext H Z H' Z') (r : Rep K cm H' Z' d v []) {A : List Addr} : Res K cm H Z H' Z' A d v [] := ⟨e, r, List.nodup_nil, fun _ q => (nomatch q), fun _ q => (nomatch q)⟩
theorem ResL.nil (d : Dom H Z) : ResL K cm H Z H Z [] [] [] [] := ⟨.refl d, repL_nil, List.nodup_nil, fun _ q => (nomatch q), fun _ q => (nomatch q)⟩
/-- what a new thing owns is new, and stands -/
theorem Res.new {d : D} {v : V} {F : List Addr} (r : Res K cm H Z H1 Z1 [] d v F) : ∀ a ∈ F, H a = none := fun a h => (r.fr a h).resolve_right (fun q => nomatch q)
theorem ResL.new {ds : List D} {vs : List V} {Fs : List (List Addr)} (r : ResL K cm H Z H1 Z1 [] ds vs Fs) : ∀ a ∈ Fs.flatten, H a = none := fun a h => (r.fr a h).resolve_right (fun q => nomatch q)
theorem keep_nf (e : Ext H1 Z1 H2 Z2) {a : Addr} (m : Mut (H1 a)) (n : ¬ Z1.f a) : ¬ Z2.f a := fun q => (e.fn a q).elim n (mut_ne m)
theorem ResL.cons {d : D} {v : V} {F : List Addr} {ds : List D} {vs : List V} {Fs : List (List Addr)} (r : Res K cm H Z H1 Z1 [] d v F) (rs : ResL K cm H1 Z1 H2 Z2 [] ds vs Fs) : ResL K cm H Z H2 Z2 [] (d :: ds) (v :: vs) (F :: Fs) := by
  have hm := Rep.mut d r.rep
  refine ⟨r.ext.trans rs.ext, repL_cons (r.rep.ext rs.ext) rs.rep, ?_, fun a h => ?_, fun a h => ?_⟩
  · rw [List.flatten_cons, List.nodup_append]
    refine ⟨r.nd, rs.nd, fun a ha b hb e => ?_⟩
    subst e
    exact mut_ne (hm a ha) (rs.new a hb)
  · rw [List.flatten_cons] at h
    rcases List.mem_append.mp h with h | h
    · exact .inl (r.new a h)
    · exact .inl (r.ext.gr.back (rs.new a h))
  · rw [List.flatten_cons] at h
    rcases List.mem_append.mp h with h | h
    · exact keep_nf rs.ext (hm a h) (r.nf a h)
    · exact rs.nf a h
end

/-! ### argument lists -/
def eL : List (En → Ot D) → En → Ot (List D)
  | [], _ => .ok []
  | f :: fs, ρ => (f ρ).bind fun d => (eL fs ρ).bind fun ds => .ok (d :: ds)
section
variable {X : Cx} {cm : Cm} {W : WX} {e : Expr} {es : List Expr} {f : En → Ot D} {fs : List (En → Ot D)}
theorem tP_bind {K : PySem.W.Frag} {f : En → Ot D} {σ : L2.St} {H : Hp} {Z : Zn} {ρ : En} {Fs : List (List Addr)} {R : VK} (ok : OkP K cm H σ ρ Fs Z)
    (hn : f ρ ≠ .no) (hk : ∀ d, f ρ = .ok d → ∀ v H' Z' F, Res K cm H Z H' Z' [] d v F → R v H') (hx : ∀ x, f ρ = .ex x → ∀ cls dd H' Z', Ext H Z H' Z' → XRep K cm H' Z' x cls dd → W cls dd σ H') : tP K cm W f σ H R := by
  refine ⟨Z, ρ, Fs, ok, ?_⟩
  cases q : f ρ with
  | no => exact hn q
  | ok d => exact hk d q
  | ex x => exact hx x q
theorem sa_nil : SA X cm W [] (eL []) := PA.imp pa_nil fun σ H Q h => by
  obtain ⟨Z, ρ, Fs, ok, h⟩ := h
  exact h [] H Z [] (.nil ok.dom)
theorem sa_cons (he : SE X cm W e f) (hs : SA X cm W es (eL fs)) (hst : starEach (e :: es) X.env = (false, eval e X.env) :: starEach es X.env := by rfl) : SA X cm W (e :: es) (eL (f :: fs)) :=
  PA.imp (pa_cons he hs hst) fun σ H Q h => by
    obtain ⟨Z, ρ, Fs, ok, h⟩ := h
    refine tP_bind ok (fun q => ?_) (fun d q v H1 Z1 F r => ?_) (fun x q => ?_)
    · rw [eL, q] at h; exact h
    · rw [eL, q, Ot.bind_ok] at h
      refine ⟨Z1, ρ, Fs, ok.ext r.ext, ?_⟩
      cases q2 : eL fs ρ with
      | no => rw [q2] at h; exact h
      | ok ds => rw [q2] at h; exact fun vs H2 Z2 Gs rs => h _ _ _ _ (ResL.cons r rs)
      | ex x => rw [q2] at h; exact fun cls dd H' Z' ex xr => h cls dd H' Z' (r.ext.trans ex) xr
    · rw [eL, q] at h; exact h
end

/-! ### primitives: functions of values -/
/-- a primitive's reading holds if p gives a value -/
def OkPr (K : PySem.W.Frag) (cm : Cm) (r : List V → Hp → VK → Prop) (p : List D → Option D) : Prop :=
  ∀ H Z ds vs Fs d, Dom H Z → RepL K cm H Z ds vs Fs → Fs.flatten.Nodup → (∀ a ∈ Fs.flatten, ¬ Z.f a) → p ds = some d →
    ∀ Q : VK, (∀ v H' Z' F, Res K cm H Z H' Z' Fs.flatten d v F → Q v H') → r vs H Q
def OkPrT (K : PySem.W.Frag) (cm : Cm) (r : List V → Hp → (Bool → Hp → Prop) → Prop) (p : List D → Option Bool) : Prop :=
  ∀ H Z ds vs Fs b, Dom H Z → RepL K cm H Z ds vs Fs → p ds = some b → ∀ Q : Bool → Hp → Prop, Q b H → r vs H Q
def r2L (r : R2) : List V → Hp → VK → Prop := fun vs H Q => ∃ x y, vs = [x, y] ∧ r x y H Q
def r1L (r : V → Hp → VK → Prop) : List V → Hp → VK → Prop := fun vs H Q => ∃ x, vs = [x] ∧ r x H Q
theorem OkPr.or {K : PySem.W.Frag} {cm : Cm} {r r' : List V → Hp → VK → Prop} {p p' : List D → Option D} (h : OkPr K cm r p) (h' : OkPr K cm r' p') :
    OkPr K cm (fun vs H Q => r vs H Q ∨ r' vs H Q) (fun ds => (p ds).or (p' ds)) := fun H Z ds vs Fs d dm rp nd nf e Q q => by
  cases q1 : p ds with
  | some d1 =>
    have e1 : d1 = d := by simpa [q1] using e
    subst e1
    exact .inl (h H Z ds vs Fs d1 dm rp nd nf q1 Q q)
  | none => exact .inr (h' H Z ds vs Fs d dm rp nd nf (by simpa [q1] using e) Q q)

/-- the value of a primitive on what the arguments give -/
def ePr (p : List D → Option D) (fs : List (En → Ot D)) : En → Ot D := fun ρ => (eL fs ρ).bind fun ds => .of (p ds)
section
variable {X : Cx} {cm : Cm} {W : WX}
/-- behind the arguments -/
theorem pr_end {K : PySem.W.Frag} {r : List V → Hp → VK → Prop} {p : List D → Option D} (hp : OkPr K cm r p) {fs : List (En → Ot D)} {σ : L2.St} {H : Hp} {Q : VK} (h : tP K cm W (ePr p fs) σ H Q) :
    tPL K cm W (eL fs) σ H (fun vs H1 => r vs H1 Q) := by
  obtain ⟨Z, ρ, Fs, ok, h⟩ := h
  refine ⟨Z, ρ, Fs, ok, ?_⟩
  unfold ePr at h
  cases q : eL fs ρ with
  | no => rw [q] at h; exact h
  | ex x => rw [q] at h; exact h
  | ok ds =>
    rw [q, Ot.bind_ok] at h
    intro vs H1 Z1 Gs r1
    cases q2 : p ds with
    | none => rw [q2] at h; exact h.elim
    | some d =>
      rw [q2] at h
      refine hp H1 Z1 ds vs Gs d (ok.dom.ext r1.ext) r1.rep r1.nd r1.nf q2 Q fun v H' Z' F rr => h v H' Z' F (rr.trans r1.ext fun a ha => .inl (r1.new a ha))
/-- two places, one after another, as an argument list -/
theorem two_of {K : PySem.W.Frag} {f g : En → Ot D} {σ : L2.St} {H : Hp} {R : V → V → Hp → Prop} (h : tPL K cm W (eL [f, g]) σ H (fun vs H1 => ∃ x y, vs = [x, y] ∧ R x y H1)) :
    tP K cm W f σ H (fun x H1 => tP K cm W g σ H1 (fun y H2 => R x y H2)) := by
  obtain ⟨Z, ρ, Fs, ok, h⟩ := h
  simp only [eL] at h
  refine tP_bind ok (fun q => ?_) (fun d q v H1 Z1 F r => ?_) (fun x q => ?_)
  · rw [q] at h; exact h
  · rw [q, Ot.bind_ok] at h
    refine tP_bind (ok.ext r.ext) (fun q2 => ?_) (fun d2 q2 v2 H2 Z2 F2 r2 => ?_) (fun x q2 => ?_)
    · rw [q2] at h; exact h
    · rw [q2] at h
      obtain ⟨x, y, e, k⟩ := h [v, v2] H2 Z2 _ (ResL.cons r (ResL.cons r2 (.nil ((ok.ext r.ext).dom.ext r2.ext))))
      cases e
      exact k
    · rw [q2] at h; exact fun cls dd H' Z' ex xr => h cls dd H' Z' (r.ext.trans ex) xr
  · rw [q] at h; exact h
theorem one_of {K : PySem.W.Frag} {f : En → Ot D} {σ : L2.St} {H : Hp} {R : V → Hp → Prop} (h : tPL K cm W (eL [f]) σ H (fun vs H1 => ∃ x, vs = [x] ∧ R x H1)) :
    tP K cm W f σ H R := by
  obtain ⟨Z, ρ, Fs, ok, h⟩ := h
  simp only [eL] at h
  refine tP_bind ok (fun q => ?_) (fun d q v H1 Z1 F r => ?_) (fun x q => ?_)
  · rw [q] at h; exact h
  · rw [q, Ot.bind_ok] at h
    obtain ⟨x, e, k⟩ := h [v] H1 Z1 _ (ResL.cons r (.nil (ok.dom.ext r.ext)))
    cases e
    exact k
  · rw [q] at h; exact h
variable {a b e : Expr} {f g : En → Ot D} {pos : Pos}
theorem s_op {op : Operator} {r : R2} {p : List D → Option D} (ho : OpR X (binaryOp op) r) (hp : OkPr X.K cm (r2L r) p) (ha : SE X cm W a f) (hb : SE X cm W b g) : SE X cm W (.BinOp a op b pos) (ePr p [f, g]) :=
  PE.imp (pe_op ho ha hb) fun σ H Q h => two_of (pr_end hp h)
theorem s_cmp {op : CmpOp} {r : R2} {p : List D → Option D} (ho : OpR X (compareOp op) r) (hp : OkPr X.K cm (r2L r) p) (ha : SE X cm W a f) (hb : SE X cm W b g) (hm : behindInMarks op b = false) : SE X cm W (.Compare a [op] [b] pos) (ePr p [f, g]) :=
  PE.imp (pe_cmpR ho ha hb hm) fun σ H Q h => two_of (pr_end hp h)
theorem s_un {op : UnaryOp} {r : V → Hp → VK → Prop} {p : List D → Option D} (ho : UnR X (unaryOp op) r) (hp : OkPr X.K cm (r1L r) p) (ha : SE X cm W a f) : SE X cm W (.UnaryOp op a pos) (ePr p [f]) :=
  PE.imp (pe_un ho ha) fun σ H Q h => one_of (pr_end hp h)
theorem s_ix {r : R2} {p : List D → Option D} (ho : IxR X r) (hp : OkPr X.K cm (r2L r) p) (ha : SE X cm W a f) (hb : SE X cm W b g) (hs : PlainIx b := by exact fun _ _ => rfl) : SE X cm W (.Subscript a b pos) (ePr p [f, g]) :=
  PE.imp (pe_ix ho ha hb hs) fun σ H Q h => two_of (pr_end hp h)
theorem s_callB {x : Str} {p : Pos} {es : List Expr} {id : String} {r : List V → Hp → VK → Prop} {pr : List D → Option D} {fs : List (En → Ot D)} (hc : CallR X (.builtin id) r) (hp : OkPr X.K cm r pr) (hg : Gl X x) (hm : X.mg x = none) (hv : bootBuiltins x = some (.builtin id)) (ha : SA X cm W (e :: es) (eL fs))
    (hn : x ≠ "__name__" := by decide) (hdb : (x == ("__debug__" : Str)) = false := by decide) (he : starEach (e :: es) X.env = (false, eval e X.env) :: starEach es X.env := by rfl) (hpl : (backTo pos (starEach es X.env)).any (·.1) = false := by rfl) :
    SE X cm W (.Call (.Name x p) (e :: es) [] pos) (ePr pr fs) :=
  PE.imp (pe_callB hc hg hm hv ha hn hdb he hpl) fun σ H Q h => pr_end hp h
theorem s_callTy {x : Str} {p : Pos} {es : List Expr} {id : String} {r : List V → Hp → VK → Prop} {pr : List D → Option D} {fs : List (En → Ot D)} (hc : CallR X (.type id) r) (hp : OkPr X.K cm r pr) (hg : Gl X x) (hm : X.mg x = none) (hv : bootBuiltins x = some (.type id)) (ha : SA X cm W (e :: es) (eL fs))
    (hn : x ≠ "__name__" := by decide) (hdb : (x == ("__debug__" : Str)) = false := by decide) (he : starEach (e :: es) X.env = (false, eval e X.env) :: starEach es X.env := by rfl) (hpl : (backTo pos (starEach es X.env)).any (·.1) = false := by rfl) :
    SE X cm W (.Call (.Name x p) (e :: es) [] pos) (ePr pr fs) :=
  PE.imp (pe_callTy hc hg hm hv ha hn hdb he hpl) fun σ H Q h => pr_end hp h
end
end OB

namespace OB
open PySem PySem.Spec PyProof.Rows L2

section
variable {K : PySem.W.Frag} {cm : Cm} {H : Hp} {Z : Zn}
theorem repL1 {d : D} {vs : List V} {Fs : List (List Addr)} (h : RepL K cm H Z [d] vs Fs) : ∃ v F, vs = [v] ∧ Fs = [F] ∧ Rep K cm H Z d v F := by
  obtain ⟨v, vs', F, Fs', rfl, rfl, h1, rfl, rfl⟩ := h
  exact ⟨v, F, rfl, rfl, h1⟩
theorem repL2 {d e : D} {vs : List V} {Fs : List (List Addr)} (h : RepL K cm H Z [d, e] vs Fs) : ∃ v u F G, vs = [v, u] ∧ Fs = [F, G] ∧ Rep K cm H Z d v F ∧ Rep K cm H Z e u G := by
  obtain ⟨v, vs', F, Fs', rfl, rfl, h1, h2⟩ := h
  obtain ⟨u, G, rfl, rfl, h3⟩ := repL1 h2
  exact ⟨v, u, F, G, rfl, rfl, h1, h3⟩
theorem repL3 {d e f : D} {vs : List V} {Fs : List (List Addr)} (h : RepL K cm H Z [d, e, f] vs Fs) : ∃ v u w F G M, vs = [v, u, w] ∧ Fs = [F, G, M] ∧ Rep K cm H Z d v F ∧ Rep K cm H Z e u G ∧ Rep K cm H Z f w M := by
  obtain ⟨v, vs', F, Fs', rfl, rfl, h1, h2⟩ := h
  obtain ⟨u, w, G, M, rfl, rfl, h2, h3⟩ := repL2 h2
  exact ⟨v, u, w, F, G, M, rfl, rfl, h1, h2, h3⟩
theorem rep_int {i : Int} : Rep K cm H Z (.int i) (.int i) [] := ⟨rfl, rfl⟩
theorem rep_str {i : Str} : Rep K cm H Z (.str i) (.str i) [] := ⟨rfl, rfl⟩
theorem rep_bl {i : Bool} : Rep K cm H Z (.bl i) (.bl i) [] := ⟨rfl, rfl⟩
theorem rep_non : Rep K cm H Z .non .non [] := ⟨rfl, rfl⟩
theorem rdL {a : Addr} {vs : List V} (h : Rd H a (.lst vs)) : SqL K H a vs := .inl h
/-- a new object -/
theorem Res.newNd {A : List Addr} {k : Kd} {ds : List D} {vs : List V} {Fs : List (List Addr)} {p : Addr} {o : HO} (dm : Dom H Z) (rl : RepL K cm H Z ds vs Fs) (nd : Fs.flatten.Nodup) (sub : ∀ a ∈ Fs.flatten, H a = none ∨ a ∈ A) (nf : ∀ a ∈ Fs.flatten, ¬ Z.f a)
    (hp : H p = none) (hc : Cell K cm (upd H p o) Z p k vs) : Res K cm H Z (upd H p o) Z A (.nd k ds) (.ref p) (ownA k p ++ Fs.flatten) := by
  have g : Grow H (upd H p o) := .new hp
  have hm := RepL.mut ds rl
  have sp : ∀ a ∈ ownA k p, a = p := fun a h => by
    unfold ownA at h
    split at h
    · simpa using h
    · cases h
  refine ⟨.grow dm g, ⟨p, vs, Fs, rfl, hc, rl.grow g (fun _ h => h) (fun _ h => h) (fun _ h => h), rfl⟩, ?_, fun a h => ?_, fun a h => ?_⟩
  · rw [List.nodup_append]
    refine ⟨?_, nd, fun a ha b hb e => ?_⟩
    · unfold ownA
      split <;> simp
    · subst e
      rw [sp a ha] at hb
      exact mut_ne (hm p hb) hp
  · rcases List.mem_append.mp h with h | h
    · exact .inl (by rw [sp a h]; exact hp)
    · exact sub a h
  · rcases List.mem_append.mp h with h | h
    · rw [sp a h]; exact fun q => dm.f p q hp
    · exact nf a h
theorem Res.newL {A : List Addr} {ds : List D} {vs : List V} {Fs : List (List Addr)} {p : Addr} (dm : Dom H Z) (rl : RepL K cm H Z ds vs Fs) (nd : Fs.flatten.Nodup) (sub : ∀ a ∈ Fs.flatten, H a = none ∨ a ∈ A) (nf : ∀ a ∈ Fs.flatten, ¬ Z.f a)
    (hp : H p = none) : Res K cm H Z (upd H p (.lst vs)) Z A (.nd (.lst .own) ds) (.ref p) (ownA (.lst .own) p ++ Fs.flatten) :=
  .newNd dm rl nd sub nf hp ⟨fun _ => upd_same, .inl upd_same, trivial⟩
theorem Res.newT {A : List Addr} {ds : List D} {vs : List V} {Fs : List (List Addr)} {p : Addr} (dm : Dom H Z) (rl : RepL K cm H Z ds vs Fs) (nd : Fs.flatten.Nodup) (sub : ∀ a ∈ Fs.flatten, H a = none ∨ a ∈ A) (nf : ∀ a ∈ Fs.flatten, ¬ Z.f a)
    (hp : H p = none) : Res K cm H Z (upd H p (.tup vs)) Z A (.nd .tup ds) (.ref p) (ownA .tup p ++ Fs.flatten) :=
  .newNd dm rl nd sub nf hp (SqT.of upd_same)
/-- the same thing, as it stands -/
theorem Res.same {A : List Addr} {d : D} {v : V} {F : List Addr} (dm : Dom H Z) (r : Rep K cm H Z d v F) (nd : F.Nodup) (sub : ∀ a ∈ F, a ∈ A) (nf : ∀ a ∈ F, ¬ Z.f a) : Res K cm H Z H Z A d v F :=
  ⟨.refl dm, r, nd, fun a h => .inr (sub a h), nf⟩
end
theorem flatten_get {α : Type} : ∀ {Fs : List (List α)} {i : Nat} {F : List α}, Fs[i]? = some F → F.Sublist Fs.flatten
  | [], i, F, h => by simp at h
  | G :: Fs, 0, F, h => by simp at h; subst h; rw [List.flatten_cons]; exact List.sublist_append_left _ _
  | G :: Fs, i + 1, F, h => by
    rw [List.flatten_cons]
    exact (flatten_get (Fs := Fs) (i := i) (by simpa using h)).trans (List.sublist_append_right _ _)

/-! ### numbers and texts -/
def mulOk (i j : Int) : Bool := decide (Builtin.Int.intBits i + Builtin.Int.intBits j ≤ 134217728)
theorem mulOk_ok {i j : Int} (h : mulOk i j = true) : IntMulOk i j := by
  have h3 := of_decide_eq_true h
  have e : bitsLine = 134217728 := by decide
  unfold IntMulOk
  intro z
  rw [Bool.and_eq_true] at z
  have z2 := z.2
  unfold Builtin.Int.intTooBig at z2
  have z3 := of_decide_eq_true z2
  rw [e] at z3
  omega
def divOk (j : Int) : Bool := decide (j ≠ 0) && decide (j.natAbs.log2 < 9000)
def divV (i j : Int) : Int := if 0 < j then i / j else i.fdiv j
def modV (i j : Int) : Int := if 0 < j then i % j else i.fmod j
def powOk (i j : Int) : Bool := decide (0 ≤ j) && decide ((Builtin.Int.intBits i : Int) * j ≤ 2 ^ 27)
def pAdd : List D → Option D
  | [.int i, .int j] => some (.int (i + j))
  | [.str a, .str b] => if a.length + b.length ≤ sizeLine then some (.str (a ++ b)) else none
  | [.nd (.lst _) xs, .nd (.lst _) ys] => if xs.length + ys.length ≤ sizeLine then some (.nd (.lst .own) (xs ++ ys)) else none
  | [.nd .tup (x :: xs), .nd .tup (y :: ys)] => if (x :: xs).length + (y :: ys).length ≤ sizeLine then some (.nd .tup ((x :: xs) ++ (y :: ys))) else none
  | _ => none
def pSub : List D → Option D
  | [.int i, .int j] => some (.int (i - j))
  | _ => none
def pMul : List D → Option D
  | [.int i, .int j] => if mulOk i j then some (.int (i * j)) else none
  | [.str s, .int k] => if s.length * k.toNat ≤ sizeLine ∧ 2 ≤ k ∧ k < 2 ^ 30 ∧ 1 ≤ s.length then some (.str ⟨(List.replicate k.toNat s.cps.toList).flatten.toArray⟩) else none
  | [.nd (.lst .own) [.str d], .int k] => if k.toNat ≤ sizeLine ∧ 0 ≤ k ∧ k < 2 ^ 62 then some (.nd (.lst .own) (List.replicate k.toNat (.str d))) else none
  | _ => none
def pDiv : List D → Option D
  | [.int i, .int j] => if divOk j then some (.int (divV i j)) else none
  | _ => none
def pMod : List D → Option D
  | [.int i, .int j] => if j ≠ 0 then some (.int (modV i j)) else none
  | _ => none
def pPow : List D → Option D
  | [.int i, .int j] => if powOk i j then some (.int (i ^ j.toNat)) else none
  | _ => none
def pNeg : List D → Option D
  | [.int i] => some (.int (-i))
  | _ => none
def rCatR : R2 := fun x y H Q => ∃ l b xs zs, x = .ref l ∧ y = .ref b ∧ Rd H l (.lst xs) ∧ Rd H b (.lst zs) ∧ xs.length + zs.length ≤ sizeLine ∧ ∀ p, H p = none → Q (.ref p) (upd H p (.lst (xs ++ zs)))
section
variable {X : Cx}
theorem op_catR : OpR X (binaryOp .Add) rCatR := by
  intro pins s σ H x y v u Q I rx ry h
  obtain ⟨l, b, xs, zs, rfl, rfl, hH, hB, hz, q⟩ := h
  cases rx
  cases ry
  obtain ⟨z, its, n, r, e⟩ := hH.ok I.hok
  obtain ⟨z2, its2, n2, r2, e2⟩ := hB.ok I.hok
  have hl := r.length
  have hl2 := r2.length
  refine PySem.P.add_list e e2 ?_ (by rw [List.size_toArray, List.size_toArray]; omega)
  have ea : its.toArray ++ its2.toArray = (its ++ its2).toArray := by simp
  rw [ea]
  exact ⟨.ref _, _, I.lnew (t' := s.toks) (r.append r2) (by rw [List.length_append]; omega), rfl, q _ I.fresh⟩
end
def rStrMul : R2 := fun x y H Q => ∃ (s : Str) (k : Int), x = .str s ∧ y = .int k ∧ s.length * k.toNat ≤ sizeLine ∧ 2 ≤ k ∧ k < 2 ^ 30 ∧ 1 ≤ s.length ∧ Q (.str ⟨(List.replicate k.toNat s.cps.toList).flatten.toArray⟩) H
theorem rep_cps (a : Array Nat) (k : Nat) : (List.replicate k a).foldl (· ++ ·) #[] = (List.replicate k a.toList).flatten.toArray := by
  have key : ∀ (k : Nat) (acc : Array Nat), (List.replicate k a).foldl (· ++ ·) acc = acc ++ (List.replicate k a.toList).flatten.toArray := by
    intro k
    induction k with
    | zero => intro acc; simp
    | succ k ih =>
      intro acc
      rw [List.replicate_succ, List.foldl_cons, ih, List.replicate_succ, List.flatten_cons]
      apply Array.ext'
      simp
  rw [key k #[]]
  simp
section
variable {X : Cx}
theorem op_strMul : OpR X (binaryOp .Mult) rStrMul := by
  intro pins s σ H x y v u Q I rx ry h
  obtain ⟨z, k, rfl, rfl, hz, h2, h3, h1, q⟩ := h
  obtain ⟨t, rfl⟩ := rx
  obtain ⟨t', rfl⟩ := ry
  have hline : (sizeLine : Nat) = 16777216 := sizeLine_eq
  have kn : (k.toNat : Int) = k := Int.toNat_of_nonneg (by omega)
  have hz2 : (z.length : Int) * k ≤ 16777216 := by
    have q1 : ((z.length * k.toNat : Nat) : Int) ≤ ((16777216 : Nat) : Int) := by
      have := hz
      rw [hline] at this
      exact Int.ofNat_le.mpr this
    rw [Int.natCast_mul, kn] at q1
    exact q1
  refine PySem.P.mul_str ?_ (fun _ _ => ?_) (fun _ _ => ?_) ?_
  · have a : decide (k < -(2 ^ 63 : Int)) = false := decide_eq_false (by omega)
    have b : decide (k ≥ 2 ^ 63) = false := decide_eq_false (by omega)
    rw [a, b]; rfl
  · intro q1
    have q2 : k * ((2 ^ 63 - 1) / k) ≥ (2 ^ 63 - 1) - k := by
      have e := Int.emod_add_mul_ediv (2 ^ 63 - 1 : Int) k
      have e2 := Int.emod_lt_of_pos (2 ^ 63 - 1 : Int) (show 0 < k by omega)
      omega
    have q3 : k * (((2 ^ 63 - 1) / k) + 1) ≤ k * (z.length : Int) := Int.mul_le_mul_of_nonneg_left (by omega) (by omega)
    rw [Int.mul_add, Int.mul_comm k (z.length : Int)] at q3
    omega
  · unfold PySem.Builtin.Str.tooLong
    first
      | exact decide_eq_false (by omega)
      | (simp only [decide_eq_false_iff_not]; omega)
      | (rw [hline] at hz; simp; omega)
  · rw [if_neg (by omega : ¬ k < 1)]
    have e : (k == 1 || z.length == 0) = false := by
      have a : (k == 1) = false := by simp; omega
      have b : (z.length == 0) = false := by simp; omega
      rw [a, b]; rfl
    rw [e, rep_cps]
    have hl : (⟨(List.replicate k.toNat z.cps.toList).flatten.toArray⟩ : Str).length = k.toNat * z.length := by
      show ((List.replicate k.toNat z.cps.toList).flatten.toArray).size = _
      simp [List.length_flatten, Str.length]
    refine ⟨?_, ⟨.str _, H, I.tok _, ⟨_, rfl⟩, q⟩⟩
    first
      | (rw [hl, Nat.mul_comm]; exact hz)
      | (show _ ≤ sizeLine; rw [hl, Nat.mul_comm]; exact hz)
/-! ### the arithmetic of data -/
def rAdd4 (K : PySem.W.Frag) : R2 := fun x y H Q => rI0 (fun i j => .int (i + j)) x y H Q ∨ (∃ i j, x = .str i ∧ y = .str j ∧ i.length + j.length ≤ sizeLine ∧ Q (.str (i ++ j)) H) ∨ rCatR x y H Q ∨ rCatT K x y H Q
theorem op_add4 : OpR X (binaryOp .Add) (rAdd4 X.K) := op_add.or (op_add_str.or (op_catR.or op_catT))
def rMul3 : R2 := fun x y H Q => rI (fun i j => mulOk i j = true) (fun i j => .int (i * j)) x y H Q ∨ rStrMul x y H Q ∨ rRep x y H Q
theorem op_mul3 : OpR X (binaryOp .Mult) rMul3 := OpR.or (opI fun _ _ _ _ _ _ _ hc q => mul_int q (mulOk_ok hc)) (op_strMul.or op_rep)
def rDivD : R2 := rI (fun _ j => divOk j = true) fun i j => .int (divV i j)
theorem op_divD : OpR X (binaryOp .FloorDiv) rDivD := opI fun i j _ _ _ _ _ hc q => by
  have h0 : j ≠ 0 := by
    have := (Bool.and_eq_true_iff.mp hc).1
    exact of_decide_eq_true this
  refine floordiv_int h0 ?_ (.inl (PyProof.noPylong_of_log2 (of_decide_eq_true (Bool.and_eq_true_iff.mp hc).2)))
  have e : i.fdiv j = divV i j := by
    unfold divV
    split
    · rw [Int.fdiv_eq_ediv_of_nonneg i (by omega)]
    · rfl
  rw [e]; exact q
def rModD : R2 := rI (fun _ j => j ≠ 0) fun i j => .int (modV i j)
theorem op_modD : OpR X (binaryOp .Mod) rModD := opI fun i j _ _ _ _ _ hc q => by
  refine mod_int' hc ?_
  have e : i.fmod j = modV i j := by
    unfold modV
    split
    · rw [Int.fmod_eq_emod_of_nonneg i (by omega)]
    · rfl
  rw [e]; exact q
def rPowD : R2 := rI (fun i j => powOk i j = true) fun i j => .int (i ^ j.toNat)
theorem op_powD : OpR X (binaryOp .Pow) rPowD := opI fun i j _ _ _ _ _ hc q => by
  have h := Bool.and_eq_true_iff.mp hc
  exact pow_int (of_decide_eq_true h.1) (of_decide_eq_true h.2) q
end
section
variable {K : PySem.W.Frag} {cm : Cm}
theorem cat_sub (A B : List Addr) (Fs1 Fs2 : List (List Addr)) : (Fs1 ++ Fs2).flatten.Sublist [A ++ Fs1.flatten, B ++ Fs2.flatten].flatten := by
  rw [List.flatten_append]
  simp only [List.flatten_cons, List.flatten_nil, List.append_nil]
  exact (List.sublist_append_right _ _).append (List.sublist_append_right _ _)
theorem ok_add : OkPr K cm (r2L (rAdd4 K)) pAdd := by
  intro H Z ds vs Fs d dm rp nd nf e Q q
  unfold pAdd at e
  split at e
  · cases e
    obtain ⟨v, u, F, G, rfl, rfl, ⟨rfl, rfl⟩, ⟨rfl, rfl⟩⟩ := repL2 rp
    exact ⟨_, _, rfl, .inl ⟨_, _, rfl, rfl, q _ H Z [] (.atom (.refl dm) rep_int)⟩⟩
  · split at e
    · rename_i hl
      cases e
      obtain ⟨v, u, F, G, rfl, rfl, ⟨rfl, rfl⟩, ⟨rfl, rfl⟩⟩ := repL2 rp
      exact ⟨_, _, rfl, .inr (.inl ⟨_, _, rfl, rfl, hl, q _ H Z [] (.atom (.refl dm) rep_str)⟩)⟩
    · cases e
  · split at e
    · rename_i hl
      cases e
      obtain ⟨v, u, F, G, rfl, rfl, ⟨a, vs1, Fs1, rfl, c1, l1, rfl⟩, ⟨b, vs2, Fs2, rfl, c2, l2, rfl⟩⟩ := repL2 rp
      have lv1 := l1.len.1
      have lv2 := l2.len.1
      have sub := fun A B => cat_sub A B Fs1 Fs2
      refine ⟨_, _, rfl, .inr (.inr (.inl ⟨a, b, vs1, vs2, rfl, rfl, c1.2.1, c2.2.1, by omega, fun p hp => ?_⟩))⟩
      exact q _ _ Z _ (.newL dm (l1.app l2) (nd.sublist (sub _ _)) (fun x hx => .inr ((sub _ _).subset hx)) (fun x hx => nf x ((sub _ _).subset hx)) hp)
    · cases e
  · split at e
    · rename_i hl
      cases e
      obtain ⟨v, u, F, G, rfl, rfl, ⟨a, vs1, Fs1, rfl, c1, l1, rfl⟩, ⟨b, vs2, Fs2, rfl, c2, l2, rfl⟩⟩ := repL2 rp
      have lv1 := l1.len.1
      have lv2 := l2.len.1
      have sub := fun A B => cat_sub A B Fs1 Fs2
      refine ⟨_, _, rfl, .inr (.inr (.inr ⟨a, b, vs1, vs2, rfl, rfl, c1, c2, fun z => by subst z; simp at lv1, by omega, fun z => by subst z; simp at lv2, fun _ p hp => ?_⟩))⟩
      exact q _ _ Z _ (.newT dm (l1.app l2) (nd.sublist (sub _ _)) (fun x hx => .inr ((sub _ _).subset hx)) (fun x hx => nf x ((sub _ _).subset hx)) hp)
    · cases e
  · cases e
theorem ok_int2 {C : Int → Int → Prop} {g : Int → Int → Int} {p : List D → Option D} (hp : ∀ ds d, p ds = some d → ∃ i j, ds = [.int i, .int j] ∧ C i j ∧ d = .int (g i j)) : OkPr K cm (r2L (rI C fun i j => .int (g i j))) p := by
  intro H Z ds vs Fs d dm rp nd nf e Q q
  obtain ⟨i, j, rfl, hc, rfl⟩ := hp _ _ e
  obtain ⟨v, u, F, G, rfl, rfl, ⟨rfl, rfl⟩, ⟨rfl, rfl⟩⟩ := repL2 rp
  exact ⟨_, _, rfl, i, j, rfl, rfl, hc, q _ H Z [] (.atom (.refl dm) rep_int)⟩
theorem ok_sub : OkPr K cm (r2L (rI0 fun i j => .int (i - j))) pSub := by
  intro H Z ds vs Fs d dm rp nd nf e Q q
  unfold pSub at e
  split at e
  · cases e
    obtain ⟨v, u, F, G, rfl, rfl, ⟨rfl, rfl⟩, ⟨rfl, rfl⟩⟩ := repL2 rp
    exact ⟨_, _, rfl, _, _, rfl, rfl, q _ H Z [] (.atom (.refl dm) rep_int)⟩
  · cases e
theorem ok_div : OkPr K cm (r2L rDivD) pDiv := ok_int2 fun ds d e => by
  unfold pDiv at e
  split at e
  · split at e
    · rename_i h
      cases e
      exact ⟨_, _, rfl, h, rfl⟩
    · cases e
  · cases e
theorem ok_mod : OkPr K cm (r2L rModD) pMod := ok_int2 fun ds d e => by
  unfold pMod at e
  split at e
  · split at e
    · rename_i h
      cases e
      exact ⟨_, _, rfl, h, rfl⟩
    · cases e
  · cases e
theorem ok_pow : OkPr K cm (r2L rPowD) pPow := ok_int2 fun ds d e => by
  unfold pPow at e
  split at e
  · split at e
    · rename_i h
      cases e
      exact ⟨_, _, rfl, h, rfl⟩
    · cases e
  · cases e
theorem ok_neg : OkPr K cm (r1L (rU fun i => .int (-i))) pNeg := by
  intro H Z ds vs Fs d dm rp nd nf e Q q
  unfold pNeg at e
  split at e
  · cases e
    obtain ⟨v, F, rfl, rfl, ⟨rfl, rfl⟩⟩ := repL1 rp
    exact ⟨_, rfl, _, rfl, q _ H Z [] (.atom (.refl dm) rep_int)⟩
  · cases e
theorem repL_strs : ∀ (n : Nat) (d : Str), RepL K cm H Z (List.replicate n (.str d)) (List.replicate n (.str d)) (List.replicate n [])
  | 0, _ => repL_nil
  | n + 1, d => repL_cons ⟨rfl, rfl⟩ (repL_strs n d)
theorem flatten_nils : ∀ n : Nat, (List.replicate n ([] : List Addr)).flatten = []
  | 0 => rfl
  | n + 1 => by rw [List.replicate_succ, List.flatten_cons, flatten_nils n]; rfl
theorem flatten_ones {α : Type} (x : α) : ∀ n : Nat, (List.replicate n [x]).flatten = List.replicate n x
  | 0 => rfl
  | n + 1 => by rw [List.replicate_succ, List.flatten_cons, flatten_ones x n]; rfl
theorem ok_mul : OkPr K cm (r2L rMul3) pMul := by
  intro H Z ds vs Fs d dm rp nd nf e Q q
  unfold pMul at e
  split at e
  · split at e
    · rename_i hl
      cases e
      obtain ⟨v, u, F, G, rfl, rfl, ⟨rfl, rfl⟩, ⟨rfl, rfl⟩⟩ := repL2 rp
      exact ⟨_, _, rfl, .inl ⟨_, _, rfl, rfl, hl, q _ H Z [] (.atom (.refl dm) rep_int)⟩⟩
    · cases e
  · split at e
    · rename_i hl
      cases e
      obtain ⟨v, u, F, G, rfl, rfl, ⟨rfl, rfl⟩, ⟨rfl, rfl⟩⟩ := repL2 rp
      exact ⟨_, _, rfl, .inr (.inl ⟨_, _, rfl, rfl, hl.1, hl.2.1, hl.2.2.1, hl.2.2.2, q _ H Z [] (.atom (.refl dm) rep_str)⟩)⟩
    · cases e
  · split at e
    · rename_i d0 k hl
      cases e
      obtain ⟨v, u, F, G, rfl, rfl, ⟨a, vs1, Fs1, rfl, c1, l1, rfl⟩, ⟨rfl, rfl⟩⟩ := repL2 rp
      obtain ⟨v1, F1, rfl, rfl, ⟨rfl, rfl⟩⟩ := repL1 l1
      refine ⟨_, _, rfl, .inr (.inr ⟨a, k, _, rfl, rfl, c1.1 (by decide), by omega, by omega, by simp only [List.length_singleton, Nat.one_mul]; exact hl.1, fun p hp => ?_⟩)⟩
      rw [flatten_ones]
      refine q _ _ Z _ (.newL dm (repL_strs k.toNat d0) ?_ ?_ ?_ hp)
      · rw [flatten_nils]; exact List.nodup_nil
      · rw [flatten_nils]; exact fun _ z => nomatch z
      · rw [flatten_nils]; exact fun _ z => nomatch z
    · cases e
  · cases e
end
end OB

namespace OB
open PySem PySem.Spec PyProof.Rows L2

/-! ### reading a name: what is owned is lent for the moment -/
def Fl.toTmp : Fl → Fl
  | .own => .tmp
  | f => f
def getV (ρ : En) (i : Nat) : Option D := (ρ[i]?).join
def eVar (i : Nat) : En → Ot D := fun ρ => .of ((getV ρ i).map (mapF Fl.toTmp))
def eC (d : D) : En → Ot D := fun _ => .ok d
theorem getV_some {ρ : En} {i : Nat} {d : D} (h : getV ρ i = some d) : ρ[i]? = some (some d) := by
  unfold getV at h
  cases q : ρ[i]? with
  | none => rw [q] at h; cases h
  | some o => rw [q] at h; rw [show o = some d from h]
theorem flat_mem {Fs : List (List Addr)} {i : Nat} {F : List Addr} (e : Fs[i]? = some F) {x : Addr} (h : x ∈ F) : x ∈ Fs.flatten := (flatten_get e).subset h
/-- what a slot holds, lent -/
theorem OkP.lent {K : PySem.W.Frag} {cm : Cm} {H : Hp} {σ : L2.St} {ρ : En} {Fs : List (List Addr)} {Z : Zn} (ok : OkP K cm H σ ρ Fs Z) {i : Nat} {d : D} (h : getV ρ i = some d) :
    ∃ v, σ[i]? = some (some v) ∧ Rep K cm H Z (mapF Fl.toTmp d) v [] := by
  obtain ⟨v, F, e1, e2, r⟩ := ok.rep.get i d (getV_some h)
  refine ⟨v, e1, Rep.give (O := fun a => a ∈ F) (cell_flag (fun a ha f ef _ => ?_) (fun a f hf hz => ?_) (fun f e => ?_)) (fun f e => ?_) d r fun a ha => ha⟩
  · subst ef
    exact ok.tm a (flat_mem e2 ha)
  · cases f with
    | own => exact absurd rfl hf
    | _ => exact hz
  · intro z; subst z; exact e rfl
  · cases f <;> cases e
section
variable {X : Cx} {cm : Cm} {W : WX} {e a b c : Expr} {f g h : En → Ot D} {pos : Pos}
theorem s_var {i : Nat} {x : Str} (he : PE X (.Name x pos) (tVar i)) : SE X cm W (.Name x pos) (eVar i) := PE.imp he fun σ H Q h => by
  obtain ⟨Z, ρ, Fs, ok, h⟩ := h
  unfold eVar at h
  cases q : getV ρ i with
  | none => rw [q] at h; exact h.elim
  | some d =>
    rw [q] at h
    obtain ⟨v, e, r⟩ := ok.lent q
    exact ⟨v, e, h v H Z [] (.atom (.refl ok.dom) r)⟩
/-- a constant: an atom -/
theorem s_c {d : D} {v : V} (he : PE X e (tC v)) (hr : ∀ (H : Hp) (Z : Zn), Rep X.K cm H Z d v []) : SE X cm W e (eC d) := PE.imp he fun σ H Q h => by
  obtain ⟨Z, ρ, Fs, ok, h⟩ := h
  exact h v H Z [] (.atom (.refl ok.dom) (hr H Z))
theorem s_int {i j} : SE X cm W (.Constant (.int i) j pos) (eC (.int i)) := s_c pe_int fun _ _ => rep_int
theorem s_bl {b j} : SE X cm W (.Constant (.bool b) j pos) (eC (.bl b)) := s_c pe_bl fun _ _ => rep_bl
theorem s_non {j} : SE X cm W (.Constant .none j pos) (eC .non) := s_c pe_non fun _ _ => rep_non
theorem s_str {x j} : SE X cm W (.Constant (.str x) j pos) (eC (.str x)) := s_c pe_str fun _ _ => rep_str
/-- a module's int, text, class -/
theorem s_globI {x : Str} {i : Int} {t : Tok} (hg : Gl X x) (hm : X.mg x = some (.int i t)) (hd : (x == ("__debug__" : Str)) = false := by decide) : SE X cm W (.Name x pos) (eC (.int i)) := s_c (pe_glob (v := .int i) hg hm ⟨t, rfl⟩ hd) fun _ _ => rep_int
theorem s_globS {x : Str} {i : Str} {t : Tok} (hg : Gl X x) (hm : X.mg x = some (.str i t)) (hd : (x == ("__debug__" : Str)) = false := by decide) : SE X cm W (.Name x pos) (eC (.str i)) := s_c (pe_glob (v := .str i) hg hm ⟨t, rfl⟩ hd) fun _ _ => rep_str

/-! ### displays -/
def pLst (ds : List D) : Option D := if ds.length ≤ sizeLine then some (.nd (.lst .own) ds) else none
def pTup (ds : List D) : Option D := if ds.length ≤ sizeLine then some (.nd .tup ds) else none
theorem s_lst {es : List Expr} {fs : List (En → Ot D)} (ha : SA X cm W es (eL fs)) : SE X cm W (.List es pos) (ePr pLst fs) := PE.imp (pe_lst ha) fun σ H Q h =>
  pr_end (r := fun xs H1 Q => xs.length ≤ sizeLine ∧ ∀ p, H1 p = none → Q (.ref p) (upd H1 p (.lst xs))) (fun H Z ds vs Fs d dm rp nd nf e Q q => by
    unfold pLst at e
    split at e
    · rename_i hl
      cases e
      exact ⟨by rw [rp.len.1]; exact hl, fun p hp => q _ _ Z _ (.newL dm rp nd (fun x hx => .inr hx) nf hp)⟩
    · cases e) h
theorem s_tup {es : List Expr} {x1} {fs : List (En → Ot D)} (ha : SA X cm W es (eL fs)) : SE X cm W (.Tuple es x1 pos) (ePr pTup fs) := PE.imp (pe_tup ha) fun σ H Q h =>
  pr_end (r := fun xs H1 Q => xs.length ≤ sizeLine ∧ ∀ p, H1 p = none → Q (.ref p) (upd H1 p (.tup xs))) (fun H Z ds vs Fs d dm rp nd nf e Q q => by
    unfold pTup at e
    split at e
    · rename_i hl
      cases e
      exact ⟨by rw [rp.len.1]; exact hl, fun p hp => q _ _ Z _ (.newT dm rp nd (fun x hx => .inr hx) nf hp)⟩
    · cases e) h
/-- {} -/
theorem s_dict0 : SE X cm W (.Dict [] [] pos) (eC (.nd (.dct .own []) [])) := PE.imp pe_dnewK fun σ H Q h => by
  obtain ⟨Z, ρ, Fs, ok, h⟩ := h
  exact fun p hp => h _ _ Z _ (.newNd (k := .dct .own []) ok.dom repL_nil List.nodup_nil (fun _ z => nomatch z) (fun _ z => nomatch z) hp ⟨upd_same, rfl, trivial⟩)

/-! ### and, or, not, if -/
def asB : D → Ot Bool
  | .bl b => .ok b
  | _ => .no
def eAnd (f g : En → Ot D) : En → Ot D := fun ρ => (f ρ).bind fun d => (asB d).bind fun b => if b then g ρ else .ok (.bl false)
def eOr (f g : En → Ot D) : En → Ot D := fun ρ => (f ρ).bind fun d => (asB d).bind fun b => if b then .ok (.bl true) else g ρ
def eNot (f : En → Ot D) : En → Ot D := fun ρ => (f ρ).bind fun d => (asB d).bind fun b => .ok (.bl (!b))
def eT (f : En → Ot D) : En → Ot Bool := fun ρ => (f ρ).bind asB
def bAnd (f g : En → Ot Bool) : En → Ot Bool := fun ρ => (f ρ).bind fun b => if b then g ρ else .ok false
def bOr (f g : En → Ot Bool) : En → Ot Bool := fun ρ => (f ρ).bind fun b => if b then .ok true else g ρ
def bNot (f : En → Ot Bool) : En → Ot Bool := fun ρ => (f ρ).bind fun b => .ok (!b)
def eIf (t : En → Ot Bool) (f g : En → Ot D) : En → Ot D := fun ρ => (t ρ).bind fun b => if b then f ρ else g ρ
theorem asB_ok {d : D} {b : Bool} (h : asB d = .ok b) : d = .bl b := by
  cases d <;> first | (cases h; done) | (cases h; rfl)
theorem asB_ex {d : D} {x : XD} : asB d ≠ .ex x := by cases d <;> exact fun h => nomatch h
/-- after f: a bool -/
theorem tP_asB {K : PySem.W.Frag} {f : En → Ot D} {k : Bool → Ot D} {σ : L2.St} {H : Hp} {Q : VK} {Z : Zn} {ρ : En} {Fs : List (List Addr)} (ok : OkP K cm H σ ρ Fs Z) {o : Ot D} (ho : o = (f ρ).bind fun d => (asB d).bind k)
    (h : FinD K cm W σ H Z Q o) {R : VK}
    (hk : ∀ b H1 Z1, Ext H Z H1 Z1 → k b = o → R (.bl b) H1) : tP K cm W f σ H R := by
  subst ho
  refine tP_bind ok (fun q => ?_) (fun d q v H1 Z1 F r => ?_) (fun x q => ?_)
  · rw [q] at h; exact h
  · rw [q, Ot.bind_ok] at h
    cases q2 : asB d with
    | no => rw [q2] at h; exact h.elim
    | ex x => exact absurd q2 asB_ex
    | ok b =>
      have e := asB_ok q2
      subst e
      obtain ⟨rfl, rfl⟩ := r.rep
      refine hk b H1 Z1 r.ext ?_
      rw [q, Ot.bind_ok, q2, Ot.bind_ok]
  · rw [q] at h; exact h
theorem s_one {op : BoolOp} (ha : SE X cm W a f) : SE X cm W (.BoolOp op [a] pos) f := pe_one ha
theorem tP_go {K : PySem.W.Frag} {f : En → Ot D} {σ : L2.St} {H H1 : Hp} {Q : VK} {Z Z1 : Zn} {ρ : En} {Fs : List (List Addr)} (ok : OkP K cm H σ ρ Fs Z) (ex : Ext H Z H1 Z1)
    (h : FinD K cm W σ H Z Q (f ρ)) : tP K cm W f σ H1 Q := by
  refine tP_bind (ok.ext ex) (fun q => ?_) (fun d q v H2 Z2 F r => ?_) (fun x q => ?_)
  · rw [q] at h; exact h
  · rw [q] at h; exact h v H2 Z2 F (r.trans0 ex)
  · rw [q] at h; exact fun cls dd H' Z' ex2 xr => h cls dd H' Z' (ex.trans ex2) xr
theorem s_and {rest : List Expr} (ha : SE X cm W a f) (hb : SE X cm W (.BoolOp .And (b :: rest) pos) g) : SE X cm W (.BoolOp .And (a :: b :: rest) pos) (eAnd f g) := PE.imp (pe_and ha hb) fun σ H Q h => by
  obtain ⟨Z, ρ, Fs, ok, h⟩ := h
  refine tP_asB ok (k := fun b => if b then g ρ else .ok (.bl false)) rfl h fun k H1 Z1 ex hk => ⟨k, rfl, ?_⟩
  cases k with
  | true =>
    show tP _ _ _ _ _ _ _
    have e : eAnd f g ρ = g ρ := hk.symm
    rw [e] at h
    exact tP_go ok ex h
  | false =>
    show Q (.bl false) H1
    have e : eAnd f g ρ = .ok (.bl false) := hk.symm
    rw [e] at h
    exact h _ H1 Z1 [] (.atom ex rep_bl)
theorem s_or {rest : List Expr} (ha : SE X cm W a f) (hb : SE X cm W (.BoolOp .Or (b :: rest) pos) g) : SE X cm W (.BoolOp .Or (a :: b :: rest) pos) (eOr f g) := PE.imp (pe_or ha hb) fun σ H Q h => by
  obtain ⟨Z, ρ, Fs, ok, h⟩ := h
  refine tP_asB ok (k := fun b => if b then .ok (.bl true) else g ρ) rfl h fun k H1 Z1 ex hk => ⟨k, rfl, ?_⟩
  cases k with
  | false =>
    show tP _ _ _ _ _ _ _
    have e : eOr f g ρ = g ρ := hk.symm
    rw [e] at h
    exact tP_go ok ex h
  | true =>
    show Q (.bl true) H1
    have e : eOr f g ρ = .ok (.bl true) := hk.symm
    rw [e] at h
    exact h _ H1 Z1 [] (.atom ex rep_bl)
theorem s_not (ha : SE X cm W a f) : SE X cm W (.UnaryOp .Not a pos) (eNot f) := PE.imp (pe_not ha) fun σ H Q h => by
  obtain ⟨Z, ρ, Fs, ok, h⟩ := h
  refine tP_asB ok (k := fun b => .ok (.bl (!b))) rfl h fun k H1 Z1 ex hk => ⟨k, rfl, ?_⟩
  have e : eNot f ρ = .ok (.bl (!k)) := hk.symm
  rw [e] at h
  exact h _ H1 Z1 [] (.atom ex rep_bl)

/-! ### tests -/
theorem tP_T {K : PySem.W.Frag} {f : En → Ot D} {σ : L2.St} {H : Hp} {Q : Bool → Hp → Prop} (h : tPT K cm W (eT f) σ H Q) : tP K cm W f σ H (fun x H1 => ∃ k, x = .bl k ∧ Q k H1) := by
  obtain ⟨Z, ρ, Fs, ok, h⟩ := h
  unfold eT at h
  refine tP_bind ok (fun q => ?_) (fun d q v H1 Z1 F r => ?_) (fun x q => ?_)
  · rw [q] at h; exact h
  · rw [q, Ot.bind_ok] at h
    cases q2 : asB d with
    | no => rw [q2] at h; exact h.elim
    | ex x => exact absurd q2 asB_ex
    | ok b =>
      rw [q2] at h
      have e := asB_ok q2
      subst e
      obtain ⟨rfl, rfl⟩ := r.rep
      exact ⟨b, rfl, h H1 Z1 r.ext⟩
  · rw [q] at h; exact h
/-- an expression whose value is a bool, as a test (no comparison, no and, or, not) -/
theorem st_val (ha : SE X cm W e f) (he : ∀ whole, isTrue e X.env whole = (do let v ← whole; standAt e.pos; holding [v] (truthy v)) := by intro _; rfl) : ST X cm W e (eT f) := PT.imp (pt_val ha he) fun σ H Q h => tP_T h
theorem st_cmp {op : CmpOp} {r : R2} {p : List D → Option D} (ho : OpR X (compareOp op) r) (hp : OkPr X.K cm (r2L r) p) (ha : SE X cm W a f) (hb : SE X cm W b g) (hm : behindInMarks op b = false) : ST X cm W (.Compare a [op] [b] pos) (eT (ePr p [f, g])) :=
  PT.imp (pt_cmpR ho ha hb hm) fun σ H Q h => two_of (R := fun x y H1 => r x y H1 fun z H2 => ∃ k, z = .bl k ∧ Q k H2) (pr_end (Q := fun z H2 => ∃ k, z = .bl k ∧ Q k H2) hp (tP_T h))
theorem tPT_go {K : PySem.W.Frag} {f : En → Ot Bool} {σ : L2.St} {H H1 : Hp} {Q : Bool → Hp → Prop} {Z Z1 : Zn} {ρ : En} {Fs : List (List Addr)} (ok : OkP K cm H σ ρ Fs Z) (ex : Ext H Z H1 Z1)
    (h : FinB K cm W σ H Z Q (f ρ)) : tPT K cm W f σ H1 Q := by
  refine ⟨Z1, ρ, Fs, ok.ext ex, ?_⟩
  cases q : f ρ with
  | no => rw [q] at h; exact h
  | ok b => rw [q] at h; exact fun H' Z' ex2 => h H' Z' (ex.trans ex2)
  | ex x => rw [q] at h; exact fun cls dd H' Z' ex2 xr => h cls dd H' Z' (ex.trans ex2) xr
theorem tPT_bind {K : PySem.W.Frag} {f : En → Ot Bool} {k : Bool → Ot Bool} {σ : L2.St} {H : Hp} {Q R : Bool → Hp → Prop} {Z : Zn} {ρ : En} {Fs : List (List Addr)} (ok : OkP K cm H σ ρ Fs Z)
    (h : FinB K cm W σ H Z Q ((f ρ).bind k))
    (hk : ∀ b H1 Z1, Ext H Z H1 Z1 → (f ρ).bind k = k b → R b H1) : tPT K cm W f σ H R := by
  refine ⟨Z, ρ, Fs, ok, ?_⟩
  cases q : f ρ with
  | no => rw [q] at h; exact h
  | ok b => exact fun H' Z' ex => hk b H' Z' ex (by rw [q]; rfl)
  | ex x => rw [q] at h; exact h
theorem sw_and1 {t : En → Ot Bool} (ha : ST X cm W a t) : SW X cm W (.BoolOp .And [a] pos) t := pw_and1 ha
theorem sw_or1 {t : En → Ot Bool} (ha : ST X cm W a t) : SW X cm W (.BoolOp .Or [a] pos) t := pw_or1 ha
theorem sw_and {t u : En → Ot Bool} {rest : List Expr} (ha : ST X cm W a t) (hb : SW X cm W (.BoolOp .And (b :: rest) pos) u) : SW X cm W (.BoolOp .And (a :: b :: rest) pos) (bAnd t u) := PW.imp (pw_and ha hb) fun σ H Q h => by
  obtain ⟨Z, ρ, Fs, ok, h⟩ := h
  refine tPT_bind ok (k := fun b => if b then u ρ else .ok false) h fun k H1 Z1 ex hk => ?_
  have h' := h
  unfold bAnd at h'
  rw [hk] at h'
  cases k with
  | true => exact tPT_go ok ex h'
  | false => exact h' H1 Z1 ex
theorem sw_or {t u : En → Ot Bool} {rest : List Expr} (ha : ST X cm W a t) (hb : SW X cm W (.BoolOp .Or (b :: rest) pos) u) : SW X cm W (.BoolOp .Or (a :: b :: rest) pos) (bOr t u) := PW.imp (pw_or ha hb) fun σ H Q h => by
  obtain ⟨Z, ρ, Fs, ok, h⟩ := h
  refine tPT_bind ok (k := fun b => if b then .ok true else u ρ) h fun k H1 Z1 ex hk => ?_
  have h' := h
  unfold bOr at h'
  rw [hk] at h'
  cases k with
  | false => exact tPT_go ok ex h'
  | true => exact h' H1 Z1 ex
theorem st_w {t : En → Ot Bool} (h : SW X cm W e t) : ST X cm W e t := h.pt
theorem st_not {t : En → Ot Bool} (ha : ST X cm W a t) : ST X cm W (.UnaryOp .Not a pos) (bNot t) := PT.imp (pt_not ha) fun σ H Q h => by
  obtain ⟨Z, ρ, Fs, ok, h⟩ := h
  refine tPT_bind ok (k := fun b => .ok (!b)) h fun k H1 Z1 ex hk => ?_
  have h' := h
  unfold bNot at h'
  rw [hk] at h'
  exact h' H1 Z1 ex
theorem s_ifExp {t : En → Ot Bool} (hc : ST X cm W c t) (ha : SE X cm W a f) (hb : SE X cm W b g) : SE X cm W (.IfExp c a b pos) (eIf t f g) := PE.imp (pe_ifExp hc ha hb) fun σ H Q h => by
  obtain ⟨Z, ρ, Fs, ok, h⟩ := h
  unfold eIf at h
  refine ⟨Z, ρ, Fs, ok, ?_⟩
  cases q : t ρ with
  | no => rw [q] at h; exact h
  | ex x => rw [q] at h; exact h
  | ok k =>
    rw [q, Ot.bind_ok] at h
    intro H1 Z1 ex
    cases k with
    | true => exact tP_go ok ex h
    | false => exact tP_go ok ex h

/-! ### chains a < b < c -/
def eChain (p p' : List D → Option D) (f g h : En → Ot D) : En → Ot D := fun ρ => (f ρ).bind fun x => (g ρ).bind fun y => (Ot.of (p [x, y])).bind fun z => (asB z).bind fun b => if b then (h ρ).bind fun w => .of (p' [y, w]) else .ok (.bl false)
/-- the middle one an atom -/
def isAt : D → Bool
  | .nd _ _ => false
  | _ => true
theorem chain_end {K : PySem.W.Frag} {r r' : R2} {p p' : List D → Option D} (hp : OkPr K cm (r2L r) p) (hp' : OkPr K cm (r2L r') p') (hy : ∀ x y z, p [x, y] = some z → isAt y = true) {σ : L2.St} {H : Hp} {Q : VK} (q0 : tP K cm W (eChain p p' f g h) σ H Q) :
    tChain r r' (tP K cm W f) (tP K cm W g) (tP K cm W h) σ H Q := by
  obtain ⟨Z, ρ, Fs, ok, q0⟩ := q0
  unfold eChain at q0
  refine tP_bind ok (fun q => ?_) (fun x q v H1 Z1 F r1 => ?_) (fun x q => ?_)
  · rw [q] at q0; exact q0
  · rw [q, Ot.bind_ok] at q0
    have ok1 := ok.ext r1.ext
    refine tP_bind ok1 (fun q => ?_) (fun y q u H2 Z2 G r2 => ?_) (fun x q => ?_)
    · rw [q] at q0; exact q0
    · rw [q, Ot.bind_ok] at q0
      have ok2 := ok1.ext r2.ext
      cases e : p [x, y] with
      | none => rw [e] at q0; exact q0.elim
      | some z =>
        rw [e, Ot.of_some, Ot.bind_ok] at q0
        have hat := hy x y z e
        have rl := ResL.cons r1 (ResL.cons r2 (.nil ok2.dom))
        have two : ∀ v u R (r0 : R2), r2L r0 [v, u] H2 R → r0 v u H2 R := fun v u R r0 ⟨_, _, e, k⟩ => by cases e; exact k
        refine two v u _ r (hp H2 Z2 [x, y] [v, u] _ z ok2.dom rl.rep rl.nd rl.nf e _ fun z' H3 Z3 F3 r3 => ?_)
        cases e2 : asB z with
        | no => rw [e2] at q0; exact q0.elim
        | ex x => exact absurd e2 asB_ex
        | ok k =>
          rw [e2, Ot.bind_ok] at q0
          have e3 := asB_ok e2
          subst e3
          obtain ⟨rfl, rfl⟩ := r3.rep
          have ex3 : Ext H Z H3 Z3 := r1.ext.trans (r2.ext.trans r3.ext)
          refine ⟨k, rfl, ?_⟩
          cases k with
          | false => exact q0 _ H3 Z3 [] (.atom ex3 rep_bl)
          | true =>
            show tP _ _ _ _ _ _ _
            have q0 : FinD K cm W σ H Z Q ((h ρ).bind fun w => Ot.of (p' [y, w])) := q0
            refine tP_bind (ok.ext ex3) (fun q => ?_) (fun w q t H4 Z4 F4 r4 => ?_) (fun x q => ?_)
            · rw [q] at q0; exact q0
            · rw [q, Ot.bind_ok] at q0
              cases e5 : p' [y, w] with
              | none => rw [e5] at q0; exact q0.elim
              | some d =>
                rw [e5] at q0
                have dm4 := (ok.ext ex3).dom.ext r4.ext
                have ry : Rep K cm H4 Z4 y u [] := by
                  cases y with
                  | nd k ds => cases hat
                  | non => exact ⟨r2.rep.1, rfl⟩
                  | bl b => exact ⟨r2.rep.1, rfl⟩
                  | int i => exact ⟨r2.rep.1, rfl⟩
                  | str s => exact ⟨r2.rep.1, rfl⟩
                have key := hp' H4 Z4 [y, w] [u, t] [[], F4] d dm4 (repL_cons ry (repL_cons r4.rep repL_nil)) (by simpa using r4.nd) (by simpa using r4.nf) e5 Q fun v5 H5 Z5 F5 r5 =>
                  q0 v5 H5 Z5 F5 (r5.trans (ex3.trans r4.ext) fun a ha => .inl (ex3.gr.back (r4.new a (by simpa using ha))))
                obtain ⟨_, _, e6, k6⟩ := key
                cases e6
                exact k6
            · rw [q] at q0; exact fun cls dd H' Z' ex xr => q0 cls dd H' Z' (ex3.trans ex) xr
    · rw [q] at q0; exact fun cls dd H' Z' ex xr => q0 cls dd H' Z' (r1.ext.trans ex) xr
  · rw [q] at q0; exact q0
theorem s_chain {op op' : CmpOp} {r r' : R2} {p p' : List D → Option D} (ho : OpR X (compareOp op) r) (ho' : OpR X (compareOp op') r') (hp : OkPr X.K cm (r2L r) p) (hp' : OkPr X.K cm (r2L r') p') (ha : SE X cm W a f) (hb : SE X cm W b g) (hc : SE X cm W c h)
    (hy : ∀ x y z, p [x, y] = some z → isAt y = true) (hm : lastMarks [op, op'] [b, c] = false := by rfl) : SE X cm W (.Compare a [op, op'] [b, c] pos) (eChain p p' f g h) :=
  PE.imp (pe_chain ho ho' ha hb hc hm) fun σ H Q q0 => chain_end hp hp' hy q0
theorem st_chain {op op' : CmpOp} {r r' : R2} {p p' : List D → Option D} (ho : OpR X (compareOp op) r) (ho' : OpR X (compareOp op') r') (hp : OkPr X.K cm (r2L r) p) (hp' : OkPr X.K cm (r2L r') p') (ha : SE X cm W a f) (hb : SE X cm W b g) (hc : SE X cm W c h)
    (hy : ∀ x y z, p [x, y] = some z → isAt y = true) (hm : lastMarks [op, op'] [b, c] = false := by rfl) : ST X cm W (.Compare a [op, op'] [b, c] pos) (eT (eChain p p' f g h)) :=
  PT.imp (pt_chain ho ho' ha hb hc hm) fun σ H Q q0 => chain_end hp hp' hy (tP_T q0)
end
end OB

namespace OB
open PySem PySem.Spec PyProof.Rows L2

/-! ### atoms -/
def toV : D → V
  | .non => .non
  | .bl b => .bl b
  | .int i => .int i
  | .str s => .str s
  | .nd _ _ => .non
def eqA : D → D → Bool
  | .non, .non => true
  | .bl a, .bl b => a == b
  | .bl a, .int b => (if a then 1 else 0) == b
  | .int a, .bl b => a == (if b then 1 else 0)
  | .int a, .int b => a == b
  | .str a, .str b => a == b
  | _, _ => false
section
variable {K : PySem.W.Frag} {cm : Cm} {H : Hp} {Z : Zn}
theorem rep_at {d : D} {v : V} {F : List Addr} (h : Rep K cm H Z d v F) (a : isAt d = true) : v = toV d ∧ F = [] ∧ flatV v = true := by
  cases d with
  | nd k ds => cases a
  | non => obtain ⟨rfl, rfl⟩ := h; exact ⟨rfl, rfl, rfl⟩
  | bl b => obtain ⟨rfl, rfl⟩ := h; exact ⟨rfl, rfl, rfl⟩
  | int i => obtain ⟨rfl, rfl⟩ := h; exact ⟨rfl, rfl, rfl⟩
  | str s => obtain ⟨rfl, rfl⟩ := h; exact ⟨rfl, rfl, rfl⟩
theorem eqV_toV {x y : D} (hx : isAt x = true) (hy : isAt y = true) : eqV (toV x) (toV y) = eqA x y := by
  cases x <;> first | (cases hx; done) | (cases y <;> first | (cases hy; done) | rfl)
theorem repL_at : ∀ {ds : List D} {vs : List V} {Fs : List (List Addr)}, RepL K cm H Z ds vs Fs → ds.all isAt = true → vs = ds.map toV ∧ vs.all flatV = true
  | [], _, _, h, _ => by obtain ⟨rfl, rfl⟩ := h; exact ⟨rfl, rfl⟩
  | d :: ds, _, _, h, a => by
    obtain ⟨v, vs', F, Fs', rfl, rfl, h1, h2⟩ := h
    rw [List.all_cons, Bool.and_eq_true] at a
    obtain ⟨e1, e2⟩ := repL_at h2 a.2
    obtain ⟨e3, _, e4⟩ := rep_at h1 a.1
    subst e1 e3
    exact ⟨rfl, by rw [List.all_cons, e4, e2]; rfl⟩
theorem any_toV {x : D} (hx : isAt x = true) : ∀ {ds : List D}, ds.all isAt = true → (ds.map toV).any (fun y => eqV y (toV x)) = ds.any fun y => eqA y x
  | [], _ => rfl
  | d :: ds, a => by
    rw [List.all_cons, Bool.and_eq_true] at a
    rw [List.map_cons, List.any_cons, List.any_cons, any_toV hx a.2, eqV_toV a.1 hx]
/-! lists of one kind -/
def intsD : List D → Option (List Int)
  | [] => some []
  | .int i :: ds => (intsD ds).map (i :: ·)
  | _ => none
def strsD : List D → Option (List Str)
  | [] => some []
  | .str s :: ds => (strsD ds).map (s :: ·)
  | _ => none
def blsD : List D → Option (List Bool)
  | [] => some []
  | .bl b :: ds => (blsD ds).map (b :: ·)
  | _ => none
theorem intsD_eq : ∀ {ds : List D} {ns : List Int}, intsD ds = some ns → ds = ns.map .int
  | [], _, h => by cases h; rfl
  | d :: ds, ns, h => by
    cases d with
    | int i =>
      unfold intsD at h
      cases q : intsD ds with
      | none => rw [q] at h; cases h
      | some ms => rw [q] at h; cases h; rw [intsD_eq q]; rfl
    | _ => cases h
theorem strsD_eq : ∀ {ds : List D} {ns : List Str}, strsD ds = some ns → ds = ns.map .str
  | [], _, h => by cases h; rfl
  | d :: ds, ns, h => by
    cases d with
    | str i =>
      unfold strsD at h
      cases q : strsD ds with
      | none => rw [q] at h; cases h
      | some ms => rw [q] at h; cases h; rw [strsD_eq q]; rfl
    | _ => cases h
theorem blsD_eq : ∀ {ds : List D} {ns : List Bool}, blsD ds = some ns → ds = ns.map .bl
  | [], _, h => by cases h; rfl
  | d :: ds, ns, h => by
    cases d with
    | bl i =>
      unfold blsD at h
      cases q : blsD ds with
      | none => rw [q] at h; cases h
      | some ms => rw [q] at h; cases h; rw [blsD_eq q]; rfl
    | _ => cases h
theorem repL_map {α : Type} {g : α → D} {g' : α → V} (hr : ∀ x, isAt (g x) = true ∧ toV (g x) = g' x) : ∀ {ns : List α} {vs : List V} {Fs : List (List Addr)}, RepL K cm H Z (ns.map g) vs Fs → vs = ns.map g'
  | [], _, _, h => h.1
  | n :: ns, _, _, h => by
    obtain ⟨v, vs', F, Fs', rfl, rfl, h1, h2⟩ := h
    obtain ⟨e, _⟩ := rep_at h1 (hr n).1
    rw [List.map_cons, ← (hr n).2, e, repL_map hr h2]
theorem repL_ints {ns : List Int} {vs : List V} {Fs : List (List Addr)} (h : RepL K cm H Z (ns.map .int) vs Fs) : vs = ns.map .int := repL_map (g' := .int) (fun _ => ⟨rfl, rfl⟩) h
theorem repL_strS {ns : List Str} {vs : List V} {Fs : List (List Addr)} (h : RepL K cm H Z (ns.map .str) vs Fs) : vs = ns.map .str := repL_map (g' := .str) (fun _ => ⟨rfl, rfl⟩) h
theorem repL_bls {ns : List Bool} {vs : List V} {Fs : List (List Addr)} (h : RepL K cm H Z (ns.map .bl) vs Fs) : vs = ns.map .bl := repL_map (g' := .bl) (fun _ => ⟨rfl, rfl⟩) h
/-- a list of atoms is made -/
theorem repL_mk {α : Type} {g : α → D} {g' : α → V} (hr : ∀ x, Rep K cm H Z (g x) (g' x) []) : ∀ ns : List α, RepL K cm H Z (ns.map g) (ns.map g') (List.replicate ns.length [])
  | [] => repL_nil
  | n :: ns => repL_cons (hr n) (repL_mk hr ns)
end

/-! ### comparisons -/
def pLt : List D → Option D
  | [.int i, .int j] => some (.bl (decide (i < j)))
  | _ => none
def pLe : List D → Option D
  | [.int i, .int j] => some (.bl (decide (i ≤ j)))
  | _ => none
def pGt : List D → Option D
  | [.int i, .int j] => some (.bl (decide (j < i)))
  | _ => none
def pGe : List D → Option D
  | [.int i, .int j] => some (.bl (decide (j ≤ i)))
  | _ => none
/-- == of atoms -/
def atEq : D → D → Option Bool
  | .int i, .int j => some (i == j)
  | .str a, .str b => some (a == b)
  | .bl a, .bl b => some (a == b)
  | .non, .non => some true
  | .int _, .str _ => some false
  | .str _, .int _ => some false
  | .non, .int _ => some false
  | .int _, .non => some false
  | .non, .str _ => some false
  | .str _, .non => some false
  | .bl _, .str _ => some false
  | .str _, .bl _ => some false
  | .bl _, .non => some false
  | .non, .bl _ => some false
  | _, _ => none
mutual
def toPy : D → Option PyData
  | .non => some .none
  | .bl b => some (.bool b)
  | .int i => some (.int i)
  | .str s => some (.str s)
  | .nd (.lst _) ds => (toPyL ds).map .list
  | .nd .tup ds => (toPyL ds).map .tuple
  | .nd _ _ => none
def toPyL : List D → Option (List PyData)
  | [] => some []
  | d :: ds => (toPy d).bind fun e => (toPyL ds).map (e :: ·)
end
def deepEq (x y : D) : Option Bool := (toPy x).bind fun a => (toPy y).bind fun b => if SeqAt.shaped a && SeqAt.shaped b then some (PyData.eqv a b) else none
def pEq : List D → Option D
  | [x, y] => ((atEq x y).or (deepEq x y)).map .bl
  | _ => none
def pNe : List D → Option D
  | [x, y] => ((atEq x y).or (deepEq x y)).map fun b => .bl (!b)
  | _ => none
def rEqQ (K : PySem.W.Frag) : R2 := fun x y H Q => rEq x y H Q ∨ rEqD K x y H Q
def rNeQ (K : PySem.W.Frag) : R2 := fun x y H Q => rNe x y H Q ∨ rNeD K x y H Q
theorem op_eqQ {X : Cx} (hu : X.A.units + 64 < cLine) : OpR X (compareOp .Eq) (rEqQ X.K) := op_eq.or (op_eqD hu)
theorem op_neQ {X : Cx} (hu : X.A.units + 64 < cLine) : OpR X (compareOp .NotEq) (rNeQ X.K) := op_ne.or (op_neD hu)
section
variable {K : PySem.W.Frag} {cm : Cm}
theorem ok_cmpI {g : Int → Int → Bool} {p : List D → Option D} (hp : ∀ ds d, p ds = some d → ∃ i j, ds = [.int i, .int j] ∧ d = .bl (g i j)) : OkPr K cm (r2L (rI0 fun i j => .bl (g i j))) p := by
  intro H Z ds vs Fs d dm rp nd nf e Q q
  obtain ⟨i, j, rfl, rfl⟩ := hp _ _ e
  obtain ⟨v, u, F, G, rfl, rfl, ⟨rfl, rfl⟩, ⟨rfl, rfl⟩⟩ := repL2 rp
  exact ⟨_, _, rfl, _, _, rfl, rfl, q _ H Z [] (.atom (.refl dm) rep_bl)⟩
theorem ok_lt : OkPr K cm (r2L (rI0 fun i j => .bl (decide (i < j)))) pLt := ok_cmpI fun ds d e => by
  unfold pLt at e
  split at e
  · cases e; exact ⟨_, _, rfl, rfl⟩
  · cases e
theorem ok_le : OkPr K cm (r2L (rI0 fun i j => .bl (decide (i ≤ j)))) pLe := ok_cmpI fun ds d e => by
  unfold pLe at e
  split at e
  · cases e; exact ⟨_, _, rfl, rfl⟩
  · cases e
theorem ok_gt : OkPr K cm (r2L (rI0 fun i j => .bl (decide (j < i)))) pGt := ok_cmpI (g := fun i j => decide (j < i)) fun ds d e => by
  unfold pGt at e
  split at e
  · cases e; exact ⟨_, _, rfl, rfl⟩
  · cases e
theorem ok_ge : OkPr K cm (r2L (rI0 fun i j => .bl (decide (j ≤ i)))) pGe := ok_cmpI (g := fun i j => decide (j ≤ i)) fun ds d e => by
  unfold pGe at e
  split at e
  · cases e; exact ⟨_, _, rfl, rfl⟩
  · cases e
theorem mid_lt {x y z : D} (h : pLt [x, y] = some z) : isAt y = true := by
  unfold pLt at h; split at h
  · rename_i e; cases e; rfl
  · cases h
theorem mid_le {x y z : D} (h : pLe [x, y] = some z) : isAt y = true := by
  unfold pLe at h; split at h
  · rename_i e; cases e; rfl
  · cases h
mutual
theorem dp_of {H : Hp} {Z : Zn} : ∀ (d : D) {v : V} {F : List Addr} {e : PyData}, Rep K cm H Z d v F → toPy d = some e → Dp K H v e
  | .non, _, _, _, h, q => by cases q; rw [h.1]; exact .non
  | .bl b, _, _, _, h, q => by cases q; rw [h.1]; exact .bl b
  | .int b, _, _, _, h, q => by cases q; rw [h.1]; exact .int b
  | .str b, _, _, _, h, q => by cases q; rw [h.1]; exact .str b
  | .nd (.lst f) ds, _, _, _, h, q => by
    obtain ⟨a, vs, Fs, rfl, hc, hl, rfl⟩ := h
    unfold toPy at q
    cases q2 : toPyL ds with
    | none => rw [q2] at q; cases q
    | some es => rw [q2] at q; cases q; exact .lst (rdL hc.2.1) (dps_of ds hl q2)
  | .nd .tup ds, _, _, _, h, q => by
    obtain ⟨a, vs, Fs, rfl, hc, hl, rfl⟩ := h
    unfold toPy at q
    cases q2 : toPyL ds with
    | none => rw [q2] at q; cases q
    | some es => rw [q2] at q; cases q; exact .tup hc (dps_of ds hl q2)
  | .nd (.dct _ _) ds, _, _, _, h, q => by cases q
  | .nd (.obj _ _ _) ds, _, _, _, h, q => by cases q
theorem dps_of {H : Hp} {Z : Zn} : ∀ (ds : List D) {vs : List V} {Fs : List (List Addr)} {es : List PyData}, RepL K cm H Z ds vs Fs → toPyL ds = some es → DpAll K H vs es
  | [], _, _, _, h, q => by cases q; rw [h.1]; exact .nil
  | d :: ds, _, _, es, h, q => by
    obtain ⟨v, vs', F, Fs', rfl, rfl, h1, h2⟩ := h
    unfold toPyL at q
    cases q1 : toPy d with
    | none => rw [q1] at q; cases q
    | some e =>
      rw [q1] at q
      cases q2 : toPyL ds with
      | none => simp [q2] at q
      | some es' =>
        simp [q2] at q
        subst q
        exact .cons (dp_of d h1 q1) (dps_of ds h2 q2)
end
theorem atEq_ok {H : Hp} {Z : Zn} {x y : D} {v u : V} {F G : List Addr} {b : Bool} (h1 : Rep K cm H Z x v F) (h2 : Rep K cm H Z y u G) (e : atEq x y = some b) : scal v u = true ∧ decide (v = u) = b := by
  unfold atEq at e
  split at e <;> first | (cases e; done) | (cases e; obtain ⟨rfl, rfl⟩ := h1; obtain ⟨rfl, rfl⟩ := h2; first | exact ⟨rfl, dec_int⟩ | exact ⟨rfl, dec_str⟩ | exact ⟨rfl, dec_bl⟩ | exact ⟨rfl, by decide⟩ | exact ⟨rfl, by simp⟩)
theorem ok_eq : OkPr K cm (r2L (rEqQ K)) pEq := by
  intro H Z ds vs Fs d dm rp nd nf e Q q
  unfold pEq at e
  split at e
  · rename_i x y
    obtain ⟨v, u, F, G, rfl, rfl, h1, h2⟩ := repL2 rp
    refine ⟨v, u, rfl, ?_⟩
    cases q1 : atEq x y with
    | some b =>
      obtain ⟨a, c⟩ := atEq_ok h1 h2 q1
      refine .inl ⟨a, ?_⟩
      rw [q1] at e
      cases e
      rw [c]
      exact q _ H Z [] (.atom (.refl dm) rep_bl)
    | none =>
      rw [q1] at e
      have e' : (deepEq x y).map D.bl = some d := e
      unfold deepEq at e'
      cases q2 : toPy x with
      | none => rw [q2] at e'; cases e'
      | some a =>
        cases q3 : toPy y with
        | none => rw [q2, q3] at e'; cases e'
        | some b =>
          rw [q2, q3] at e'
          have e2 : (if SeqAt.shaped a && SeqAt.shaped b then some (PyData.eqv a b) else none).map D.bl = some d := e'
          split at e2
          · rename_i sh
            rw [Bool.and_eq_true] at sh
            cases e2
            exact .inr ⟨a, b, dp_of x h1 q2, dp_of y h2 q3, sh.1, sh.2, q _ H Z [] (.atom (.refl dm) rep_bl)⟩
          · cases e2
  · cases e
theorem ok_ne : OkPr K cm (r2L (rNeQ K)) pNe := by
  intro H Z ds vs Fs d dm rp nd nf e Q q
  unfold pNe at e
  split at e
  · rename_i x y
    obtain ⟨v, u, F, G, rfl, rfl, h1, h2⟩ := repL2 rp
    refine ⟨v, u, rfl, ?_⟩
    cases q1 : atEq x y with
    | some b =>
      obtain ⟨a, c⟩ := atEq_ok h1 h2 q1
      refine .inl ⟨a, ?_⟩
      rw [q1] at e
      cases e
      rw [c]
      exact q _ H Z [] (.atom (.refl dm) rep_bl)
    | none =>
      rw [q1] at e
      have e' : (deepEq x y).map (fun b => D.bl (!b)) = some d := e
      unfold deepEq at e'
      cases q2 : toPy x with
      | none => rw [q2] at e'; cases e'
      | some a =>
        cases q3 : toPy y with
        | none => rw [q2, q3] at e'; cases e'
        | some b =>
          rw [q2, q3] at e'
          have e2 : (if SeqAt.shaped a && SeqAt.shaped b then some (PyData.eqv a b) else none).map (fun b => D.bl (!b)) = some d := e'
          split at e2
          · rename_i sh
            rw [Bool.and_eq_true] at sh
            cases e2
            exact .inr ⟨a, b, dp_of x h1 q2, dp_of y h2 q3, sh.1, sh.2, q _ H Z [] (.atom (.refl dm) rep_bl)⟩
          · cases e2
  · cases e
end

/-! ### is None, is True -/
def isNon : D → Bool
  | .non => true
  | _ => false
def pIs : List D → Option D
  | [x, .non] => some (.bl (isNon x))
  | [.bl a, .bl b] => some (.bl (decide (a = b)))
  | _ => none
def pIsN : List D → Option D
  | [x, .non] => some (.bl (!isNon x))
  | [.bl a, .bl b] => some (.bl (!decide (a = b)))
  | _ => none
def rIsQ : R2 := fun x y H Q => (y = .non ∧ Q (.bl (decide (x = .non))) H) ∨ rIsB x y H Q
def rIsNQ : R2 := fun x y H Q => (y = .non ∧ Q (.bl (!decide (x = .non))) H) ∨ rNotB x y H Q
theorem op_isQ {X : Cx} : OpR X (compareOp .Is) rIsQ := op_isN.or op_isBl
theorem op_isNQ {X : Cx} : OpR X (compareOp .IsNot) rIsNQ := op_notN.or op_notBl
section
variable {K : PySem.W.Frag} {cm : Cm}
theorem isNon_ok {H : Hp} {Z : Zn} {x : D} {v : V} {F : List Addr} (h : Rep K cm H Z x v F) : decide (v = .non) = isNon x := by
  cases x with
  | nd k ds => obtain ⟨a, vs, Fs, rfl, _⟩ := h; simp [isNon]
  | _ => obtain ⟨rfl, rfl⟩ := h; simp [isNon]
theorem ok_is : OkPr K cm (r2L rIsQ) pIs := by
  intro H Z ds vs Fs d dm rp nd nf e Q q
  unfold pIs at e
  split at e
  · cases e
    obtain ⟨v, u, F, G, rfl, rfl, h1, ⟨rfl, rfl⟩⟩ := repL2 rp
    refine ⟨v, _, rfl, .inl ⟨rfl, ?_⟩⟩
    rw [isNon_ok h1]
    exact q _ H Z [] (.atom (.refl dm) rep_bl)
  · cases e
    obtain ⟨v, u, F, G, rfl, rfl, ⟨rfl, rfl⟩, ⟨rfl, rfl⟩⟩ := repL2 rp
    exact ⟨_, _, rfl, .inr ⟨_, _, rfl, rfl, q _ H Z [] (.atom (.refl dm) rep_bl)⟩⟩
  · cases e
theorem ok_isN : OkPr K cm (r2L rIsNQ) pIsN := by
  intro H Z ds vs Fs d dm rp nd nf e Q q
  unfold pIsN at e
  split at e
  · cases e
    obtain ⟨v, u, F, G, rfl, rfl, h1, ⟨rfl, rfl⟩⟩ := repL2 rp
    refine ⟨v, _, rfl, .inl ⟨rfl, ?_⟩⟩
    rw [isNon_ok h1]
    exact q _ H Z [] (.atom (.refl dm) rep_bl)
  · cases e
    obtain ⟨v, u, F, G, rfl, rfl, ⟨rfl, rfl⟩, ⟨rfl, rfl⟩⟩ := repL2 rp
    exact ⟨_, _, rfl, .inr ⟨_, _, rfl, rfl, q _ H Z [] (.atom (.refl dm) rep_bl)⟩⟩
  · cases e
end
end OB

namespace OB
open PySem PySem.Spec PyProof.Rows L2

/-! ### keys -/
def keyD : D → Option Key
  | .int i => some (.inl i)
  | .str s => some (.inr s)
  | _ => none
/-- what a dict holds under a key -/
def look {α : Type} : List Key → List α → Key → Option α
  | k :: ks, d :: ds, q => if k = q then some d else look ks ds q
  | _, _, _ => none
section
variable {K : PySem.W.Frag} {cm : Cm} {H : Hp} {Z : Zn}
theorem key_ok {d : D} {k : Key} {v : V} {F : List Addr} (h : Rep K cm H Z d v F) (e : keyD d = some k) : v = kV k := by
  cases d with
  | int i => cases e; exact h.1
  | str i => cases e; exact h.1
  | _ => cases e
theorem look_valV : ∀ {ks : List Key} {vs : List V}, ks.length = vs.length → ∀ k, valV (ks.zip vs) k = look ks vs k
  | [], [], _, _ => rfl
  | q :: ks, v :: vs, l, k => by
    have ih := look_valV (ks := ks) (vs := vs) (by simpa using l) k
    unfold valV at ih ⊢
    rw [List.zip_cons_cons, List.find?_cons]
    unfold look
    by_cases e : q = k
    · simp [e]
    · simp [e, ih]
theorem look_rep : ∀ {ks : List Key} {ds : List D} {vs : List V} {Fs : List (List Addr)}, RepL K cm H Z ds vs Fs → ∀ k, (look ks vs k).isSome = (look ks ds k).isSome ∧ ∀ d, look ks ds k = some d → ∃ (v : V) (F : List Addr) (i : Nat), look ks vs k = some v ∧ Fs[i]? = some F ∧ ds[i]? = some d ∧ Rep K cm H Z d v F
  | [], ds, vs, Fs, _, _ => by
    refine ⟨by cases ds <;> cases vs <;> rfl, fun d e => ?_⟩
    cases ds <;> cases e
  | q :: ks, [], vs, Fs, h, _ => by
    obtain ⟨rfl, rfl⟩ := h
    exact ⟨rfl, fun d e => nomatch e⟩
  | q :: ks, d0 :: ds, _, _, h, k => by
    obtain ⟨v, vs', F, Fs', rfl, rfl, h1, h2⟩ := h
    unfold look
    by_cases e : q = k
    · rw [if_pos e, if_pos e]
      exact ⟨rfl, fun d e2 => by cases e2; exact ⟨v, F, 0, rfl, rfl, rfl, h1⟩⟩
    · rw [if_neg e, if_neg e]
      obtain ⟨a, b⟩ := look_rep (ks := ks) h2 k
      refine ⟨a, fun d e2 => ?_⟩
      obtain ⟨v2, F2, i, c1, c2, c3, c4⟩ := b d e2
      exact ⟨v2, F2, i + 1, c1, by simpa using c2, by simpa using c3, c4⟩
end

/-! ### in -/
def inV? : List D → Option Bool
  | [x, .nd (.lst _) ds] => if isAt x && ds.all isAt then some (ds.any fun y => eqA y x) else none
  | [x, .nd .tup ds] => if isAt x && ds.all isAt then some (ds.any fun y => eqA y x) else none
  | [.str s, .str z] => match s.cps.toList with
    | [c] => some (decide (c ∈ z.cps.toList))
    | _ => none
  | [x, .nd (.dct _ ks) ds] => (keyD x).map fun k => (look ks ds k).isSome
  | _ => none
def pIn (ds : List D) : Option D := (inV? ds).map .bl
def pNotIn (ds : List D) : Option D := (inV? ds).map fun b => .bl (!b)
def rDIn : R2 := fun x y H Q => ∃ a o, y = .ref a ∧ DGet H a x o ∧ Q (.bl o.isSome) H
def rDNotIn : R2 := fun x y H Q => ∃ a o, y = .ref a ∧ DGet H a x o ∧ Q (.bl (!o.isSome)) H
section
variable {X : Cx}
theorem op_din (hu : X.A.units + 1 < cLine) : OpR X (compareOp .In) rDIn := by
  intro pins s σ H x y v u Q I rx ry h
  obtain ⟨a, o, rfl, g, q⟩ := h
  cases ry
  exact d_in hu I g rx fun s' I' => ⟨.bl o.isSome, H, I', rfl, q⟩
theorem op_dnotIn (hu : X.A.units + 1 < cLine) : OpR X (compareOp .NotIn) rDNotIn := by
  intro pins s σ H x y v u Q I rx ry h
  obtain ⟨a, o, rfl, g, q⟩ := h
  cases ry
  exact d_notIn hu I g rx fun s' I' => ⟨.bl (!o.isSome), H, I', rfl, q⟩
end
def rIn3 (K : PySem.W.Frag) : R2 := fun x y H Q => rIn K false x y H Q ∨ (∃ (c : Nat) (z : Str), x = .str ⟨#[c]⟩ ∧ y = .str z ∧ Q (.bl (decide (c ∈ z.cps.toList))) H) ∨ rDIn x y H Q
def rNotIn3 (K : PySem.W.Frag) : R2 := fun x y H Q => rIn K true x y H Q ∨ (∃ (c : Nat) (z : Str), x = .str ⟨#[c]⟩ ∧ y = .str z ∧ Q (.bl (!decide (c ∈ z.cps.toList))) H) ∨ rDNotIn x y H Q
theorem op_in3 {X : Cx} (hu : X.A.units + 1 < cLine) : OpR X (compareOp .In) (rIn3 X.K) := op_in_seq.or (op_in_sign.or (op_din hu))
theorem op_notIn3 {X : Cx} (hu : X.A.units + 1 < cLine) : OpR X (compareOp .NotIn) (rNotIn3 X.K) := op_notIn_seq.or (op_notIn_sign.or (op_dnotIn hu))
section
variable {K : PySem.W.Frag} {cm : Cm}
/-- what in comes to, on values -/
theorem inV_ok {H : Hp} {Z : Zn} {ds : List D} {vs : List V} {Fs : List (List Addr)} {b : Bool} (rp : RepL K cm H Z ds vs Fs) (e : inV? ds = some b) :
    ∃ x y, vs = [x, y] ∧ ((∃ p xs, y = .ref p ∧ (SqL K H p xs ∨ SqT K H p xs) ∧ flatV x = true ∧ xs.all flatV = true ∧ inV x xs = b) ∨
      (∃ (c : Nat) (z : Str), x = .str ⟨#[c]⟩ ∧ y = .str z ∧ decide (c ∈ z.cps.toList) = b) ∨ ∃ a o, y = .ref a ∧ DGet H a x o ∧ o.isSome = b) := by
  unfold inV? at e
  split at e
  · rename_i x f ds'
    split at e
    · rename_i ha
      rw [Bool.and_eq_true] at ha
      cases e
      obtain ⟨v, u, F, G, rfl, rfl, h1, a, us, Gs, rfl, hc, hl, rfl⟩ := repL2 rp
      obtain ⟨e1, _, f1⟩ := rep_at h1 ha.1
      obtain ⟨e2, f2⟩ := repL_at hl ha.2
      refine ⟨v, _, rfl, .inl ⟨a, us, rfl, .inl (rdL hc.2.1), f1, f2, ?_⟩⟩
      subst e1 e2
      exact any_toV ha.1 ha.2
    · cases e
  · rename_i x ds'
    split at e
    · rename_i ha
      rw [Bool.and_eq_true] at ha
      cases e
      obtain ⟨v, u, F, G, rfl, rfl, h1, a, us, Gs, rfl, hc, hl, rfl⟩ := repL2 rp
      obtain ⟨e1, _, f1⟩ := rep_at h1 ha.1
      obtain ⟨e2, f2⟩ := repL_at hl ha.2
      refine ⟨v, _, rfl, .inl ⟨a, us, rfl, .inr hc, f1, f2, ?_⟩⟩
      subst e1 e2
      exact any_toV ha.1 ha.2
    · cases e
  · rename_i s z
    split at e
    · rename_i c hs
      cases e
      obtain ⟨v, u, F, G, rfl, rfl, ⟨rfl, rfl⟩, ⟨rfl, rfl⟩⟩ := repL2 rp
      have es : s = ⟨#[c]⟩ := by
        obtain ⟨a⟩ := s
        have : a = #[c] := Array.ext' (by simpa using hs)
        rw [this]
      exact ⟨_, _, rfl, .inr (.inl ⟨c, z, by rw [es], rfl, rfl⟩)⟩
    · cases e
  · rename_i x f ks ds'
    cases q : keyD x with
    | none => rw [q] at e; cases e
    | some k =>
      rw [q] at e
      cases e
      obtain ⟨v, u, F, G, rfl, rfl, h1, a, us, Gs, rfl, hc, hl, rfl⟩ := repL2 rp
      have ek := key_ok h1 q
      subst ek
      refine ⟨_, _, rfl, .inr (.inr ⟨a, _, rfl, DGet.k hc.1, ?_⟩)⟩
      rw [look_valV hc.2.1]
      exact (look_rep hl k).1
  · cases e
theorem ok_in : OkPr K cm (r2L (rIn3 K)) pIn := by
  intro H Z ds vs Fs d dm rp nd nf e Q q
  unfold pIn at e
  cases q1 : inV? ds with
  | none => rw [q1] at e; cases e
  | some b =>
    rw [q1] at e
    cases e
    have fin := q _ H Z [] (.atom (.refl dm) rep_bl)
    obtain ⟨x, y, rfl, h | h | h⟩ := inV_ok rp q1
    · obtain ⟨p, xs, rfl, a, c, f, rfl⟩ := h
      exact ⟨_, _, rfl, .inl ⟨p, xs, rfl, a, c, f, fin⟩⟩
    · obtain ⟨c, z, rfl, rfl, rfl⟩ := h
      exact ⟨_, _, rfl, .inr (.inl ⟨c, z, rfl, rfl, fin⟩)⟩
    · obtain ⟨a, o, rfl, g, rfl⟩ := h
      exact ⟨_, _, rfl, .inr (.inr ⟨a, o, rfl, g, fin⟩)⟩
theorem ok_notIn : OkPr K cm (r2L (rNotIn3 K)) pNotIn := by
  intro H Z ds vs Fs d dm rp nd nf e Q q
  unfold pNotIn at e
  cases q1 : inV? ds with
  | none => rw [q1] at e; cases e
  | some b =>
    rw [q1] at e
    cases e
    have fin := q _ H Z [] (.atom (.refl dm) rep_bl)
    obtain ⟨x, y, rfl, h | h | h⟩ := inV_ok rp q1
    · obtain ⟨p, xs, rfl, a, c, f, rfl⟩ := h
      exact ⟨_, _, rfl, .inl ⟨p, xs, rfl, a, c, f, fin⟩⟩
    · obtain ⟨c, z, rfl, rfl, rfl⟩ := h
      exact ⟨_, _, rfl, .inr (.inl ⟨c, z, rfl, rfl, fin⟩)⟩
    · obtain ⟨a, o, rfl, g, rfl⟩ := h
      exact ⟨_, _, rfl, .inr (.inr ⟨a, o, rfl, g, fin⟩)⟩
end

/-! ### subscripts -/
def pIx : List D → Option D
  | [.nd (.lst _) ds, .int i] => atI ds i
  | [.nd .tup ds, .int i] => atI ds i
  | [.str z, .int i] => if z.length ≤ sizeLine then (atI z.cps.toList i).map fun c => .str ⟨#[c]⟩ else none
  | [.nd (.dct _ ks) ds, x] => (keyD x).bind fun k => look ks ds k
  | _ => none
def rIxK (K : PySem.W.Frag) : R2 := fun x y H Q => ∃ a v, x = .ref a ∧ DGet H a y (some v) ∧ Q v H
section
variable {X : Cx}
theorem ix_dict (hu : X.A.units + 1 < cLine) : IxR X (rIxK X.K) := by
  intro value slice pins s σ H x y v u Q I rx ry h hs
  obtain ⟨a, w, rfl, g, q⟩ := h
  cases rx
  exact tail_any (dict_typeIs I g) PySem.F.slot_dict_getitem.lookup (d_getItem hu I g ry fun w' s' I' rw' => ⟨w, H, I', rw', q⟩) hs
def rIx4 (K : PySem.W.Frag) : R2 := fun x y H Q => rIx K x y H Q ∨ rIxK K x y H Q
theorem ix_4 (hu : X.A.units + 1 < cLine) : IxR X (rIx4 X.K) := ix_seq.or (ix_dict hu)
end
theorem atI_get' {α : Type} {xs : List α} {i : Int} {x : α} (h : atI xs i = some x) : ∃ j, ixN xs.length i = some j ∧ xs[j]? = some x := by
  unfold atI at h
  cases q : ixN xs.length i with
  | none => rw [q] at h; cases h
  | some j => rw [q] at h; exact ⟨j, rfl, h⟩
section
variable {K : PySem.W.Frag} {cm : Cm}
theorem atI_rep {H : Hp} {Z : Zn} {ds : List D} {vs : List V} {Fs : List (List Addr)} {i : Int} {d : D} (rp : RepL K cm H Z ds vs Fs) (e : atI ds i = some d) : ∃ (v : V) (F : List Addr) (j : Nat), atI vs i = some v ∧ Fs[j]? = some F ∧ Rep K cm H Z d v F := by
  obtain ⟨j, e1, e2⟩ := atI_get' e
  obtain ⟨v, F, a, b, c⟩ := rp.get e2
  refine ⟨v, F, j, ?_, b, c⟩
  unfold atI
  rw [rp.len.1, e1]
  exact a
theorem ok_ix : OkPr K cm (r2L (rIx4 K)) pIx := by
  intro H Z ds vs Fs d dm rp nd nf e Q q
  have key : ∀ {a : Addr} {k : Kd} {Gs : List (List Addr)} {G F : List Addr} {j : Nat}, Fs = [ownA k a ++ Gs.flatten, G] → Gs[j]? = some F → F.Sublist Fs.flatten := fun {a k Gs G F j} e h => by
    subst e
    rw [List.flatten_cons]
    exact ((flatten_get h).trans (List.sublist_append_right _ _)).trans (List.sublist_append_left _ _)
  unfold pIx at e
  split at e
  · obtain ⟨v, u, F, G, rfl, hF, ⟨a, us, Gs, rfl, hc, hl, rfl⟩, ⟨rfl, rfl⟩⟩ := repL2 rp
    obtain ⟨w, F', j, e1, e2, e3⟩ := atI_rep hl e
    have sb := key hF e2
    exact ⟨_, _, rfl, .inl (.inl ⟨a, us, _, w, rfl, rfl, rdL hc.2.1, e1, q _ H Z _ (.same dm e3 (nd.sublist sb) (fun x hx => sb.subset hx) fun x hx => nf x (sb.subset hx))⟩)⟩
  · obtain ⟨v, u, F, G, rfl, hF, ⟨a, us, Gs, rfl, hc, hl, rfl⟩, ⟨rfl, rfl⟩⟩ := repL2 rp
    obtain ⟨w, F', j, e1, e2, e3⟩ := atI_rep hl e
    have sb := key hF e2
    exact ⟨_, _, rfl, .inl (.inr (.inl ⟨a, us, _, w, rfl, rfl, hc, e1, q _ H Z _ (.same dm e3 (nd.sublist sb) (fun x hx => sb.subset hx) fun x hx => nf x (sb.subset hx))⟩))⟩
  · split at e
    · rename_i z i hl
      cases e2 : atI z.cps.toList i with
      | none => rw [e2] at e; cases e
      | some c =>
        rw [e2] at e
        cases e
        obtain ⟨v, u, F, G, rfl, hF, ⟨rfl, rfl⟩, ⟨rfl, rfl⟩⟩ := repL2 rp
        exact ⟨_, _, rfl, .inl (.inr (.inr ⟨z, i, c, rfl, rfl, hl, e2, q _ H Z [] (.atom (.refl dm) rep_str)⟩))⟩
    · cases e
  · rename_i f ks ds' x
    cases e2 : keyD x with
    | none => rw [e2] at e; cases e
    | some k =>
      rw [e2] at e
      have e : look ks ds' k = some d := e
      obtain ⟨v, u, F, G, rfl, hF, ⟨a, us, Gs, rfl, hc, hl, rfl⟩, h2⟩ := repL2 rp
      have ek := key_ok h2 e2
      subst ek
      obtain ⟨w, F', j, e3, e4, e5, e6⟩ := (look_rep (ks := ks) hl k).2 d e
      have sb := key hF e4
      refine ⟨_, _, rfl, .inr ⟨a, w, rfl, ?_, q _ H Z _ (.same dm e6 (nd.sublist sb) (fun x hx => sb.subset hx) fun x hx => nf x (sb.subset hx))⟩⟩
      have g := DGet.k (k := k) hc.1
      rw [look_valV hc.2.1, e3] at g
      exact g
  · cases e
end
end OB

namespace OB
open PySem PySem.Spec PyProof.Rows L2

/-! ### slices -/
def FinO (K : PySem.W.Frag) (cm : Cm) (W : WX) (σ : L2.St) (H : Hp) (Z : Zn) (Q : Option Int → Hp → Prop) : Ot (Option Int) → Prop
  | .no => False
  | .ok b => ∀ H' Z', Ext H Z H' Z' → Q b H'
  | .ex x => ∀ cls dd H' Z', Ext H Z H' Z' → XRep K cm H' Z' x cls dd → W cls dd σ H'
def tPO (K : PySem.W.Frag) (cm : Cm) (W : WX) (f : En → Ot (Option Int)) : TO := fun σ H Q => ∃ Z ρ Fs, OkP K cm H σ ρ Fs Z ∧ FinO K cm W σ H Z Q (f ρ)
abbrev SO (X : Cx) (cm : Cm) (W : WX) (e : Option Expr) (f : En → Ot (Option Int)) : Prop := PO X e (tPO X.K cm W f)
def oNone : En → Ot (Option Int) := fun _ => .ok none
def asI : D → Ot Int
  | .int i => .ok i
  | _ => .no
def oSome (f : En → Ot D) : En → Ot (Option Int) := fun ρ => (f ρ).bind fun d => (asI d).bind fun i => .ok (some i)
def eSl (p : D → Option Int → Option Int → Option D) (f : En → Ot D) (g h : En → Ot (Option Int)) : En → Ot D := fun ρ => (f ρ).bind fun d => (g ρ).bind fun lo => (h ρ).bind fun hi => .of (p d lo hi)
theorem PO.imp {X : Cx} {e : Option Expr} {t t' : TO} (h : PO X e t) (i : ∀ σ H Q, t' σ H Q → t σ H Q) : PO X e t' := ⟨fun pins s σ H Q I q => h.run pins s σ H Q I (i σ H Q q)⟩
theorem asI_ok {d : D} {b : Int} (h : asI d = .ok b) : d = .int b := by
  cases d <;> first | (cases h; done) | (cases h; rfl)
theorem asI_ex {d : D} {x : XD} : asI d ≠ .ex x := by cases d <;> exact fun h => nomatch h
section
variable {X : Cx} {cm : Cm} {W : WX} {e : Expr} {f : En → Ot D} {g h : En → Ot (Option Int)} {lo hi : Option Expr} {pos p2 : Pos}
theorem so_none : SO X cm W none oNone := PO.imp po_none fun σ H Q q => by
  obtain ⟨Z, ρ, Fs, ok, q⟩ := q
  exact q H Z (.refl ok.dom)
theorem so_some (he : SE X cm W e f) : SO X cm W (some e) (oSome f) := PO.imp (po_some he) fun σ H Q q => by
  obtain ⟨Z, ρ, Fs, ok, q0⟩ := q
  unfold oSome at q0
  refine tP_bind ok (fun q => ?_) (fun d q v H1 Z1 F r => ?_) (fun x q => ?_)
  · rw [q] at q0; exact q0
  · rw [q, Ot.bind_ok] at q0
    cases q2 : asI d with
    | no => rw [q2] at q0; exact q0.elim
    | ex x => exact absurd q2 asI_ex
    | ok i =>
      rw [q2, Ot.bind_ok] at q0
      have e := asI_ok q2
      subst e
      obtain ⟨rfl, rfl⟩ := r.rep
      exact ⟨i, rfl, q0 H1 Z1 r.ext⟩
  · rw [q] at q0; exact q0
def OkSl (K : PySem.W.Frag) (cm : Cm) (r : V → Option Int → Option Int → Hp → VK → Prop) (p : D → Option Int → Option Int → Option D) : Prop :=
  ∀ H Z d v F lo hi e, Dom H Z → Rep K cm H Z d v F → F.Nodup → (∀ a ∈ F, ¬ Z.f a) → p d lo hi = some e → ∀ Q : VK, (∀ u H' Z' G, Res K cm H Z H' Z' F e u G → Q u H') → r v lo hi H Q
theorem s_slice {r : V → Option Int → Option Int → Hp → VK → Prop} {p : D → Option Int → Option Int → Option D} (hr : SlR X r) (hp : OkSl X.K cm r p) (he : SE X cm W e f) (hl : SO X cm W lo g) (hu : SO X cm W hi h) :
    SE X cm W (.Subscript e (.Slice lo hi none p2) pos) (eSl p f g h) := PE.imp (pe_slice hr he hl hu) fun σ H Q q0 => by
  obtain ⟨Z, ρ, Fs, ok, q0⟩ := q0
  unfold eSl at q0
  refine tP_bind ok (fun q => ?_) (fun d q v H1 Z1 F r1 => ?_) (fun x q => ?_)
  · rw [q] at q0; exact q0
  · rw [q, Ot.bind_ok] at q0
    have ok1 := ok.ext r1.ext
    refine ⟨Z1, ρ, Fs, ok1, ?_⟩
    cases q2 : g ρ with
    | no => rw [q2] at q0; exact q0
    | ex x => rw [q2] at q0; exact fun cls dd H' Z' ex xr => q0 cls dd H' Z' (r1.ext.trans ex) xr
    | ok l =>
      rw [q2, Ot.bind_ok] at q0
      intro H2 Z2 ex2
      refine ⟨Z2, ρ, Fs, ok1.ext ex2, ?_⟩
      cases q3 : h ρ with
      | no => rw [q3] at q0; exact q0
      | ex x => rw [q3] at q0; exact fun cls dd H' Z' ex xr => q0 cls dd H' Z' (r1.ext.trans (ex2.trans ex)) xr
      | ok u =>
        rw [q3, Ot.bind_ok] at q0
        intro H3 Z3 ex3
        have ex23 := ex2.trans ex3
        cases q4 : p d l u with
        | none => rw [q4] at q0; exact q0.elim
        | some d' =>
          rw [q4] at q0
          have hm := Rep.mut d r1.rep
          exact hp H3 Z3 d v F l u d' (ok1.dom.ext ex23) (r1.rep.ext ex23) r1.nd (fun a ha => keep_nf ex23 (hm a ha) (r1.nf a ha)) q4 Q fun w H' Z' G r4 =>
            q0 w H' Z' G (r4.trans (r1.ext.trans ex23) fun a ha => .inl (r1.new a ha))
  · rw [q] at q0; exact q0
end
def cutD (xs : List D) (lo hi : Option Int) : List D := (xs.drop (HT.sIx xs.length 0 lo)).take (HT.sIx xs.length xs.length hi - HT.sIx xs.length 0 lo)
def pSl : D → Option Int → Option Int → Option D
  | .nd (.lst _) ds, lo, hi => some (.nd (.lst .own) (cutD ds lo hi))
  | .str z, lo, hi => if z.length ≤ sizeLine then some (.str (cutS z lo hi)) else none
  | .nd .tup ds, lo, hi => if HT.sIx ds.length 0 lo = 0 ∧ HT.sIx ds.length ds.length hi = ds.length then none else some (.nd .tup (cutD ds lo hi))
  | _, _, _ => none
def rSl3 (K : PySem.W.Frag) : V → Option Int → Option Int → Hp → VK → Prop := fun x lo hi H Q => rSlL K x lo hi H Q ∨ rSlS x lo hi H Q ∨ rSlT K x lo hi H Q
theorem sl_3 {X : Cx} : SlR X (rSl3 X.K) := sl_list.or (sl_str.or sl_tup)
section
variable {K : PySem.W.Frag} {cm : Cm}
theorem sub_flat {α : Type} {A B : List (List α)} (h : A.Sublist B) : A.flatten.Sublist B.flatten := by
  induction h with
  | slnil => exact List.Sublist.refl _
  | cons a _ ih => rw [List.flatten_cons]; exact ih.trans (List.sublist_append_right _ _)
  | cons_cons a _ ih => rw [List.flatten_cons, List.flatten_cons]; exact (List.Sublist.refl _).append ih
theorem cut_sub {Fs : List (List Addr)} {a b : Nat} : ((Fs.drop a).take b).flatten.Sublist Fs.flatten := sub_flat ((List.take_sublist _ _).trans (List.drop_sublist _ _))
theorem ok_sl : OkSl K cm (rSl3 K) pSl := by
  intro H Z d v F lo hi e dm rp nd nf q0 Q q
  unfold pSl at q0
  split at q0
  · rename_i f ds
    cases q0
    obtain ⟨a, vs, Fs, rfl, hc, hl, rfl⟩ := rp
    refine .inl ⟨a, vs, rfl, rdL hc.2.1, fun p hp => ?_⟩
    have rl := (hl.drop (HT.sIx ds.length 0 lo)).take (HT.sIx ds.length ds.length hi - HT.sIx ds.length 0 lo)
    have sb := (cut_sub (Fs := Fs) (a := HT.sIx ds.length 0 lo) (b := HT.sIx ds.length ds.length hi - HT.sIx ds.length 0 lo)).trans (List.sublist_append_right (ownA (.lst f) a) _)
    have ev : cutV vs lo hi = (vs.drop (HT.sIx ds.length 0 lo)).take (HT.sIx ds.length ds.length hi - HT.sIx ds.length 0 lo) := by unfold cutV; rw [hl.len.1]
    rw [ev]
    exact q _ _ Z _ (.newL dm rl (nd.sublist sb) (fun x hx => .inr (sb.subset hx)) (fun x hx => nf x (sb.subset hx)) hp)
  · split at q0
    · rename_i hz
      cases q0
      obtain ⟨rfl, rfl⟩ := rp
      exact .inr (.inl ⟨_, rfl, hz, q _ H Z [] (.atom (.refl dm) rep_str)⟩)
    · cases q0
  · split at q0
    · cases q0
    · rename_i ds hz
      cases q0
      obtain ⟨a, vs, Fs, rfl, hc, hl, rfl⟩ := rp
      have rl := (hl.drop (HT.sIx ds.length 0 lo)).take (HT.sIx ds.length ds.length hi - HT.sIx ds.length 0 lo)
      have sb := (cut_sub (Fs := Fs) (a := HT.sIx ds.length 0 lo) (b := HT.sIx ds.length ds.length hi - HT.sIx ds.length 0 lo)).trans (List.sublist_append_right (ownA .tup a) _)
      refine .inr (.inr ⟨a, vs, rfl, hc, by rw [hl.len.1]; exact hz, fun p hp => ?_⟩)
      have ev : cutV vs lo hi = (vs.drop (HT.sIx ds.length 0 lo)).take (HT.sIx ds.length ds.length hi - HT.sIx ds.length 0 lo) := by unfold cutV; rw [hl.len.1]
      rw [ev]
      exact q _ _ Z _ (.newT dm rl (nd.sublist sb) (fun x hx => .inr (sb.subset hx)) (fun x hx => nf x (sb.subset hx)) hp)
  · cases q0
end

/-! ### isinstance -/
def tyN : D → Option String
  | .non => some "NoneType"
  | .bl _ => some "bool"
  | .int _ => some "int"
  | .str _ => some "str"
  | .nd .tup _ => some "tuple"
  | .nd (.lst _) _ => some "list"
  | .nd (.dct _ _) _ => some "dict"
  | .nd (.obj _ _ _) _ => none
def objN : D → Option Str
  | .nd (.obj _ c _) _ => some c
  | _ => none
/-- the answer by the kind -/
def isiD (nb : String → Option Bool) (ob : Str → Option Bool) (d : D) : Option Bool := match tyN d with
  | some n => nb n
  | none => (objN d).bind ob
/-- a built-in class's answers -/
def nbTy (T : String) (n : String) : Option Bool := if ["NoneType", "bool", "int", "str", "tuple", "list", "dict"].contains n && ["bool", "int", "str", "tuple", "list", "dict"].contains T then some (n == T || (n == "bool" && T == "int")) else none
theorem nbTy_ok {K : PySem.W.Frag} {T n : String} {b : Bool} (h : nbTy T n = some b) : PySem.W.kitOne K (.type n) (.type T) = some b := by
  unfold nbTy at h
  split at h
  · rename_i hc
    cases h
    rw [Bool.and_eq_true] at hc
    have all : ∀ n ∈ ["NoneType", "bool", "int", "str", "tuple", "list", "dict"], ∀ T ∈ ["bool", "int", "str", "tuple", "list", "dict"], kitB n T = some (n == T || (n == "bool" && T == "int")) := by decide +kernel
    exact kit_ty (all n (by simpa using hc.1) T (by simpa using hc.2))
  · cases h
/-- what has to be known of an own class for isinstance of its instances -/
structure InsK (K : PySem.W.Frag) (C : Addr) : Prop where
  cl : Cls K C
  ha : PySem.W.findIn K (.ref C) "__class__" = some (some (.builtin "object.__class__"))
  hn : PySem.W.specialIn K (.builtin "object.__class__") "__get__" = some (some (.builtin "getset_descriptor.__get__"))
  htk : PySem.W.takesIn K (.builtin "object.__class__") = some true
  hm : PySem.W.mroIn K C (.type "object") = some true
section
variable {K : PySem.W.Frag} {cm : Cm} {H : Hp} {Z : Zn}
theorem isi_ok {nb : String → Option Bool} {ob : Str → Option Bool} {u : Value} (hn : ∀ n b, nb n = some b → PySem.W.kitOne K (.type n) u = some b) (ho : ∀ c b, ob c = some b → PySem.W.kitOne K (.ref (cm c)) u = some b ∧ InsK K (cm c))
    {d : D} {v : V} {F : List Addr} {b : Bool} (h : Rep K cm H Z d v F) (e : isiD nb ob d = some b) : ∃ t, TyX K H v t ∧ PySem.W.kitOne K t u = some b := by
  unfold isiD at e
  cases d with
  | non => obtain ⟨rfl, _⟩ := h; exact ⟨_, .base .non, hn _ _ e⟩
  | bl x => obtain ⟨rfl, _⟩ := h; exact ⟨_, .base (.bl x), hn _ _ e⟩
  | int x => obtain ⟨rfl, _⟩ := h; exact ⟨_, .base (.int x), hn _ _ e⟩
  | str x => obtain ⟨rfl, _⟩ := h; exact ⟨_, .base (.str x), hn _ _ e⟩
  | nd k ds =>
    obtain ⟨a, vs, Fs, rfl, hc, hl, rfl⟩ := h
    cases k with
    | tup =>
      rcases hc with (hc | ⟨o, hc⟩) | ⟨o, its, n, hk, h1, h2, _⟩
      · exact ⟨_, .base (.tup hc), hn _ _ e⟩
      · exact ⟨_, .fTuple hc, hn _ _ e⟩
      · exact ⟨_, .kTuple hk h1, hn _ _ e⟩
    | lst f =>
      rcases hc.2.1 with hc | ⟨o, hc⟩
      · exact ⟨_, .base (.lst hc), hn _ _ e⟩
      · exact ⟨_, .base (.frz hc), hn _ _ e⟩
    | dct f ks => exact ⟨_, .base (.dK hc.1), hn _ _ e⟩
    | obj f c fs =>
      obtain ⟨⟨dx, h1⟩, _⟩ := hc
      obtain ⟨k1, k2⟩ := ho c b e
      exact ⟨_, .base (.ins h1 k2.cl k2.ha k2.hn k2.htk k2.hm), k1⟩
end
def eIsi (nb : String → Option Bool) (ob : Str → Option Bool) (f : En → Ot D) : En → Ot D := fun ρ => (f ρ).bind fun d => .of ((isiD nb ob d).map .bl)
section
variable {X : Cx} {cm : Cm} {W : WX} {a c : Expr} {f : En → Ot D} {pos p : Pos}
theorem s_isi {nb : String → Option Bool} {ob : Str → Option Bool} {cv : V} {u : Value} (hn : ∀ n b, nb n = some b → PySem.W.kitOne X.K (.type n) u = some b) (ho : ∀ c b, ob c = some b → PySem.W.kitOne X.K (.ref (cm c)) u = some b ∧ InsK X.K (cm c))
    (hcv : ClsV cv u) (hg : Gl X "isinstance") (hm : X.mg "isinstance" = none) (hv : bootBuiltins "isinstance" = some (.builtin "isinstance")) (ha : SE X cm W a f) (hc : PE X c (tC cv))
    (he : starEach [a, c] X.env = (false, eval a X.env) :: starEach [c] X.env := by rfl) (he2 : starEach [c] X.env = (false, eval c X.env) :: starEach [] X.env := by rfl) (hpl : (backTo pos (starEach [c] X.env)).any (·.1) = false := by rfl) :
    SE X cm W (.Call (.Name "isinstance" p) [a, c] [] pos) (eIsi nb ob f) :=
  PE.imp (pe_callB call_isi hg hm hv (pa_cons ha (pa_cons hc pa_nil he2) he) (by decide) (by decide) he hpl) fun σ H Q q0 => by
    obtain ⟨Z, ρ, Fs, ok, q0⟩ := q0
    unfold eIsi at q0
    refine tP_bind ok (fun q => ?_) (fun d q v H1 Z1 F r1 => ?_) (fun x q => ?_)
    · rw [q] at q0; exact q0
    · rw [q, Ot.bind_ok] at q0
      cases q2 : isiD nb ob d with
      | none => rw [q2] at q0; exact q0.elim
      | some b =>
        rw [q2] at q0
        obtain ⟨t, ty, k⟩ := isi_ok hn ho r1.rep q2
        exact ⟨v, cv, t, u, b, rfl, hcv, ty, k, q0 _ H1 Z1 [] (.atom r1.ext rep_bl)⟩
    · rw [q] at q0; exact q0
/-- isinstance(x, T), T a built-in class, x no instance of an own class -/
theorem s_isiT {T : String} (hg : Gl X "isinstance") (hm : X.mg "isinstance" = none) (hv : bootBuiltins "isinstance" = some (.builtin "isinstance")) (ha : SE X cm W a f) (hc : PE X c (tC (.ty T)))
    (he : starEach [a, c] X.env = (false, eval a X.env) :: starEach [c] X.env := by rfl) (he2 : starEach [c] X.env = (false, eval c X.env) :: starEach [] X.env := by rfl) (hpl : (backTo pos (starEach [c] X.env)).any (·.1) = false := by rfl) :
    SE X cm W (.Call (.Name "isinstance" p) [a, c] [] pos) (eIsi (nbTy T) (fun _ => none) f) :=
  s_isi (fun _ _ e => nbTy_ok e) (fun _ _ e => nomatch e) (.ty T) hg hm hv ha hc he he2 hpl
end

/-! ### built-ins -/
def pLen : List D → Option D
  | [.nd (.lst _) ds] => some (.int (ds.length : Int))
  | [.nd .tup ds] => some (.int (ds.length : Int))
  | [.str s] => if s.length ≤ sizeLine then some (.int (s.length : Int)) else none
  | [.nd (.dct _ ks) _] => some (.int (ks.length : Int))
  | _ => none
def rLen2 (K : PySem.W.Frag) : List V → Hp → VK → Prop := fun xs H Q => (∃ x n, xs = [x] ∧ LenV K x H n ∧ Q (.int n) H) ∨ ∃ a kvs, xs = [.ref a] ∧ H a = some (.dK kvs) ∧ Q (.int kvs.length) H
theorem CallR.or2 {X : Cx} {u : Value} {r r' : List V → Hp → VK → Prop} (h : CallR X u r) (h' : CallR X u r') : CallR X u (fun xs H Q => r xs H Q ∨ r' xs H Q) := fun pins s σ H xs us Q I rs q => q.elim (h pins s σ H xs us Q I rs) (h' pins s σ H xs us Q I rs)
theorem call_len2 {X : Cx} : CallR X (.builtin "len") (rLen2 X.K) := CallR.or2 call_len call_lenD
def pAbs : List D → Option D
  | [.int i] => some (.int (if i < 0 then -i else i))
  | _ => none
def pMin : List D → Option D
  | [.int i, .int j] => some (.int (if j < i then j else i))
  | _ => none
def pMax : List D → Option D
  | [.int i, .int j] => some (.int (if j > i then j else i))
  | _ => none
def pAll : List D → Option D
  | [.nd (.lst _) ds] => (blsD ds).map fun bs => .bl (bs.all id)
  | _ => none
def pAny : List D → Option D
  | [.nd (.lst _) ds] => (blsD ds).map fun bs => .bl (bs.any id)
  | _ => none
def pSum : List D → Option D
  | [.nd (.lst _) ds] => (intsD ds).map fun ns => .int ns.sum
  | _ => none
def pInt : List D → Option D
  | [.int i] => some (.int i)
  | [.bl b] => some (.int (if b then 1 else 0))
  | [.str a] => if a.length ≤ 640 then (PySem.intText? a).map .int else none
  | _ => none
def rInt3 : List V → Hp → VK → Prop := fun xs H Q => ((∃ i, xs = [.int i] ∧ Q (.int i) H) ∨ ∃ k, xs = [.bl k] ∧ Q (.int (if k then 1 else 0)) H) ∨ ∃ a n, xs = [.str a] ∧ PySem.intText? a = some n ∧ a.length ≤ 640 ∧ Q (.int n) H
theorem call_int3 {X : Cx} : CallR X (.type "int") rInt3 := CallR.or2 call_int1 call_int_str
def pStr : List D → Option D
  | [.int i] => if i.natAbs.log2 < 1920 then some (.str (toString i)) else none
  | _ => none
def pList : List D → Option D
  | [.nd (.lst _) ds] => some (.nd (.lst .own) ds)
  | [.nd .tup ds] => some (.nd (.lst .own) ds)
  | _ => none
section
variable {K : PySem.W.Frag} {cm : Cm}
theorem ok_len : OkPr K cm (rLen2 K) pLen := by
  intro H Z ds vs Fs d dm rp nd nf e Q q
  have fin : ∀ n : Int, d = .int n → Q (.int n) H := fun n en => by subst en; exact q _ H Z [] (.atom (.refl dm) rep_int)
  unfold pLen at e
  split at e
  · cases e
    obtain ⟨v, F, rfl, rfl, ⟨a, us, Gs, rfl, hc, hl, rfl⟩⟩ := repL1 rp
    exact .inl ⟨_, _, rfl, .inl ⟨us, rdL hc.2.1, rfl⟩, fin _ (by rw [hl.len.1])⟩
  · cases e
    obtain ⟨v, F, rfl, rfl, ⟨a, us, Gs, rfl, hc, hl, rfl⟩⟩ := repL1 rp
    exact .inl ⟨_, _, rfl, .inr ⟨us, hc, rfl⟩, fin _ (by rw [hl.len.1])⟩
  · split at e
    · rename_i hs
      cases e
      obtain ⟨v, F, rfl, rfl, ⟨rfl, rfl⟩⟩ := repL1 rp
      exact .inl ⟨_, _, rfl, ⟨hs, rfl⟩, fin _ rfl⟩
    · cases e
  · cases e
    obtain ⟨v, F, rfl, rfl, ⟨a, us, Gs, rfl, hc, hl, rfl⟩⟩ := repL1 rp
    refine .inr ⟨a, _, rfl, hc.1, fin _ ?_⟩
    rw [List.length_zip, ← hc.2.1, Nat.min_self]
  · cases e
theorem ok_abs : OkPr K cm (fun xs H Q => ∃ i, xs = [.int i] ∧ Q (.int (if i < 0 then -i else i)) H) pAbs := by
  intro H Z ds vs Fs d dm rp nd nf e Q q
  unfold pAbs at e
  split at e
  · cases e
    obtain ⟨v, F, rfl, rfl, ⟨rfl, rfl⟩⟩ := repL1 rp
    exact ⟨_, rfl, q _ H Z [] (.atom (.refl dm) rep_int)⟩
  · cases e
theorem ok_min : OkPr K cm (fun xs H Q => ∃ i j, xs = [.int i, .int j] ∧ Q (.int (if j < i then j else i)) H) pMin := by
  intro H Z ds vs Fs d dm rp nd nf e Q q
  unfold pMin at e
  split at e
  · cases e
    obtain ⟨v, u, F, G, rfl, rfl, ⟨rfl, rfl⟩, ⟨rfl, rfl⟩⟩ := repL2 rp
    exact ⟨_, _, rfl, q _ H Z [] (.atom (.refl dm) rep_int)⟩
  · cases e
theorem ok_max : OkPr K cm (fun xs H Q => ∃ i j, xs = [.int i, .int j] ∧ Q (.int (if j > i then j else i)) H) pMax := by
  intro H Z ds vs Fs d dm rp nd nf e Q q
  unfold pMax at e
  split at e
  · cases e
    obtain ⟨v, u, F, G, rfl, rfl, ⟨rfl, rfl⟩, ⟨rfl, rfl⟩⟩ := repL2 rp
    exact ⟨_, _, rfl, q _ H Z [] (.atom (.refl dm) rep_int)⟩
  · cases e
theorem ok_all : OkPr K cm (rAll K) pAll := by
  intro H Z ds vs Fs d dm rp nd nf e Q q
  unfold pAll at e
  split at e
  · rename_i f ds'
    cases q1 : blsD ds' with
    | none => rw [q1] at e; cases e
    | some bs =>
      rw [q1] at e
      cases e
      have eb := blsD_eq q1
      subst eb
      obtain ⟨v, F, rfl, rfl, ⟨a, us, Gs, rfl, hc, hl, rfl⟩⟩ := repL1 rp
      have ev := repL_bls hl
      subst ev
      exact ⟨a, bs, rfl, rdL hc.2.1, q _ H Z [] (.atom (.refl dm) rep_bl)⟩
  · cases e
theorem ok_any : OkPr K cm (rAny K) pAny := by
  intro H Z ds vs Fs d dm rp nd nf e Q q
  unfold pAny at e
  split at e
  · rename_i f ds'
    cases q1 : blsD ds' with
    | none => rw [q1] at e; cases e
    | some bs =>
      rw [q1] at e
      cases e
      have eb := blsD_eq q1
      subst eb
      obtain ⟨v, F, rfl, rfl, ⟨a, us, Gs, rfl, hc, hl, rfl⟩⟩ := repL1 rp
      have ev := repL_bls hl
      subst ev
      exact ⟨a, bs, rfl, rdL hc.2.1, q _ H Z [] (.atom (.refl dm) rep_bl)⟩
  · cases e
theorem ok_sum : OkPr K cm (rSum K) pSum := by
  intro H Z ds vs Fs d dm rp nd nf e Q q
  unfold pSum at e
  split at e
  · rename_i f ds'
    cases q1 : intsD ds' with
    | none => rw [q1] at e; cases e
    | some bs =>
      rw [q1] at e
      cases e
      have eb := intsD_eq q1
      subst eb
      obtain ⟨v, F, rfl, rfl, ⟨a, us, Gs, rfl, hc, hl, rfl⟩⟩ := repL1 rp
      have ev := repL_ints hl
      subst ev
      exact ⟨a, bs, rfl, rdL hc.2.1, q _ H Z [] (.atom (.refl dm) rep_int)⟩
  · cases e
theorem ok_int : OkPr K cm rInt3 pInt := by
  intro H Z ds vs Fs d dm rp nd nf e Q q
  unfold pInt at e
  split at e
  · cases e
    obtain ⟨v, F, rfl, rfl, ⟨rfl, rfl⟩⟩ := repL1 rp
    exact .inl (.inl ⟨_, rfl, q _ H Z [] (.atom (.refl dm) rep_int)⟩)
  · cases e
    obtain ⟨v, F, rfl, rfl, ⟨rfl, rfl⟩⟩ := repL1 rp
    exact .inl (.inr ⟨_, rfl, q _ H Z [] (.atom (.refl dm) rep_int)⟩)
  · split at e
    · rename_i a hl
      cases q1 : PySem.intText? a with
      | none => rw [q1] at e; cases e
      | some n =>
        rw [q1] at e
        cases e
        obtain ⟨v, F, rfl, rfl, ⟨rfl, rfl⟩⟩ := repL1 rp
        exact .inr ⟨_, _, rfl, q1, hl, q _ H Z [] (.atom (.refl dm) rep_int)⟩
    · cases e
  · cases e
theorem ok_str : OkPr K cm (fun xs H Q => ∃ i, xs = [.int i] ∧ i.natAbs.log2 < 1920 ∧ Q (.str (toString i)) H) pStr := by
  intro H Z ds vs Fs d dm rp nd nf e Q q
  unfold pStr at e
  split at e
  · split at e
    · rename_i hl
      cases e
      obtain ⟨v, F, rfl, rfl, ⟨rfl, rfl⟩⟩ := repL1 rp
      exact ⟨_, rfl, hl, q _ H Z [] (.atom (.refl dm) rep_str)⟩
    · cases e
  · cases e
theorem ok_list : OkPr K cm (fun xs H Q => ∃ p ys, xs = [.ref p] ∧ (SqL K H p ys ∨ SqT K H p ys) ∧ ∀ l, H l = none → Q (.ref l) (upd H l (.lst ys))) pList := by
  intro H Z ds vs Fs d dm rp nd nf e Q q
  have key : ∀ {a : Addr} {k : Kd} {Gs : List (List Addr)}, Fs = [ownA k a ++ Gs.flatten] → Gs.flatten.Sublist Fs.flatten := fun {a k Gs} e => by
    subst e
    simp only [List.flatten_cons, List.flatten_nil, List.append_nil]
    exact List.sublist_append_right _ _
  unfold pList at e
  split at e
  · cases e
    obtain ⟨v, F, rfl, hF, ⟨a, us, Gs, rfl, hc, hl, rfl⟩⟩ := repL1 rp
    have sb := key hF
    exact ⟨a, us, rfl, .inl (rdL hc.2.1), fun l hl' => q _ _ Z _ (.newL dm hl (nd.sublist sb) (fun x hx => .inr (sb.subset hx)) (fun x hx => nf x (sb.subset hx)) hl')⟩
  · cases e
    obtain ⟨v, F, rfl, hF, ⟨a, us, Gs, rfl, hc, hl, rfl⟩⟩ := repL1 rp
    have sb := key hF
    exact ⟨a, us, rfl, .inr hc, fun l hl' => q _ _ Z _ (.newL dm hl (nd.sublist sb) (fun x hx => .inr (sb.subset hx)) (fun x hx => nf x (sb.subset hx)) hl')⟩
  · cases e
end

/-! ### methods -/
def tyB (T : String) : D → Bool
  | .str _ => T == "str"
  | .nd (.lst _) _ => T == "list"
  | .nd (.dct _ _) _ => T == "dict"
  | _ => false
def eM (T : String) (p : List D → Option D) (f : En → Ot D) (fs : List (En → Ot D)) : En → Ot D := fun ρ => (f ρ).bind fun x => if tyB T x then (eL fs ρ).bind fun ds => .of (p (x :: ds)) else .no
def rM (r : V → List V → Hp → VK → Prop) : List V → Hp → VK → Prop := fun vs H Q => ∃ x xs, vs = x :: xs ∧ r x xs H Q
theorem tyB_ok {K : PySem.W.Frag} {cm : Cm} {H : Hp} {Z : Zn} {T : String} {d : D} {v : V} {F : List Addr} (h : Rep K cm H Z d v F) (e : tyB T d = true) : tyV K T v H := by
  unfold tyB at e
  split at e
  · obtain ⟨rfl, _⟩ := h
    exact (beq_iff_eq.mp e)
  · obtain ⟨a, vs, Fs, rfl, hc, hl, rfl⟩ := h
    exact .inl ⟨beq_iff_eq.mp e, _, rdL hc.2.1⟩
  · obtain ⟨a, vs, Fs, rfl, hc, hl, rfl⟩ := h
    exact .inr (.inr (.inl ⟨beq_iff_eq.mp e, .inl ⟨_, hc.1⟩⟩))
  · cases e
section
variable {X : Cx} {cm : Cm} {W : WX} {o e : Expr} {es : List Expr} {f : En → Ot D} {fs : List (En → Ot D)} {name : Str} {apos cpos : Pos} {T id : String} {r : V → List V → Hp → VK → Prop} {p : List D → Option D}
theorem m_end {K : PySem.W.Frag} (hp : OkPr K cm (rM r) p) {σ : L2.St} {H : Hp} {Q : VK} (q0 : tP K cm W (eM T p f fs) σ H Q) : tP K cm W f σ H (fun x H1 => tyV K T x H1 ∧ tPL K cm W (eL fs) σ H1 (fun xs H2 => r x xs H2 Q)) := by
  obtain ⟨Z, ρ, Fs, ok, q0⟩ := q0
  unfold eM at q0
  refine tP_bind ok (fun q => ?_) (fun x q v H1 Z1 F r1 => ?_) (fun x q => ?_)
  · rw [q] at q0; exact q0
  · rw [q, Ot.bind_ok] at q0
    split at q0
    · rename_i ty
      refine ⟨tyB_ok r1.rep ty, Z1, ρ, Fs, ok.ext r1.ext, ?_⟩
      cases q2 : eL fs ρ with
      | no => rw [q2] at q0; exact q0
      | ex x => rw [q2] at q0; exact fun cls dd H' Z' ex xr => q0 cls dd H' Z' (r1.ext.trans ex) xr
      | ok ds =>
        rw [q2, Ot.bind_ok] at q0
        intro vs H2 Z2 Gs r2
        cases q3 : p (x :: ds) with
        | none => rw [q3] at q0; exact q0.elim
        | some d =>
          rw [q3] at q0
          have rl := ResL.cons r1 r2
          obtain ⟨_, _, e3, k⟩ := hp H2 Z2 (x :: ds) (v :: vs) _ d (ok.dom.ext rl.ext) rl.rep rl.nd rl.nf q3 Q fun w H' Z' G r4 => q0 w H' Z' G (r4.trans rl.ext fun a ha => .inl (rl.new a ha))
          cases e3
          exact k
    · exact q0.elim
  · rw [q] at q0; exact q0
theorem s_bm (pa : PlainAttrs T) (slot : Slot T name id) (hty : typeOf (.builtin id) = pure (.type "method_descriptor")) (hm : MtR X id r) (hp : OkPr X.K cm (rM r) p) (ho : SE X cm W o f) (ha : SA X cm W (e :: es) (eL fs))
    (hbase : attributeBase o name X.env (eval o X.env) = eval o X.env := by rfl)
    (hfew : ((backTo cpos (starEach (e :: es) X.env)).all (fun x => !x.1) && (backToKw cpos (keywordEach [] X.env)).all (fun x => x.1.isSome)
      && decide ((e :: es).length + ([] : List Keyword).length + (if ([] : List Keyword).isEmpty then 0 else 1) < 30)) = true := by rfl)
    (hline : (apos.endLine == cpos.line) = true := by rfl) (hs : starEach (e :: es) X.env = (false, eval e X.env) :: starEach es X.env := by rfl) (hplain : (backTo cpos (starEach es X.env)).any (·.1) = false := by rfl) :
    SE X cm W (.Call (.Attribute o name apos) (e :: es) [] cpos) (eM T p f fs) := PE.imp (pe_bm pa slot hty hm ho ha hbase hfew hline hs hplain) fun σ H Q q => m_end hp q
end
def pJoin : List D → Option D
  | [.str a, .nd (.lst _) ds] => (strsD ds).bind fun ys => if (ys.map (·.length)).sum + ys.length * a.length ≤ 16777216 then some (.str (Txt.join a ys)) else none
  | _ => none
def pSplit : List D → Option D
  | [.str a, .str b] => if (b.length == 0) = false ∧ a.length + 2 ≤ sizeLine then some (.nd (.lst .own) ((Txt.split a b).map .str)) else none
  | _ => none
def pPart : List D → Option D
  | [.str a, .str b] => if (b.length == 0) = false ∧ a.length ≤ sizeLine then some (.nd .tup [.str (Txt.partition a b).1, .str (Txt.partition a b).2.1, .str (Txt.partition a b).2.2]) else none
  | _ => none
section
variable {K : PySem.W.Frag} {cm : Cm}
theorem ok_join : OkPr K cm (rM (fun x xs H Q => ∃ a p, ∃ ys : List Str, x = .str a ∧ xs = [.ref p] ∧ (SqL K H p (ys.map V.str) ∨ SqT K H p (ys.map V.str)) ∧ (ys.map (·.length)).sum + ys.length * a.length ≤ 16777216 ∧ Q (.str (Txt.join a ys)) H)) pJoin := by
  intro H Z ds vs Fs d dm rp nd nf e Q q
  unfold pJoin at e
  split at e
  · rename_i a f ds'
    cases q1 : strsD ds' with
    | none => rw [q1] at e; cases e
    | some ys =>
      rw [q1] at e
      have e2 : (if (ys.map (·.length)).sum + ys.length * a.length ≤ 16777216 then some (D.str (Txt.join a ys)) else none) = some d := e
      split at e2
      · rename_i hz
        cases e2
        have es := strsD_eq q1
        subst es
        obtain ⟨v, u, F, G, rfl, rfl, ⟨rfl, rfl⟩, ⟨p, us, Gs, rfl, hc, hl, rfl⟩⟩ := repL2 rp
        have ev := repL_strS hl
        subst ev
        exact ⟨_, _, rfl, a, p, ys, rfl, rfl, .inl (rdL hc.2.1), hz, q _ H Z [] (.atom (.refl dm) rep_str)⟩
      · cases e2
  · cases e
theorem ok_split : OkPr K cm (rM (fun x xs H Q => ∃ a b, x = .str a ∧ xs = [.str b] ∧ (b.length == 0) = false ∧ a.length + 2 ≤ sizeLine ∧ rNewStrs (Txt.split a b) H Q)) pSplit := by
  intro H Z ds vs Fs d dm rp nd nf e Q q
  unfold pSplit at e
  split at e
  · rename_i a b
    split at e
    · rename_i hz
      cases e
      obtain ⟨v, u, F, G, rfl, rfl, ⟨rfl, rfl⟩, ⟨rfl, rfl⟩⟩ := repL2 rp
      refine ⟨_, _, rfl, a, b, rfl, rfl, hz.1, hz.2, fun p hp => ?_⟩
      have rl : RepL K cm H Z ((Txt.split a b).map .str) ((Txt.split a b).map V.str) (List.replicate (Txt.split a b).length []) := repL_mk (fun _ => rep_str) _
      exact q _ _ Z _ (.newL dm rl (by rw [flatten_nils]; exact List.nodup_nil) (by rw [flatten_nils]; exact fun _ z => nomatch z) (by rw [flatten_nils]; exact fun _ z => nomatch z) hp)
    · cases e
  · cases e
theorem ok_part : OkPr K cm (rM (fun x xs H Q => ∃ a b, x = .str a ∧ xs = [.str b] ∧ (b.length == 0) = false ∧ a.length ≤ sizeLine ∧ ∀ p, H p = none → Q (.ref p) (upd H p (.tup [.str (Txt.partition a b).1, .str (Txt.partition a b).2.1, .str (Txt.partition a b).2.2])))) pPart := by
  intro H Z ds vs Fs d dm rp nd nf e Q q
  unfold pPart at e
  split at e
  · rename_i a b
    split at e
    · rename_i hz
      cases e
      obtain ⟨v, u, F, G, rfl, rfl, ⟨rfl, rfl⟩, ⟨rfl, rfl⟩⟩ := repL2 rp
      refine ⟨_, _, rfl, a, b, rfl, rfl, hz.1, hz.2, fun p hp => ?_⟩
      have rl : RepL K cm H Z [.str (Txt.partition a b).1, .str (Txt.partition a b).2.1, .str (Txt.partition a b).2.2] [.str (Txt.partition a b).1, .str (Txt.partition a b).2.1, .str (Txt.partition a b).2.2] [[], [], []] := repL_cons rep_str (repL_cons rep_str (repL_cons rep_str repL_nil))
      exact q _ _ Z _ (.newT dm rl (by simp) (by simp) (by simp) hp)
    · cases e
  · cases e
end
end OB

namespace OB
open PySem PySem.Spec PyProof.Rows L2

/-! ### all but some objects are kept -/
def Kept (H : Hp) (O : List Addr) (H' : Hp) : Prop := ∀ a o, H a = some o → a ∉ O → H' a = some o
theorem Kept.refl {H : Hp} {O : List Addr} : Kept H O H := fun _ _ h _ => h
theorem Kept.grow {H H' : Hp} {O : List Addr} (g : Grow H H') : Kept H O H' := fun a o h _ => g a o h
theorem Kept.trans {H H1 H2 : Hp} {O : List Addr} (a : Kept H O H1) (b : Kept H1 O H2) : Kept H O H2 := fun x o h n => b x o (a x o h n) n
section
variable {K : PySem.W.Frag} {cm : Cm} {H H' : Hp} {Z Z' : Zn}
theorem cell_kept {O : List Addr} (k : Kept H O H') (mu : ∀ a ∈ O, Mut (H a)) (nz : ∀ a ∈ O, ¬ Z.f a ∧ ¬ Z.b a ∧ ¬ Z.t a) (f : ∀ a, Z.f a → Z'.f a) (b : ∀ a, Z.b a → Z'.b a) (t : ∀ a, Z.t a → Z'.t a) :
    CellMove K cm H H' Z Z' id (fun a => a ∉ O) := fun a kd vs h ho => by
  have nm : ∀ u, Mut (some u) = False → H a = some u → a ∉ O := fun u e q z => by have := mu a z; rw [q, e] at this; exact this
  have ne : ∀ fl : Fl, (fl = .own → a ∉ O) → Z.ok a fl → a ∉ O := fun fl h1 h2 z => by
    obtain ⟨n1, n2, n3⟩ := nz a z
    cases fl with
    | own => exact h1 rfl z
    | frz => exact n1 h2
    | bor => exact n2 h2
    | tmp => exact n3 h2
  have rd : ∀ u, a ∉ O → Rd H a u → Rd H' a u := fun u n r => by
    rcases r with r | ⟨ob, r⟩
    · exact .inl (k a _ r n)
    · exact .inr ⟨ob, k a _ r n⟩
  cases kd with
  | tup =>
    rcases h with (h | ⟨ob, h⟩) | h
    · exact .inl (.inl (k a _ h (nm _ rfl h)))
    · exact .inl (.inr ⟨ob, k a _ h (nm _ rfl h)⟩)
    · exact .inr h
  | lst fl =>
    have n := ne fl (fun e => ho (by rw [e]; rfl)) h.2.2
    exact ⟨fun e => k a _ (h.1 e) n, rd _ n h.2.1, Zn.ok_mono f b t h.2.2⟩
  | dct fl ks =>
    have n := ne fl (fun e => ho (by rw [e]; rfl)) h.2.2
    exact ⟨k a _ h.1 n, h.2.1, Zn.ok_mono f b t h.2.2⟩
  | obj fl c fs =>
    have n := ne fl (fun e => ho (by rw [e]; rfl)) h.2.2
    obtain ⟨⟨dx, e⟩, l, q⟩ := h
    exact ⟨⟨dx, k a _ e n⟩, l, Zn.ok_mono f b t q⟩
theorem Rep.kept {O : List Addr} {d : D} {v : V} {F : List Addr} (h : Rep K cm H Z d v F) (k : Kept H O H') (mu : ∀ a ∈ O, Mut (H a)) (nz : ∀ a ∈ O, ¬ Z.f a ∧ ¬ Z.b a ∧ ¬ Z.t a) (f : ∀ a, Z.f a → Z'.f a) (b : ∀ a, Z.b a → Z'.b a) (t : ∀ a, Z.t a → Z'.t a)
    (nF : ∀ a ∈ F, a ∉ O) : Rep K cm H' Z' d v F := h.stay (cell_kept k mu nz f b t) nF
/-- to lend -/
theorem cell_dom {a : Addr} {k : Kd} {vs : List V} (h : Cell K cm H Z a k vs) (n : k ≠ .tup) : H a ≠ none := by
  cases k with
  | tup => exact absurd rfl n
  | lst f =>
    rcases h.2.1 with h | ⟨o, h⟩
    · exact fun z => by rw [z] at h; cases h
    · exact fun z => by rw [z] at h; cases h
  | dct f ks => exact fun z => by have := h.1; rw [z] at this; cases this
  | obj f c fs =>
    obtain ⟨⟨dx, e⟩, _⟩ := h
    exact fun z => by rw [z] at e; cases e
end
/-- handed over: a new thing is frozen, what is lent is borrowed -/
def Fl.toArg : Fl → Fl
  | .own => .frz
  | .frz => .frz
  | .bor => .bor
  | .tmp => .bor
def toArg (d : D) : D := mapF Fl.toArg d
def lentZ (H : Hp) (f : Addr → Prop) : Zn := ⟨f, fun a => H a ≠ none, fun _ => False⟩
theorem dom_lent {H : Hp} {f : Addr → Prop} (hf : ∀ a, f a → H a ≠ none) : Dom H (lentZ H f) := ⟨hf, fun _ h => h, fun _ h => h.elim⟩
section
variable {K : PySem.W.Frag} {cm : Cm} {H H' : Hp} {Z Z' : Zn}
theorem cell_arg {f : Addr → Prop} {O : Addr → Prop} (hO : ∀ a, O a → f a) (hf : ∀ a, Z.f a → f a) : CellMove K cm H H Z (lentZ H f) Fl.toArg O := fun a k vs h o => by
  have key : ∀ fl : Fl, k.fl = some fl → Z.ok a fl → (lentZ H f).ok a fl.toArg := fun fl e z => by
    have nt : k ≠ .tup := fun q => by rw [q] at e; cases e
    cases fl with
    | own => exact hO a (o (by unfold Kd.isOwn; rw [e]; rfl))
    | frz => exact hf a z
    | bor => exact cell_dom h nt
    | tmp => exact cell_dom h nt
  cases k with
  | tup => exact h
  | lst fl => exact ⟨(fun e => h.1 fun z => by subst z; exact e rfl), h.2.1, key fl rfl h.2.2⟩
  | dct fl ks => exact ⟨h.1, h.2.1, key fl rfl h.2.2⟩
  | obj fl c fs => exact ⟨h.1, h.2.1, key fl rfl h.2.2⟩
theorem RepL.arg {f : Addr → Prop} {ds : List D} {vs : List V} {Fs : List (List Addr)} (h : RepL K cm H Z ds vs Fs) (hO : ∀ a ∈ Fs.flatten, f a) (hf : ∀ a, Z.f a → f a) : ∃ Gs, Gs.flatten = [] ∧ RepL K cm H (lentZ H f) (ds.map toArg) vs Gs := by
  obtain ⟨Gs, a, b⟩ := RepL.give (g := Fl.toArg) (O := fun a => a ∈ Fs.flatten) (Z' := lentZ H f) (cell_arg hO hf) (fun f e => by cases f <;> cases e) ds h fun _ h => h
  rw [mapFL_eq] at b
  exact ⟨Gs, a, b⟩
end

/-! ### the promise of a def that changes nothing -/
def spP (K : PySem.W.Frag) (cm : Cm) (n : Nat) (m : List D → Ot D) : Sp := fun vs H Q E => ∃ f ds Gs, (∀ a, f a → H a ≠ none) ∧ ds.length = n ∧ Gs.flatten = [] ∧ RepL K cm H (lentZ H f) ds vs Gs ∧ FinD K cm (fun cls dd _ H' => E cls dd H') [] H (lentZ H f) Q (m ds)
theorem spP_len {K : PySem.W.Frag} {cm : Cm} {n : Nat} {m : List D → Ot D} {vs : List V} {H : Hp} {Q : VK} {E : XK} (h : spP K cm n m vs H Q E) : vs.length = n := by
  obtain ⟨f, ds, Gs, _, e, _, r, _⟩ := h
  rw [r.len.1, e]
/-- what comes back must be new or frozen -/
def back : Ot D → Ot D
  | .no => .no
  | .ok r => if noB r then .ok r else .no
  | .ex x => .ex x
/-- a call's value -/
def eCall (m : List D → Ot D) (dd : List D) (fs : List (En → Ot D)) : En → Ot D := fun ρ => (eL fs ρ).bind fun ds => back (m (ds.map toArg ++ dd))
section
variable {X : Cx} {cm : Cm} {W : WX}
/-- the call itself, behind its arguments -/
theorem call_end {K : PySem.W.Frag} {m : List D → Ot D} {n : Nat} {dd : List D} {fs : List (En → Ot D)} {dvs : List V} (hdd : dd.all isAt = true) (hdv : dvs = dd.map toV) (hlen : fs.length + dd.length = n) {σ : L2.St} {H : Hp} {Q : VK} (q0 : tP K cm W (eCall m dd fs) σ H Q) :
    tPL K cm W (eL fs) σ H (fun vs H1 => spP K cm n m (vs ++ dvs) H1 Q (fun cls d H' => W cls d σ H')) := by
  obtain ⟨Z, ρ, Fs, ok, q0⟩ := q0
  refine ⟨Z, ρ, Fs, ok, ?_⟩
  unfold eCall at q0
  cases q : eL fs ρ with
  | no => rw [q] at q0; exact q0
  | ex x => rw [q] at q0; exact q0
  | ok ds =>
    rw [q, Ot.bind_ok] at q0
    intro vs H1 Z1 Gs r1
    have dm1 := ok.dom.ext r1.ext
    obtain ⟨Ms, e1, e2⟩ := r1.rep.arg (f := fun a => Z1.f a ∨ a ∈ Gs.flatten) (fun a h => .inr h) (fun a h => .inl h)
    have rdd : ∀ (l : List D), l.all isAt = true → ∀ (Z2 : Zn), RepL K cm H1 Z2 l (l.map toV) (l.map fun _ => []) := by
      intro l
      induction l with
      | nil => exact fun _ _ => repL_nil
      | cons d l ih =>
        intro hl Z2
        rw [List.all_cons, Bool.and_eq_true] at hl
        refine repL_cons ?_ (ih hl.2 Z2)
        cases d with
        | nd k ds => cases hl.1
        | non => exact ⟨rfl, rfl⟩
        | bl b => exact ⟨rfl, rfl⟩
        | int i => exact ⟨rfl, rfl⟩
        | str s => exact ⟨rfl, rfl⟩
    have fl0 : ∀ l : List D, (l.map fun _ => ([] : List Addr)).flatten = [] := fun l => by induction l with
      | nil => rfl
      | cons d l ih => rw [List.map_cons, List.flatten_cons, ih]; rfl
    have hm := RepL.mut ds r1.rep
    have len : ds.length = fs.length := by
      have : ∀ (fs : List (En → Ot D)) (ds : List D), eL fs ρ = .ok ds → ds.length = fs.length := by
        intro fs
        induction fs with
        | nil => intro ds h; cases h; rfl
        | cons f fs ih =>
          intro ds h
          unfold eL at h
          cases q1 : f ρ with
          | no => rw [q1] at h; cases h
          | ex x => rw [q1] at h; cases h
          | ok d =>
            rw [q1, Ot.bind_ok] at h
            cases q2 : eL fs ρ with
            | no => rw [q2] at h; cases h
            | ex x => rw [q2] at h; cases h
            | ok es => rw [q2, Ot.bind_ok] at h; cases h; simp [ih es q2]
      exact this fs ds q
    refine ⟨fun a => Z1.f a ∨ a ∈ Gs.flatten, ds.map toArg ++ dd, Ms ++ (dd.map fun _ => []), fun a h => h.elim (dm1.f a) fun z => mut_ne (hm a z), by simp [len, hlen], by rw [List.flatten_append, e1, fl0]; rfl, ?_, ?_⟩
    · rw [hdv]; exact e2.app (rdd dd hdd _)
    · have extB : ∀ {H2 : Hp} {Z2 : Zn}, Ext H1 (lentZ H1 fun a => Z1.f a ∨ a ∈ Gs.flatten) H2 Z2 → Ext H Z H2 ⟨Z2.f, Z.b, Z.t⟩ := fun {H2 Z2} e =>
        ⟨r1.ext.gr.trans e.gr, fun a h => e.f a (.inl (r1.ext.f a h)), fun a h => (e.fn a h).elim (fun q => q.elim (r1.ext.fn a) fun z => .inr (r1.new a z)) fun q => .inr (r1.ext.gr.back q), e.fd, rfl, rfl⟩
      cases q2 : m (ds.map toArg ++ dd) with
      | no => rw [q2] at q0; exact q0
      | ok r =>
        rw [q2] at q0
        have q0 : FinD K cm W σ H Z Q (if noB r then .ok r else .no) := q0
        split at q0
        · rename_i nb
          intro v H2 Z2 F r2
          exact q0 v H2 ⟨Z2.f, Z.b, Z.t⟩ F ⟨extB r2.ext, noB_only r2.rep nb fun _ h => h, r2.nd, fun a h => .inl (r1.ext.gr.back (r2.new a h)), r2.nf⟩
        · exact q0.elim
      | ex x =>
        rw [q2] at q0
        have q0 : FinD K cm W σ H Z Q (.ex x) := q0
        intro cls d H2 Z2 e xr
        exact q0 cls d H2 ⟨Z2.f, Z.b, Z.t⟩ (extB e) (xr.back fun _ h => h)
variable {k : Nat} {f : Addr} {fd : FuncData} {ps : List Str} {n : Nat} {m : List D → Ot D} {dd : List D} {dvs : List V} {ds : List Value} {x : Str} {p pos : Pos} {e : Expr} {es : List Expr} {fs : List (En → Ot D)}
theorem s_call (tk : Takes X W) (F : FnOk X.prog X.w X.K X.mg X.base (L2.CX X.prog X.w) k f fd ps (spP X.K cm n m)) (hr : Room k X.A) (hg : Gl X x) (hm : X.mg x = some (.ref f)) (hk : PySem.W.keepIn X.K (.ref f) = true) (hb : Binds X.K fd ps ds) (hd : Vals dvs ds)
    (hdd : dd.all isAt = true) (hdv : dvs = dd.map toV) (hlen : fs.length + dd.length = n) (ha : SA X cm W (e :: es) (eL fs))
    (hdb : (x == ("__debug__" : Str)) = false := by decide) (he : starEach (e :: es) X.env = (false, eval e X.env) :: starEach es X.env := by rfl) (hpl : (backTo pos (starEach es X.env)).any (·.1) = false := by rfl) :
    SE X cm W (.Call (.Name x p) (e :: es) [] pos) (eCall m dd fs) :=
  PE.imp (pe_callSD (E := fun σ cls d H => W cls d σ H) F hr hg hm hk hb hd (fun σ => passAt tk σ) ha hdb he hpl) fun σ H Q q0 => call_end hdd hdv hlen q0
/-- without arguments: no exception is let out -/
def noX : Ot D → Ot D
  | .ok d => .ok d
  | _ => .no
theorem s_call0 (F : FnOk X.prog X.w X.K X.mg X.base (L2.CX X.prog X.w) k f fd ps (spP X.K cm n m)) (hr : Room k X.A) (hg : Gl X x) (hm : X.mg x = some (.ref f)) (hk : PySem.W.keepIn X.K (.ref f) = true) (hb : Binds X.K fd ps ds) (hd : Vals dvs ds)
    (hdd : dd.all isAt = true) (hdv : dvs = dd.map toV) (hlen : dd.length = n) (hdb : (x == ("__debug__" : Str)) = false := by decide) :
    SE X cm W (.Call (.Name x p) [] [] pos) (fun ρ => noX (eCall m dd [] ρ)) :=
  PE.imp (pe_call0 (E := E0) F hr hg hm hk hb hd passL hdb) fun σ H Q q0 => by
    have q1 : tP X.K cm (fun _ _ _ _ => False) (eCall m dd []) σ H Q := by
      obtain ⟨Z, ρ, Fs, ok, q0⟩ := q0
      refine ⟨Z, ρ, Fs, ok, ?_⟩
      have q0 : FinD X.K cm W σ H Z Q (noX (eCall m dd [] ρ)) := q0
      cases q : eCall m dd [] ρ with
      | no => rw [q] at q0; exact q0.elim
      | ok d => rw [q] at q0; exact q0
      | ex x => rw [q] at q0; exact q0.elim
    have q2 := call_end (n := n) hdd hdv (by simpa using hlen) q1
    obtain ⟨Z, ρ, Fs, ok, q3⟩ := q2
    exact q3 [] H Z [] (.nil ok.dom)
end
end OB

namespace OB
open PySem PySem.Spec PyProof.Rows L2

def Fl.toFrz : Fl → Fl
  | .own => .frz
  | f => f
def toFrz (d : D) : D := mapF Fl.toFrz d
def noT (d : D) : Bool := allF (fun f => f != .tmp) d
def Safe (H : Hp) (O : List Addr) (Z : Zn) : Prop := ∀ a ∈ O, Mut (H a) ∧ ¬ Z.f a ∧ ¬ Z.b a ∧ ¬ Z.t a
structure Walks (K : PySem.W.Frag) (cm : Cm) (J : It) (H : Hp) (O : List Addr) (Z : Zn) (ds : List D) : Prop where
  go : ∀ i H2, Kept H O H2 → i < ds.length → J.go i H2
  stop : ∀ i H2, Kept H O H2 → ds.length ≤ i → J.stop i H2
  yld : ∀ i H2 x H3, Kept H O H2 → J.yld i H2 x H3 → ∀ d, ds[i]? = some d → Grow H2 H3 ∧ Rep K cm H3 Z d x []
/-- the items, and whether none of them is lent -/
abbrev Its' := List D × Bool
def FinI (K : PySem.W.Frag) (cm : Cm) (W : WX) (σ : L2.St) (H : Hp) (Z : Zn) (R : It → Hp → Prop) : Ot Its' → Prop
  | .no => False
  | .ok p => ∀ J H' Z', Ext H Z H' Z' → (∀ O t', (p.2 = true ∨ t' = Z'.t) → Safe H' O ⟨Z'.f, Z'.b, t'⟩ → Walks K cm J H' O ⟨Z'.f, Z'.b, t'⟩ p.1) → R J H'
  | .ex x => ∀ cls dd H' Z', Ext H Z H' Z' → XRep K cm H' Z' x cls dd → W cls dd σ H'
def tPI (K : PySem.W.Frag) (cm : Cm) (W : WX) (g : En → Ot Its') : TI := fun σ H R => ∃ Z ρ Fs, OkP K cm H σ ρ Fs Z ∧ FinI K cm W σ H Z R (g ρ)
abbrev SI (X : Cx) (cm : Cm) (W : WX) (tg e : Expr) (g : En → Ot Its') : Prop := PI X tg e (tPI X.K cm W g)
theorem PI.imp {X : Cx} {tg e : Expr} {t t' : TI} (h : PI X tg e t) (i : ∀ σ H R, t' σ H R → t σ H R) : PI X tg e t' := ⟨fun pins s σ H R I q => h.run pins s σ H R I (i σ H R q)⟩
theorem PI.or {X : Cx} {tg e : Expr} {t t' : TI} (h : PI X tg e t) (h' : PI X tg e t') : PI X tg e (fun σ H R => t σ H R ∨ t' σ H R) := ⟨fun pins s σ H R I q => q.elim (h.run pins s σ H R I) (h'.run pins s σ H R I)⟩
def itemsD : D → Option Its'
  | .nd (.lst f) ds => some (ds.map toFrz, f != .tmp && ds.all noT)
  | .nd .tup ds => some (ds.map toFrz, ds.all noT)
  | .str s => some (s.cps.toList.map fun c => .str ⟨#[c]⟩, true)
  | _ => none
def itV (f : En → Ot D) : En → Ot Its' := fun ρ => (f ρ).bind fun d => .of (itemsD d)
section
variable {K : PySem.W.Frag} {cm : Cm} {H : Hp} {O : List Addr} {Z : Zn}
theorem Safe.kept {H' : Hp} (s : Safe H O Z) (k : Kept H O H') {d : D} {v : V} (r : Rep K cm H Z d v []) : Rep K cm H' Z d v [] :=
  r.kept k (fun a h => (s a h).1) (fun a h => (s a h).2) (fun _ h => h) (fun _ h => h) (fun _ h => h) (fun _ h => nomatch h)
theorem Kept.rd {H' : Hp} {a : Addr} {u : HO} (k : Kept H O H') (n : a ∉ O) (h : Rd H a u) : Rd H' a u := by
  rcases h with h | ⟨o, h⟩
  · exact .inl (k _ _ h n)
  · exact .inr ⟨o, k _ _ h n⟩
theorem walk_list {a : Addr} {vs : List V} {ds : List D} {Gs : List (List Addr)} (h : Rd H a (.lst vs)) (n : a ∉ O) (s : Safe H O Z) (r : RepL K cm H Z ds vs Gs) (e : Gs.flatten = []) : Walks K cm (Itl K a) H O Z ds := by
  have len := r.len.1
  refine ⟨fun i H2 k l => ⟨vs, vs[i]'(by omega), rdL (k.rd n h), by simp⟩, fun i H2 k l => ⟨vs, rdL (k.rd n h), by omega⟩, fun i H2 x H3 k y d hd => ?_⟩
  obtain ⟨rfl, y⟩ := y
  obtain ⟨v, F, e1, e2, e3⟩ := r.get hd
  have e4 := y vs (rdL (k.rd n h))
  rw [e1] at e4
  cases e4
  have eF : F = [] := List.eq_nil_iff_forall_not_mem.mpr fun z hz => by
    have := flat_mem e2 hz
    rw [e] at this; cases this
  subst eF
  exact ⟨.refl _, s.kept k e3⟩
theorem walk_tup {a : Addr} {vs : List V} {ds : List D} {Gs : List (List Addr)} (h : SqT K H a vs) (s : Safe H O Z) (r : RepL K cm H Z ds vs Gs) (e : Gs.flatten = []) : Walks K cm (Itt K a) H O Z ds := by
  have len := r.len.1
  have ht : ∀ H2, Kept H O H2 → SqT K H2 a vs := fun H2 k => by
    have nm : ∀ u, Mut (some u) = False → H a = some u → a ∉ O := fun u e q z => by have := (s a z).1; rw [q, e] at this; exact this
    rcases h with (h | ⟨ob, h⟩) | h
    · exact .inl (.inl (k a _ h (nm _ rfl h)))
    · exact .inl (.inr ⟨ob, k a _ h (nm _ rfl h)⟩)
    · exact .inr h
  refine ⟨fun i H2 k l => ⟨vs, vs[i]'(by omega), ht H2 k, by simp⟩, fun i H2 k l => ⟨vs, ht H2 k, by omega⟩, fun i H2 x H3 k y d hd => ?_⟩
  obtain ⟨rfl, y⟩ := y
  obtain ⟨v, F, e1, e2, e3⟩ := r.get hd
  have e4 := y vs (ht H3 k)
  rw [e1] at e4
  cases e4
  have eF : F = [] := List.eq_nil_iff_forall_not_mem.mpr fun z hz => by
    have := flat_mem e2 hz
    rw [e] at this; cases this
  subst eF
  exact ⟨.refl _, s.kept k e3⟩
theorem walk_str {x : Str} : Walks K cm (Its x) H O Z (x.cps.toList.map fun c => .str ⟨#[c]⟩) := by
  refine ⟨fun i H2 k l => (show i < x.cps.size by simpa using l), fun i H2 k l => (show x.cps.size ≤ i by simpa using l), fun i H2 v H3 k y d hd => ?_⟩
  obtain ⟨rfl, c, e, rfl⟩ := y
  have e2 : x.cps.toList[i]? = some c := by simpa using e
  rw [List.getElem?_map, e2] at hd
  cases hd
  exact ⟨.refl _, rep_str⟩
theorem walk_rng {lo : Int} {n : Nat} : Walks K cm (Itr lo n) H O Z ((List.range n).map fun i : Nat => .int (lo + (i : Int))) := by
  refine ⟨fun i H2 k l => (show i < n by simpa using l), fun i H2 k l => (show n ≤ i by simpa using l), fun i H2 v H3 k y d hd => ?_⟩
  obtain ⟨rfl, rfl⟩ := y
  rw [List.getElem?_map] at hd
  by_cases hi : i < n
  · rw [List.getElem?_range hi] at hd
    cases hd
    exact ⟨.refl _, rep_int⟩
  · rw [List.getElem?_eq_none (by simpa using hi)] at hd
    cases hd
theorem walk_rngC {lo c : Int} {n : Nat} : Walks K cm (Itc lo c n) H O Z ((List.range n).map fun i : Nat => .int (lo + (i : Int) * c)) := by
  refine ⟨fun i H2 k l => (show i < n by simpa using l), fun i H2 k l => (show n ≤ i by simpa using l), fun i H2 v H3 k y d hd => ?_⟩
  obtain ⟨rfl, rfl⟩ := y
  rw [List.getElem?_map] at hd
  by_cases hi : i < n
  · rw [List.getElem?_range hi] at hd
    cases hd
    exact ⟨.refl _, rep_int⟩
  · rw [List.getElem?_eq_none (by simpa using hi)] at hd
    cases hd
/-- enumerate -/
def enumD (ds : List D) : List D := (List.range ds.length).zipWith (fun (i : Nat) d => .nd .tup [.int (i : Int), d]) ds
theorem enumD_get {ds : List D} {i : Nat} {e : D} (h : (enumD ds)[i]? = some e) : ∃ d, ds[i]? = some d ∧ e = .nd .tup [.int (i : Int), d] := by
  unfold enumD at h
  rw [List.getElem?_zipWith] at h
  cases q : ds[i]? with
  | none => rw [q] at h; cases q2 : (List.range ds.length)[i]? <;> rw [q2] at h <;> cases h
  | some d =>
    have hi : i < ds.length := (List.getElem?_eq_some_iff.mp q).1
    rw [q, List.getElem?_range hi] at h
    cases h
    exact ⟨d, rfl, rfl⟩
theorem walk_enum {a : Addr} {vs : List V} {ds : List D} {Gs : List (List Addr)} (h : Rd H a (.lst vs)) (n : a ∉ O) (s : Safe H O Z) (r : RepL K cm H Z ds vs Gs) (e : Gs.flatten = []) : Walks K cm (Ite K a) H O Z (enumD ds) := by
  have len := r.len.1
  have len2 : (enumD ds).length = ds.length := by unfold enumD; simp
  refine ⟨fun i H2 k l => ⟨vs, vs[i]'(by omega), rdL (k.rd n h), by simp⟩, fun i H2 k l => ⟨vs, rdL (k.rd n h), by omega⟩, fun i H2 x H3 k y d hd => ?_⟩
  obtain ⟨T, x, rfl, hT, rfl, y⟩ := y
  obtain ⟨d0, hd0, rfl⟩ := enumD_get hd
  obtain ⟨v, F, e1, e2, e3⟩ := r.get hd0
  have e4 := y vs (rdL (k.rd n h))
  rw [e1] at e4
  cases e4
  have eF : F = [] := List.eq_nil_iff_forall_not_mem.mpr fun z hz => by
    have := flat_mem e2 hz
    rw [e] at this; cases this
  subst eF
  have g : Grow H2 (upd H2 T (.tup [.int (i : Nat), x])) := .new hT
  refine ⟨g, ⟨T, _, [[], []], rfl, SqT.of upd_same, repL_cons rep_int (repL_cons ?_ repL_nil), rfl⟩⟩
  exact (s.kept k e3).grow g (fun _ h => h) (fun _ h => h) (fun _ h => h)
/-- zip -/
def zipD (ds es : List D) : List D := ds.zipWith (fun a b => .nd .tup [a, b]) es
theorem zipD_get {ds es : List D} {i : Nat} {e : D} (h : (zipD ds es)[i]? = some e) : ∃ d d', ds[i]? = some d ∧ es[i]? = some d' ∧ e = .nd .tup [d, d'] := by
  unfold zipD at h
  rw [List.getElem?_zipWith] at h
  cases q : ds[i]? with
  | none => rw [q] at h; cases q2 : es[i]? <;> rw [q2] at h <;> cases h
  | some d =>
    cases q2 : es[i]? with
    | none => rw [q, q2] at h; cases h
    | some d' => rw [q, q2] at h; cases h; exact ⟨d, d', rfl, rfl, rfl⟩
theorem walk_zip {a b : Addr} {vs us : List V} {ds es : List D} {Gs Ms : List (List Addr)} (h : Rd H a (.lst vs)) (h' : Rd H b (.lst us)) (n : a ∉ O) (n' : b ∉ O) (s : Safe H O Z) (r : RepL K cm H Z ds vs Gs) (r' : RepL K cm H Z es us Ms) (e : Gs.flatten = []) (e' : Ms.flatten = []) :
    Walks K cm (Itz K a b) H O Z (zipD ds es) := by
  have len := r.len.1
  have len' := r'.len.1
  have len2 : (zipD ds es).length = min ds.length es.length := by unfold zipD; simp
  have nilOf : ∀ {Gs : List (List Addr)} {F : List Addr} {i : Nat}, Gs.flatten = [] → Gs[i]? = some F → F = [] := fun {Gs F i} e e2 => List.eq_nil_iff_forall_not_mem.mpr fun z hz => by
    have := flat_mem e2 hz
    rw [e] at this; cases this
  refine ⟨fun i H2 k l => ⟨vs, us, vs[i]'(by omega), us[i]'(by omega), rdL (k.rd n h), rdL (k.rd n' h'), by simp, by simp⟩, fun i H2 k l => ⟨vs, us, rdL (k.rd n h), rdL (k.rd n' h'), by omega⟩, fun i H2 x H3 k y d hd => ?_⟩
  obtain ⟨T, x, x', rfl, hT, rfl, y, y'⟩ := y
  obtain ⟨d0, d1, hd0, hd1, rfl⟩ := zipD_get hd
  obtain ⟨v, F, e1, e2, e3⟩ := r.get hd0
  obtain ⟨v', F', e1', e2', e3'⟩ := r'.get hd1
  have e4 := y vs (rdL (k.rd n h))
  have e4' := y' us (rdL (k.rd n' h'))
  rw [e1] at e4
  rw [e1'] at e4'
  cases e4
  cases e4'
  have eF := nilOf e e2
  have eF' := nilOf e' e2'
  subst eF eF'
  have g : Grow H2 (upd H2 T (.tup [x, x'])) := .new hT
  refine ⟨g, ⟨T, _, [[], []], rfl, SqT.of upd_same, repL_cons ?_ (repL_cons ?_ repL_nil), rfl⟩⟩
  · exact (s.kept k e3).grow g (fun _ h => h) (fun _ h => h) (fun _ h => h)
  · exact (s.kept k e3').grow g (fun _ h => h) (fun _ h => h) (fun _ h => h)
/-- reversed -/
theorem walk_rev {a : Addr} {vs : List V} {ds : List D} {Gs : List (List Addr)} (h : Rd H a (.lst vs)) (n : a ∉ O) (s : Safe H O Z) (r : RepL K cm H Z ds vs Gs) (e : Gs.flatten = []) : Walks K cm (Itv K a vs.length) H O Z ds.reverse := by
  have len := r.len.1
  refine ⟨fun i H2 k l => ⟨by simpa [len] using l, vs, vs[vs.length - 1 - i]'(by simp at l; omega), rdL (k.rd n h), by simp⟩, fun i H2 k l => (show vs.length ≤ i by simpa [len] using l), fun i H2 x H3 k y d hd => ?_⟩
  obtain ⟨rfl, y⟩ := y
  have hi : i < ds.length := by
    have := (List.getElem?_eq_some_iff.mp hd).1
    simpa using this
  rw [List.getElem?_reverse hi] at hd
  obtain ⟨v, F, e1, e2, e3⟩ := r.get hd
  have e4 := y vs (rdL (k.rd n h))
  rw [len] at e4
  rw [e1] at e4
  cases e4
  have eF : F = [] := List.eq_nil_iff_forall_not_mem.mpr fun z hz => by
    have := flat_mem e2 hz
    rw [e] at this; cases this
  subst eF
  exact ⟨.refl _, s.kept k e3⟩
end
/-! ### a sequence's value, ready to be walked: what is new in it is frozen -/
def noTK : Kd → Bool
  | .lst f => f != .tmp
  | .dct f _ => f != .tmp
  | .obj f _ _ => f != .tmp
  | .tup => true
section
variable {K : PySem.W.Frag} {cm : Cm} {H H1 : Hp} {Z Z1 : Zn}
/-- the frozen view -/
def frzZ (Z1 : Zn) (F : List Addr) : Zn := ⟨fun a => Z1.f a ∨ a ∈ F, Z1.b, Z1.t⟩
theorem Res.frzExt {d : D} {v : V} {F : List Addr} (r : Res K cm H Z H1 Z1 [] d v F) : Ext H Z H1 (frzZ Z1 F) := by
  have hm := Rep.mut d r.rep
  exact ⟨r.ext.gr, fun a h => .inl (r.ext.f a h), fun a h => h.elim (r.ext.fn a) fun q => .inr (r.new a q), fun a h => h.elim (r.ext.fd a) fun q => mut_ne (hm a q), r.ext.b, r.ext.t⟩
theorem RepL.frz {F : List Addr} {ds : List D} {vs : List V} {Fs : List (List Addr)} (r : RepL K cm H Z1 ds vs Fs) (hF : ∀ a ∈ Fs.flatten, a ∈ F) : ∃ Gs, Gs.flatten = [] ∧ RepL K cm H (frzZ Z1 F) (ds.map toFrz) vs Gs := by
  obtain ⟨Gs, a, b⟩ := RepL.give (g := Fl.toFrz) (O := fun a => a ∈ F) (Z' := frzZ Z1 F) (cell_flag (fun a ha f ef _ => by subst ef; exact .inr ha) (fun a f hf hz => by cases f with
      | own => exact absurd rfl hf
      | frz => exact .inl hz
      | _ => exact hz) (fun f e z => by subst z; exact e rfl)) (fun f e => by cases f <;> cases e) ds r fun a h => hF a h
  rw [mapFL_eq] at b
  exact ⟨Gs, a, b⟩
theorem noT_frz : ∀ {ds : List D}, ds.all noT = true → allFL (fun f => f != .tmp) (ds.map toFrz) = true
  | [], _ => rfl
  | d :: ds, h => by
    rw [List.all_cons, Bool.and_eq_true] at h
    rw [List.map_cons, allFL, noT_frz h.2, Bool.and_true]
    exact allF_mapF (p := fun f => f != .tmp) (fun f hf => by cases f <;> first | rfl | exact hf) d h.1

end
/-! ### the rules for what is walked -/
theorem allF_or {p : Fl → Bool} {Z Z' : Zn} (h : ∀ a f, p f = true → Z.ok a f → Z'.ok a f) : True := trivial
section
variable {X : Cx} {cm : Cm} {W : WX} {tg e e2 : Expr} {f g : En → Ot D} {p pos : Pos}
/-- a list's value, about to be walked -/
theorem seq_ready {K : PySem.W.Frag} {H H1 : Hp} {Z Z1 : Zn} {v : V} {F : List Addr} {fl : Fl} {ds : List D} (r : Res K cm H Z H1 Z1 [] (.nd (.lst fl) ds) v F) : ∃ a vs Gs, v = .ref a ∧ Rd H1 a (.lst vs) ∧ Gs.flatten = [] ∧ RepL K cm H1 (frzZ Z1 F) (ds.map toFrz) vs Gs ∧
    Ext H Z H1 (frzZ Z1 F) ∧ ∀ O t', (fl != .tmp && ds.all noT) = true ∨ t' = (frzZ Z1 F).t → Safe H1 O ⟨(frzZ Z1 F).f, (frzZ Z1 F).b, t'⟩ → a ∉ O ∧ RepL K cm H1 ⟨(frzZ Z1 F).f, (frzZ Z1 F).b, t'⟩ (ds.map toFrz) vs Gs := by
  have ext := r.frzExt
  obtain ⟨a, vs, Fs, rfl, hc, hl, rfl⟩ := r.rep
  obtain ⟨Gs, e1, e2⟩ := hl.frz (F := ownA (.lst fl) a ++ Fs.flatten) fun x hx => List.mem_append_right _ hx
  refine ⟨a, vs, Gs, rfl, hc.2.1, e1, e2, ext, fun O t' ht s => ⟨fun ha => ?_, ?_⟩⟩
  · obtain ⟨_, n1, n2, n3⟩ := s a ha
    cases fl with
    | own => exact n1 (.inr (List.mem_append_left _ (by simp [ownA, Kd.isOwn, Kd.fl])))
    | frz => exact n1 (.inl hc.2.2)
    | bor => exact n2 hc.2.2
    | tmp =>
      rcases ht with ht | ht
      · cases ht
      · rw [ht] at n3; exact n3 hc.2.2
  · rcases ht with ht | ht
    · rw [Bool.and_eq_true] at ht
      refine RepL.only (pf := fun f => f != .tmp) (fun a f hf hz => ?_) _ e2 (noT_frz ht.2)
      cases f with
      | tmp => cases hf
      | _ => exact hz
    · rw [ht]; exact e2
theorem tup_ready {K : PySem.W.Frag} {H H1 : Hp} {Z Z1 : Zn} {v : V} {F : List Addr} {ds : List D} (r : Res K cm H Z H1 Z1 [] (.nd .tup ds) v F) : ∃ a vs Gs, v = .ref a ∧ SqT K H1 a vs ∧ Gs.flatten = [] ∧ RepL K cm H1 (frzZ Z1 F) (ds.map toFrz) vs Gs ∧
    Ext H Z H1 (frzZ Z1 F) ∧ ∀ O t', (ds.all noT) = true ∨ t' = (frzZ Z1 F).t → Safe H1 O ⟨(frzZ Z1 F).f, (frzZ Z1 F).b, t'⟩ → RepL K cm H1 ⟨(frzZ Z1 F).f, (frzZ Z1 F).b, t'⟩ (ds.map toFrz) vs Gs := by
  have ext := r.frzExt
  obtain ⟨a, vs, Fs, rfl, hc, hl, rfl⟩ := r.rep
  obtain ⟨Gs, e1, e2⟩ := hl.frz (F := ownA .tup a ++ Fs.flatten) fun x hx => List.mem_append_right _ hx
  refine ⟨a, vs, Gs, rfl, hc, e1, e2, ext, fun O t' ht s => ?_⟩
  rcases ht with ht | ht
  · refine RepL.only (pf := fun f => f != .tmp) (fun a f hf hz => ?_) _ e2 (noT_frz ht)
    cases f with
    | tmp => cases hf
    | _ => exact hz
  · rw [ht]; exact e2
theorem si_val (he : SE X cm W e f) : SI X cm W tg e (itV f) := PI.imp (PI.or (pi_list he) (PI.or (pi_tup he) (pi_str he))) fun σ H R q0 => by
  obtain ⟨Z, ρ, Fs, ok, q0⟩ := q0
  unfold itV at q0
  cases q : f ρ with
  | no => rw [q] at q0; exact q0.elim
  | ex x =>
    rw [q] at q0
    exact .inl ⟨Z, ρ, Fs, ok, by rw [q]; exact q0⟩
  | ok d =>
    rw [q, Ot.bind_ok] at q0
    cases q2 : itemsD d with
    | none => rw [q2] at q0; exact q0.elim
    | some it =>
      rw [q2, Ot.of_some] at q0
      unfold itemsD at q2
      split at q2
      · rename_i fl ds
        cases q2
        refine .inl ⟨Z, ρ, Fs, ok, ?_⟩
        rw [q]
        intro v H1 Z1 F r1
        obtain ⟨a, vs, Gs, rfl, h1, h2, h3, h4, h5⟩ := seq_ready r1
        exact ⟨a, rfl, ⟨vs, rdL h1⟩, q0 _ H1 _ h4 fun O t' ht s => walk_list h1 (h5 O t' ht s).1 s (h5 O t' ht s).2 h2⟩
      · rename_i ds
        cases q2
        refine .inr (.inl ⟨Z, ρ, Fs, ok, ?_⟩)
        rw [q]
        intro v H1 Z1 F r1
        obtain ⟨a, vs, Gs, rfl, h1, h2, h3, h4, h5⟩ := tup_ready r1
        exact ⟨a, rfl, ⟨vs, h1⟩, q0 _ H1 _ h4 fun O t' ht s => walk_tup h1 s (h5 O t' ht s) h2⟩
      · rename_i x
        cases q2
        refine .inr (.inr ⟨Z, ρ, Fs, ok, ?_⟩)
        rw [q]
        intro v H1 Z1 F r1
        obtain ⟨rfl, rfl⟩ := r1.rep
        exact ⟨x, rfl, q0 _ H1 Z1 r1.ext fun O t' _ _ => walk_str⟩
      · cases q2
/-- range -/
def rngOk (i : Int) : Bool := decide (-(2 ^ 62) ≤ i) && decide (i < 2 ^ 62)
def rngD (lo hi : Int) : List D := (List.range (hi - lo).toNat).map fun i : Nat => .int (lo + (i : Int))
def itR1 (fs : List (En → Ot D)) : En → Ot Its' := fun ρ => (eL fs ρ).bind fun ds => match ds with
  | [.int j] => if rngOk j then .ok (rngD 0 j, true) else .no
  | _ => .no
def itR2 (fs : List (En → Ot D)) : En → Ot Its' := fun ρ => (eL fs ρ).bind fun ds => match ds with
  | [.int i, .int j] => if rngOk i && rngOk j then .ok (rngD i j, true) else .no
  | _ => .no
theorem rng_ok {i : Int} (h : rngOk i = true) : -(2 ^ 62) ≤ i ∧ i < 2 ^ 62 := by
  unfold rngOk at h
  rw [Bool.and_eq_true] at h
  exact ⟨of_decide_eq_true h.1, of_decide_eq_true h.2⟩
theorem si_r1 (hg : Gl X "range") (hm : X.mg "range" = none) (ha : SA X cm W [e] (eL [f])) (hs : starEach [e] X.env = [(false, eval e X.env)] := by rfl) : SI X cm W tg (.Call (.Name "range" p) [e] [] pos) (itR1 [f]) := PI.imp (pi_range1 hg hm ha hs) fun σ H R q0 => by
  obtain ⟨Z, ρ, Fs, ok, q0⟩ := q0
  unfold itR1 at q0
  refine ⟨Z, ρ, Fs, ok, ?_⟩
  cases q : eL [f] ρ with
  | no => rw [q] at q0; exact q0
  | ex x => rw [q] at q0; exact q0
  | ok ds =>
    rw [q, Ot.bind_ok] at q0
    intro vs H1 Z1 Gs r1
    split at q0
    · rename_i j
      split at q0
      · rename_i hj
        obtain ⟨v, F, rfl, rfl, ⟨rfl, rfl⟩⟩ := repL1 r1.rep
        obtain ⟨a, b⟩ := rng_ok hj
        refine ⟨j, rfl, a, b, q0 _ H1 Z1 r1.ext fun O t' _ _ => ?_⟩
        have := walk_rng (K := X.K) (cm := cm) (H := H1) (O := O) (Z := ⟨Z1.f, Z1.b, t'⟩) (lo := 0) (n := j.toNat)
        unfold rngD
        rw [Int.sub_zero]
        exact this
      · exact q0.elim
    · exact q0.elim
theorem si_r2 (hg : Gl X "range") (hm : X.mg "range" = none) (ha : SA X cm W [e, e2] (eL [f, g])) (hs : starEach [e, e2] X.env = [(false, eval e X.env), (false, eval e2 X.env)] := by rfl) (hs2 : starEach [e2] X.env = [(false, eval e2 X.env)] := by rfl) : SI X cm W tg (.Call (.Name "range" p) [e, e2] [] pos) (itR2 [f, g]) := PI.imp (pi_range2 hg hm ha hs hs2) fun σ H R q0 => by
  obtain ⟨Z, ρ, Fs, ok, q0⟩ := q0
  unfold itR2 at q0
  refine ⟨Z, ρ, Fs, ok, ?_⟩
  cases q : eL [f, g] ρ with
  | no => rw [q] at q0; exact q0
  | ex x => rw [q] at q0; exact q0
  | ok ds =>
    rw [q, Ot.bind_ok] at q0
    intro vs H1 Z1 Gs r1
    split at q0
    · rename_i i j
      split at q0
      · rename_i hj
        rw [Bool.and_eq_true] at hj
        obtain ⟨v, u, F, G, rfl, rfl, ⟨rfl, rfl⟩, ⟨rfl, rfl⟩⟩ := repL2 r1.rep
        obtain ⟨a, b⟩ := rng_ok hj.1
        obtain ⟨a', b'⟩ := rng_ok hj.2
        exact ⟨i, j, rfl, ⟨a, b, a', b'⟩, q0 _ H1 Z1 r1.ext fun O t' _ _ => walk_rng⟩
      · exact q0.elim
    · exact q0.elim
/-- enumerate(list), reversed(list) -/
def listOf : List D → Option Its'
  | [.nd (.lst fl) ds] => some (ds.map toFrz, fl != .tmp && ds.all noT)
  | _ => none
def itEnum (fs : List (En → Ot D)) : En → Ot Its' := fun ρ => (eL fs ρ).bind fun ds => .of ((listOf ds).map fun p => (enumD p.1, p.2))
def itRev (fs : List (En → Ot D)) : En → Ot Its' := fun ρ => (eL fs ρ).bind fun ds => .of ((listOf ds).map fun p => (p.1.reverse, p.2))
theorem ResL.one {K : PySem.W.Frag} {H H1 : Hp} {Z Z1 : Zn} {d : D} {vs : List V} {Fs : List (List Addr)} (r : ResL K cm H Z H1 Z1 [] [d] vs Fs) : ∃ v F, vs = [v] ∧ Res K cm H Z H1 Z1 [] d v F := by
  obtain ⟨v, F, rfl, rfl, h⟩ := repL1 r.rep
  exact ⟨v, F, rfl, r.ext, h, by simpa using r.nd, by simpa using r.fr, by simpa using r.nf⟩
theorem ResL.two {K : PySem.W.Frag} {H H1 : Hp} {Z Z1 : Zn} {d e : D} {vs : List V} {Fs : List (List Addr)} (r : ResL K cm H Z H1 Z1 [] [d, e] vs Fs) : ∃ v u F G, vs = [v, u] ∧ Fs = [F, G] ∧ Rep K cm H1 Z1 d v F ∧ Rep K cm H1 Z1 e u G := by
  obtain ⟨v, u, F, G, rfl, rfl, h, h'⟩ := repL2 r.rep
  exact ⟨v, u, F, G, rfl, rfl, h, h'⟩
theorem si_enum {elts : List Expr} {kk : Nat} {tpos : Pos} (hg : Gl X "enumerate") (hm : X.mg "enumerate" = none) (ha : SA X cm W [e] (eL [f])) (hs : starEach [e] X.env = [(false, eval e X.env)] := by rfl) :
    SI X cm W (.Tuple elts kk tpos) (.Call (.Name "enumerate" p) [e] [] pos) (itEnum [f]) := PI.imp (pi_enum hg hm ha hs) fun σ H R q0 => by
  obtain ⟨Z, ρ, Fs, ok, q0⟩ := q0
  unfold itEnum at q0
  refine ⟨Z, ρ, Fs, ok, ?_⟩
  cases q : eL [f] ρ with
  | no => rw [q] at q0; exact q0
  | ex x => rw [q] at q0; exact q0
  | ok ds =>
    rw [q, Ot.bind_ok] at q0
    intro vs H1 Z1 Gs r1
    cases q2 : listOf ds with
    | none => rw [q2] at q0; exact q0.elim
    | some it =>
      rw [q2] at q0
      unfold listOf at q2
      split at q2
      · rename_i fl ds'
        cases q2
        obtain ⟨v, F, rfl, r2⟩ := r1.one
        obtain ⟨a, us, Ms, rfl, h1, h2, h3, h4, h5⟩ := seq_ready r2
        exact ⟨a, us, rfl, rdL h1, q0 _ H1 _ h4 fun O t' ht s => walk_enum h1 (h5 O t' ht s).1 s (h5 O t' ht s).2 h2⟩
      · cases q2
theorem si_rev (hg : Gl X "reversed") (hm : X.mg "reversed" = none) (ha : SA X cm W [e] (eL [f])) (hs : starEach [e] X.env = [(false, eval e X.env)] := by rfl) :
    SI X cm W tg (.Call (.Name "reversed" p) [e] [] pos) (itRev [f]) := PI.imp (pi_reversed hg hm ha hs) fun σ H R q0 => by
  obtain ⟨Z, ρ, Fs, ok, q0⟩ := q0
  unfold itRev at q0
  refine ⟨Z, ρ, Fs, ok, ?_⟩
  cases q : eL [f] ρ with
  | no => rw [q] at q0; exact q0
  | ex x => rw [q] at q0; exact q0
  | ok ds =>
    rw [q, Ot.bind_ok] at q0
    intro vs H1 Z1 Gs r1
    cases q2 : listOf ds with
    | none => rw [q2] at q0; exact q0.elim
    | some it =>
      rw [q2] at q0
      unfold listOf at q2
      split at q2
      · rename_i fl ds'
        cases q2
        obtain ⟨v, F, rfl, r2⟩ := r1.one
        obtain ⟨a, us, Ms, rfl, h1, h2, h3, h4, h5⟩ := seq_ready r2
        exact ⟨a, us, rfl, rdL h1, q0 _ H1 _ h4 fun O t' ht s => walk_rev h1 (h5 O t' ht s).1 s (h5 O t' ht s).2 h2⟩
      · cases q2
end
end OB

namespace OB
open PySem PySem.Spec PyProof.Rows L2

section
variable {X : Cx} {cm : Cm} {W : WX} {tg e e2 : Expr} {f g : En → Ot D} {p pos : Pos}
def itZip (fs : List (En → Ot D)) : En → Ot Its' := fun ρ => (eL fs ρ).bind fun ds => match ds with
  | [.nd (.lst fl) ds, .nd (.lst fl') es] => .ok (zipD (ds.map toFrz) (es.map toFrz), (fl != .tmp && ds.all noT) && (fl' != .tmp && es.all noT))
  | _ => .no
theorem si_zip {elts : List Expr} {kk : Nat} {tpos : Pos} (hg : Gl X "zip") (hm : X.mg "zip" = none) (ha : SA X cm W [e, e2] (eL [f, g]))
    (hs : starEach [e, e2] X.env = (false, eval e X.env) :: starEach [e2] X.env := by rfl) (hpl : (backTo pos (starEach [e2] X.env)).any (·.1) = false := by rfl) :
    SI X cm W (.Tuple elts kk tpos) (.Call (.Name "zip" p) [e, e2] [] pos) (itZip [f, g]) := PI.imp (pi_zip hg hm ha hs hpl) fun σ H R q0 => by
  obtain ⟨Z, ρ, Fs, ok, q0⟩ := q0
  unfold itZip at q0
  refine ⟨Z, ρ, Fs, ok, ?_⟩
  cases q : eL [f, g] ρ with
  | no => rw [q] at q0; exact q0
  | ex x => rw [q] at q0; exact q0
  | ok ds0 =>
    rw [q, Ot.bind_ok] at q0
    intro vs H1 Z1 Gs r1
    split at q0
    · rename_i fl ds fl' es
      have hm := RepL.mut _ r1.rep
      obtain ⟨v, u, F, G, rfl, rfl, ⟨a, us, Ms, rfl, hc, hl, rfl⟩, ⟨b, ws, Ns, rfl, hc', hl', rfl⟩⟩ := repL2 r1.rep
      let A := [ownA (.lst fl) a ++ Ms.flatten, ownA (.lst fl') b ++ Ns.flatten].flatten
      have hA : A = (ownA (.lst fl) a ++ Ms.flatten) ++ (ownA (.lst fl') b ++ Ns.flatten) := by simp [A]
      have ext : Ext H Z H1 (frzZ Z1 A) := ⟨r1.ext.gr, fun a h => .inl (r1.ext.f a h), fun a h => h.elim (r1.ext.fn a) fun q => .inr (r1.new a q), fun a h => h.elim (r1.ext.fd a) fun q => mut_ne (hm a q), r1.ext.b, r1.ext.t⟩
      obtain ⟨Gs1, e1, r2⟩ := hl.frz (F := A) fun x hx => by rw [hA]; exact List.mem_append_left _ (List.mem_append_right _ hx)
      obtain ⟨Gs2, e2, r3⟩ := hl'.frz (F := A) fun x hx => by rw [hA]; exact List.mem_append_right _ (List.mem_append_right _ hx)
      have nin : ∀ {fl : Fl} {a : Addr} {vs : List V} {ds : List D} (hc : Cell X.K cm H1 Z1 a (.lst fl) vs) (hAa : fl = .own → a ∈ A) (O : List Addr) (t' : Addr → Prop), ((fl != .tmp && ds.all noT) = true ∨ t' = (frzZ Z1 A).t) → Safe H1 O ⟨(frzZ Z1 A).f, (frzZ Z1 A).b, t'⟩ → a ∉ O := fun {fl a vs ds} hc hAa O t' ht s ha => by
        obtain ⟨_, n1, n2, n3⟩ := s a ha
        cases fl with
        | own => exact n1 (.inr (hAa rfl))
        | frz => exact n1 (.inl hc.2.2)
        | bor => exact n2 hc.2.2
        | tmp =>
          rcases ht with ht | ht
          · cases ht
          · rw [ht] at n3; exact n3 hc.2.2
      have conv : ∀ {fl : Fl} {ds : List D} {vs : List V} {Gs : List (List Addr)} (r : RepL X.K cm H1 (frzZ Z1 A) (ds.map toFrz) vs Gs) (t' : Addr → Prop), ((fl != .tmp && ds.all noT) = true ∨ t' = (frzZ Z1 A).t) → RepL X.K cm H1 ⟨(frzZ Z1 A).f, (frzZ Z1 A).b, t'⟩ (ds.map toFrz) vs Gs := fun {fl ds vs Gs} r t' ht => by
        rcases ht with ht | ht
        · rw [Bool.and_eq_true] at ht
          refine RepL.only (pf := fun f => f != .tmp) (fun a f hf hz => ?_) _ r (noT_frz ht.2)
          cases f with
          | tmp => cases hf
          | _ => exact hz
        · rw [ht]; exact r
      refine ⟨a, b, us, ws, rfl, rdL hc.2.1, rdL hc'.2.1, q0 _ H1 _ ext fun O t' ht s => ?_⟩
      have h1 : (fl != .tmp && ds.all noT) = true ∨ t' = (frzZ Z1 A).t := ht.elim (fun q => .inl (by
        have q : ((fl != .tmp && ds.all noT) && (fl' != .tmp && es.all noT)) = true := q
        rw [Bool.and_eq_true] at q; exact q.1)) .inr
      have h2 : (fl' != .tmp && es.all noT) = true ∨ t' = (frzZ Z1 A).t := ht.elim (fun q => .inl (by
        have q : ((fl != .tmp && ds.all noT) && (fl' != .tmp && es.all noT)) = true := q
        rw [Bool.and_eq_true] at q; exact q.2)) .inr
      exact walk_zip hc.2.1 hc'.2.1 (nin (ds := ds) hc (fun e => by rw [hA]; subst e; simp [ownA, Kd.isOwn, Kd.fl]) O t' h1 s) (nin (ds := es) hc' (fun e => by rw [hA]; subst e; simp [ownA, Kd.isOwn, Kd.fl]) O t' h2 s) s (conv r2 t' h1) (conv r3 t' h2) e1 e2
    · exact q0.elim
end

/-! ### targets -/
theorem RepE.set {K : PySem.W.Frag} {cm : Cm} {H : Hp} {Z : Zn} {σ : L2.St} {ρ : En} {Fs : List (List Addr)} (r : RepE K cm H Z σ ρ Fs) (i : Nat) {d : D} {v : V} {F : List Addr} (h : Rep K cm H Z d v F) : RepE K cm H Z (σ.set i (some v)) (ρ.set i (some d)) (Fs.set i F) := by
  refine ⟨by simp [r.lσ], by simp [r.lF], fun j e q => ?_⟩
  have l1 := r.lσ
  have l2 := r.lF
  by_cases hj : i = j
  · subst hj
    by_cases hi : i < ρ.length
    · rw [List.getElem?_set_self hi] at q
      cases q
      exact ⟨v, F, List.getElem?_set_self (by omega), List.getElem?_set_self (by omega), h⟩
    · rw [List.getElem?_eq_none (by simpa using hi)] at q
      cases q
  · rw [List.getElem?_set_ne hj] at q ⊢
    rw [List.getElem?_set_ne hj]
    exact r.get j e q
theorem wipe_set {σ : L2.St} {i : Nat} {x : Option V} : ∀ {vs : List Nat}, i ∈ vs → wipe (σ.set i x) vs = wipe σ vs
  | [], h => nomatch h
  | v :: vs, h => by
    have sub : ∀ (vs : List Nat), i ∉ vs → wipe (σ.set i x) vs = (wipe σ vs).set i x := by
      intro vs
      induction vs with
      | nil => intro _; rfl
      | cons w vs ih =>
        intro h
        have h1 : i ≠ w := fun e => h (by simp [e])
        have h2 : i ∉ vs := fun e => h (by simp [e])
        unfold wipe
        rw [ih h2, List.set_comm _ _ h1]
    unfold wipe
    by_cases hv : i ∈ vs
    · rw [wipe_set hv]
    · have e : i = v := by
        rcases List.mem_cons.mp h with e | e
        · exact e
        · exact absurd e hv
      subst e
      rw [sub vs hv, List.set_set]
theorem wipe_in {σ : L2.St} {i : Nat} : ∀ {vs : List Nat}, i ∈ vs → (wipe σ vs).set i none = wipe σ vs
  | [], h => nomatch h
  | v :: vs, h => by
    unfold wipe
    by_cases e : i = v
    · subst e; rw [List.set_set]
    · have hv : i ∈ vs := by
        rcases List.mem_cons.mp h with e' | e'
        · exact absurd e' e
        · exact e'
      rw [List.set_comm _ _ (fun q => e q.symm), wipe_in hv]
theorem wipe_wipe {σ : L2.St} : ∀ {vs ws : List Nat}, (∀ i ∈ vs, i ∈ ws) → wipe (wipe σ ws) vs = wipe σ ws
  | [], _, _ => rfl
  | v :: vs, ws, h => by
    show (wipe (wipe σ ws) vs).set v none = wipe σ ws
    rw [wipe_wipe (fun i hi => h i (List.mem_cons_of_mem _ hi)), wipe_in (h v List.mem_cons_self)]
/-- a target keeps the relation, and stores at S alone -/
def OkTg (K : PySem.W.Frag) (cm : Cm) (S : List Nat) (g : TG) (t : D → En → Option En) : Prop := ∀ H Z d v σ ρ Fs ρ1, Rep K cm H Z d v [] → RepE K cm H Z σ ρ Fs → t d ρ = some ρ1 →
  ∀ Q : L2.St → Hp → Prop, (∀ σ1 Fs1, RepE K cm H Z σ1 ρ1 Fs1 → Fs1.flatten.Sublist Fs.flatten → (∀ vs, (∀ i ∈ S, i ∈ vs) → wipe σ1 vs = wipe σ vs) → (∀ i, i ∉ S → σ1[i]? = σ[i]?) → Q σ1 H) → g v σ H Q
def tgName (i : Nat) : D → En → Option En := fun d ρ => some (ρ.set i (some d))
theorem set_nil_sub : ∀ (Fs : List (List Addr)) (i : Nat), (Fs.set i []).flatten.Sublist Fs.flatten
  | [], _ => List.Sublist.refl _
  | F :: Fs, 0 => by rw [List.set_cons_zero, List.flatten_cons, List.flatten_cons]; exact (List.nil_sublist F).append (List.Sublist.refl _)
  | F :: Fs, i + 1 => by rw [List.set_cons_succ, List.flatten_cons, List.flatten_cons]; exact (List.Sublist.refl _).append (set_nil_sub Fs i)
theorem okTg_name {K : PySem.W.Frag} {cm : Cm} {i : Nat} : OkTg K cm [i] (gName i) (tgName i) := by
  intro H Z d v σ ρ Fs ρ1 hd hr e Q q
  cases e
  exact q _ _ (hr.set i hd) (set_nil_sub _ _) (fun vs h => wipe_set (h i (by simp))) (fun j hj => List.getElem?_set_ne (fun e => hj (by simp [e])))
/-- the parts of a tuple, one by one -/
def tgs : List (D → En → Option En) → List D → En → Option En
  | [], [], ρ => some ρ
  | t :: ts, d :: ds, ρ => (t d ρ).bind fun ρ1 => tgs ts ds ρ1
  | _, _, _ => none
def tgTup (ts : List (D → En → Option En)) : D → En → Option En := fun d ρ => match d with
  | .nd .tup ds => tgs ts ds ρ
  | _ => none
def OkTgs (K : PySem.W.Frag) (cm : Cm) (S : List Nat) (g : TGs) (t : List D → En → Option En) : Prop := ∀ H Z ds vs Gs σ ρ Fs ρ1, RepL K cm H Z ds vs Gs → Gs.flatten = [] → RepE K cm H Z σ ρ Fs → t ds ρ = some ρ1 →
  ∀ Q : L2.St → Hp → Prop, (∀ σ1 Fs1, RepE K cm H Z σ1 ρ1 Fs1 → Fs1.flatten.Sublist Fs.flatten → (∀ vs, (∀ i ∈ S, i ∈ vs) → wipe σ1 vs = wipe σ vs) → (∀ i, i ∉ S → σ1[i]? = σ[i]?) → Q σ1 H) → g vs σ H Q
theorem tgs_len : ∀ {ts : List (D → En → Option En)} {ds : List D} {ρ ρ1 : En}, tgs ts ds ρ = some ρ1 → ds.length = ts.length
  | [], [], _, _, _ => rfl
  | [], _ :: _, _, _, e => nomatch e
  | _ :: _, [], _, _, e => nomatch e
  | t :: ts, d :: ds, ρ, ρ1, e => by
    unfold tgs at e
    cases q1 : t d ρ with
    | none => rw [q1] at e; cases e
    | some ρ2 =>
      rw [q1] at e
      have e : tgs ts ds ρ2 = some ρ1 := e
      simp [tgs_len e]
theorem okTgs_nil {K : PySem.W.Frag} {cm : Cm} : OkTgs K cm [] gNil (tgs []) := by
  intro H Z ds vs Gs σ ρ Fs ρ1 hd _ hr e Q q
  cases ds with
  | nil => cases e; exact ⟨hd.1, q σ Fs hr (List.Sublist.refl _) (fun _ _ => rfl) fun _ _ => rfl⟩
  | cons d ds => cases e
theorem okTgs_cons {K : PySem.W.Frag} {cm : Cm} {S S' : List Nat} {g : TG} {gs : TGs} {t : D → En → Option En} {ts : List (D → En → Option En)} (h : OkTg K cm S g t) (hs : OkTgs K cm S' gs (tgs ts)) : OkTgs K cm (S ++ S') (gCons g gs) (tgs (t :: ts)) := by
  intro H Z ds vs Gs σ ρ Fs ρ1 hd hG hr e Q q
  cases ds with
  | nil => cases e
  | cons d ds =>
    obtain ⟨v, vs', F, Gs', rfl, rfl, h1, h2⟩ := hd
    rw [List.flatten_cons] at hG
    obtain ⟨eF, eG⟩ := List.append_eq_nil_iff.mp hG
    subst eF
    unfold tgs at e
    cases q1 : t d ρ with
    | none => rw [q1] at e; cases e
    | some ρ2 =>
      rw [q1] at e
      have e : tgs ts ds ρ2 = some ρ1 := e
      refine ⟨v, vs', rfl, ?_⟩
      refine h H Z d v σ ρ Fs ρ2 h1 hr q1 _ fun σ1 Fs1 r1 sb w1 k1 => ?_
      refine hs H Z ds vs' Gs' σ1 ρ2 Fs1 ρ1 h2 eG r1 e Q fun σ2 Fs2 r2 sb2 w2 k2 => q σ2 Fs2 r2 (sb2.trans sb) (fun vs hv => (w2 vs fun i hi => hv i (List.mem_append_right _ hi)).trans (w1 vs fun i hi => hv i (List.mem_append_left _ hi))) fun i hi => (k2 i fun z => hi (List.mem_append_right _ z)).trans (k1 i fun z => hi (List.mem_append_left _ z))
theorem okTg_tup {K : PySem.W.Frag} {cm : Cm} {S : List Nat} {gs : TGs} {ts : List (D → En → Option En)} {n : Nat} (hn : ts.length = n) (hs : OkTgs K cm S gs (tgs ts)) : OkTg K cm S (gTup K n gs) (tgTup ts) := by
  intro H Z d v σ ρ Fs ρ1 hd hr e Q q
  unfold tgTup at e
  split at e
  · rename_i ds
    obtain ⟨a, vs, Gs, rfl, hc, hl, eF⟩ := hd
    have eG : Gs.flatten = [] := by simpa [ownA, Kd.isOwn, Kd.fl] using eF.symm
    exact ⟨a, vs, rfl, hc, by rw [hl.len.1, tgs_len e, hn], hs H Z ds vs Gs σ ρ Fs ρ1 hl eG hr e Q q⟩
  · cases e

/-! ### comprehensions -/
def wipeE (ρ : En) : List Nat → En
  | [] => ρ
  | v :: vs => (wipeE ρ vs).set v none
theorem RepE.none {K : PySem.W.Frag} {cm : Cm} {H : Hp} {Z : Zn} {σ : L2.St} {ρ : En} {Fs : List (List Addr)} (r : RepE K cm H Z σ ρ Fs) (i : Nat) : RepE K cm H Z (σ.set i none) (ρ.set i none) (Fs.set i []) := by
  refine ⟨by simp [r.lσ], by simp [r.lF], fun j e q => ?_⟩
  by_cases hj : i = j
  · subst hj
    by_cases hi : i < ρ.length
    · rw [List.getElem?_set_self hi] at q; cases q
    · rw [List.getElem?_eq_none (by simpa using hi)] at q; cases q
  · rw [List.getElem?_set_ne hj] at q ⊢
    rw [List.getElem?_set_ne hj]
    exact r.get j e q
theorem RepE.wiped {K : PySem.W.Frag} {cm : Cm} {H : Hp} {Z : Zn} {σ : L2.St} {ρ : En} {Fs : List (List Addr)} (r : RepE K cm H Z σ ρ Fs) : ∀ vs, ∃ Gs, RepE K cm H Z (wipe σ vs) (wipeE ρ vs) Gs ∧ Gs.flatten.Sublist Fs.flatten
  | [] => ⟨Fs, r, List.Sublist.refl _⟩
  | v :: vs => by
    obtain ⟨Gs, a, b⟩ := RepE.wiped r vs
    exact ⟨Gs.set v [], a.none v, (set_nil_sub _ _).trans b⟩
def compL (tg : D → En → Option En) (c : En → Ot Bool) (f : En → Ot D) (ρ : En) : List D → Option (List D)
  | [] => some []
  | d :: ds => (tg d ρ).bind fun ρ1 => match c ρ1 with
    | .ok true => (match f ρ1 with
      | .ok y => (compL tg c f ρ ds).map (y :: ·)
      | _ => none)
    | .ok false => compL tg c f ρ ds
    | _ => none
def eComp (it : En → Ot Its') (tg : D → En → Option En) (c : En → Ot Bool) (f : En → Ot D) (vs : List Nat) : En → Ot D := fun ρ => (it ρ).bind fun p => match compL tg c f (wipeE ρ vs) p.1 with
  | some ys => if ys.length ≤ sizeLine then .ok (.nd (.lst .own) ys) else .no
  | none => .no
abbrev W0 : WX := fun _ _ _ _ => False
def cYes : En → Ot Bool := fun _ => .ok true
/-- the state between two turns: what the list at D holds so far -/
structure CompAt (K : PySem.W.Frag) (cm : Cm) (H1 : Hp) (Z1 : Zn) (D0 : Addr) (H2 : Hp) (ys : List D) : Prop where
  ex : ∃ (zf : Addr → Prop) (us : List V) (Gs : List (List Addr)), Grow H1 H2 ∧ H2 D0 = some (.lst us) ∧ (∀ a, Z1.f a → zf a) ∧ (∀ a, zf a → Z1.f a ∨ H1 a = none) ∧ (∀ a, zf a → a ≠ D0 ∧ H2 a ≠ none) ∧
    RepL K cm H2 ⟨zf, Z1.b, Z1.t⟩ ys us Gs ∧ Gs.flatten.Nodup ∧ ∀ a ∈ Gs.flatten, H1 a = none ∧ a ≠ D0 ∧ ¬ zf a
section
variable {X : Cx} {cm : Cm} {W : WX}
theorem comp_end {K : PySem.W.Frag} {it : En → Ot Its'} {tg : D → En → Option En} {g : TG} {S : List Nat} {c : En → Ot Bool} {tt : TT} {f : En → Ot D} {vs : List Nat} (hg : OkTg K cm S g tg) (hS : ∀ i ∈ S, i ∈ vs) (hT : ∀ σ H Q, tPT K cm W0 c σ H Q → tt σ H Q)
    {σ : L2.St} {H : Hp} {Q : VK} (q0 : tP K cm W (eComp it tg c f vs) σ H Q) : tLc (tPI K cm W it) g tt (tP K cm W0 f) vs σ H Q := by
  obtain ⟨Z, ρ, Fs, ok, q0⟩ := q0
  unfold eComp at q0
  refine ⟨Z, ρ, Fs, ok, ?_⟩
  cases q : it ρ with
  | no => rw [q] at q0; exact q0
  | ex x => rw [q] at q0; exact q0
  | ok p =>
    rw [q, Ot.bind_ok] at q0
    cases q1 : compL tg c f (wipeE ρ vs) p.1 with
    | none => rw [q1] at q0; exact q0.elim
    | some all =>
      rw [q1] at q0
      have q0 : FinD K cm W σ H Z Q (if all.length ≤ sizeLine then .ok (.nd (.lst .own) all) else .no) := q0
      split at q0
      · rename_i hz
        intro J H1 Z1 ext1 wk D0 hD
        have w := wk [] Z1.t (.inr rfl) (fun _ h => nomatch h)
        have ok1 := ok.ext ext1
        obtain ⟨Es, rE, sE⟩ := ok1.rep.wiped vs
        let Pv : Nat → Hp → Prop := fun i H2 => ∃ ys rest, CompAt K cm H1 Z1 D0 H2 ys ∧ compL tg c f (wipeE ρ vs) (p.1.drop i) = some rest ∧ all = ys ++ rest
        have gD : Grow H1 (L2.upd H1 D0 (.lst [])) := .new hD
        have h0 : Pv 0 (L2.upd H1 D0 (.lst [])) := ⟨[], all, ⟨Z1.f, [], [], gD, upd_same, fun _ h => h, fun _ h => .inl h, fun a h => ⟨fun e => by subst e; exact ok1.dom.f _ h hD, fun e => ok1.dom.f a h (gD.back e)⟩, repL_nil, List.nodup_nil, fun _ h => nomatch h⟩, by simpa using q1, by simp⟩
        refine ⟨fun i m H2 => m = p.1.length - i ∧ i ≤ p.1.length ∧ Pv i H2, ⟨p.1.length, by simp, Nat.zero_le _, h0⟩, ?_⟩
        rintro i m H2 ⟨rfl, hi, ys, rest, ⟨zf, us, Gs, gr, hD2, f1, f2, f3, rl, nd, nf⟩, hc, ea⟩
        by_cases hlt : i < p.1.length
        · refine .inr ⟨w.go i H2 (.grow gr) hlt, Pv (i + 1), fun H' p' => ⟨p.1.length - (i + 1), by omega, rfl, hlt, p'⟩, fun x H3 y => ?_⟩
          obtain ⟨d, hd⟩ : ∃ d, p.1[i]? = some d := ⟨_, List.getElem?_eq_getElem hlt⟩
          obtain ⟨gr3, rx⟩ := w.yld i H2 x H3 (.grow gr) y d hd
          have drop_eq : p.1.drop i = d :: p.1.drop (i + 1) := by
            rw [List.drop_eq_getElem_cons hlt]
            rw [List.getElem?_eq_getElem hlt] at hd
            cases hd; rfl
          rw [drop_eq] at hc
          unfold compL at hc
          cases q2 : tg d (wipeE ρ vs) with
          | none => rw [q2] at hc; cases hc
          | some ρ1 =>
            rw [q2] at hc
            have gr13 : Grow H1 H3 := gr.trans gr3
            let Z3 : Zn := ⟨zf, Z1.b, Z1.t⟩
            have rx3 : Rep K cm H3 Z3 d x [] := rx.grow (.refl _) f1 (fun _ h => h) (fun _ h => h)
            have rE3 : RepE K cm H3 Z3 (wipe σ vs) (wipeE ρ vs) Es := ⟨rE.lσ, rE.lF, fun j e h => by
              obtain ⟨v, F, a1, a2, a3⟩ := rE.get j e h
              exact ⟨v, F, a1, a2, a3.grow gr13 f1 (fun _ h => h) (fun _ h => h)⟩⟩
            refine hg H3 Z3 d x (wipe σ vs) (wipeE ρ vs) Es ρ1 rx3 rE3 q2 _ fun σ1 Fs1 r1 sb wp _ => ⟨?_, ?_⟩
            · rw [wp vs hS, wipe_wipe (fun _ h => h)]
            · have ok3 : OkP K cm H3 σ1 ρ1 Fs1 Z3 := ⟨r1, ⟨fun a h z => (f3 a h).2 (gr3.back z), fun a h z => ok1.dom.b a h (gr13.back z), fun a h z => ok1.dom.t a h (gr13.back z)⟩, fun a h => ok1.tm a (sE.subset (sb.subset h))⟩
              refine hT _ _ _ ⟨Z3, ρ1, Fs1, ok3, ?_⟩
              have hc : (match c ρ1 with
                | .ok true => (match f ρ1 with
                  | .ok y => (compL tg c f (wipeE ρ vs) (p.1.drop (i + 1))).map (y :: ·)
                  | _ => none)
                | .ok false => compL tg c f (wipeE ρ vs) (p.1.drop (i + 1))
                | _ => none) = some rest := hc
              cases q3 : c ρ1 with
              | no => rw [q3] at hc; cases hc
              | ex x => rw [q3] at hc; cases hc
              | ok b =>
                rw [q3] at hc
                intro H4 Z4 ext4
                have nD : ∀ a, Z4.f a → a ≠ D0 := fun a h e => by
                  subst e
                  rcases ext4.fn _ h with h | h
                  · exact (f3 _ h).1 rfl
                  · rw [gr3 _ _ hD2] at h; cases h
                have gr4 : Grow H2 H4 := gr3.trans ext4.gr
                cases b with
                | false =>
                  have hc : compL tg c f (wipeE ρ vs) (p.1.drop (i + 1)) = some rest := hc
                  refine ⟨ys, rest, ⟨Z4.f, us, Gs, gr.trans gr4, gr4 _ _ hD2, fun a h => ext4.f a (f1 a h), fun a h => (ext4.fn a h).elim (f2 a) fun z => .inr (gr13.back z), fun a h => ⟨nD a h, ext4.fd a h⟩, ?_, nd, fun a h => ?_⟩, hc, ea⟩
                  · exact rl.grow gr4 ext4.f (fun _ h => h) (fun _ h => h)
                  · obtain ⟨n1, n2, n3⟩ := nf a h
                    refine ⟨n1, n2, fun z => (ext4.fn a z).elim n3 fun z2 => ?_⟩
                    exact mut_ne (RepL.mut ys rl a h) (gr3.back z2)
                | true =>
                  show tP K cm W0 f σ1 H4 _
                  refine ⟨Z4, ρ1, Fs1, ok3.ext ext4, ?_⟩
                  have hc : (match f ρ1 with
                    | .ok y => (compL tg c f (wipeE ρ vs) (p.1.drop (i + 1))).map (y :: ·)
                    | _ => none) = some rest := hc
                  cases q4 : f ρ1 with
                  | no => rw [q4] at hc; cases hc
                  | ex x => rw [q4] at hc; cases hc
                  | ok yd =>
                    rw [q4] at hc
                    have hc : (compL tg c f (wipeE ρ vs) (p.1.drop (i + 1))).map (yd :: ·) = some rest := hc
                    cases q5 : compL tg c f (wipeE ρ vs) (p.1.drop (i + 1)) with
                    | none => rw [q5] at hc; cases hc
                    | some rest' =>
                      rw [q5] at hc
                      cases hc
                      intro yv H5 Z5 F5 r5
                      have gr5 : Grow H2 H5 := gr4.trans r5.ext.gr
                      have hD5 : H5 D0 = some (.lst us) := gr5 _ _ hD2
                      have mD : Mut (H5 D0) := by rw [hD5]; trivial
                      have hyl : us.length = ys.length := rl.len.1
                      have nD5 : ∀ a, Z5.f a → a ≠ D0 := fun a h e => by
                        subst e
                        rcases r5.ext.fn _ h with h | h
                        · exact nD _ h rfl
                        · rw [gr4 _ _ hD2] at h; cases h
                      refine ⟨us, hD5, ?_, ys ++ [yd], rest', ?_, q5, by simp [ea]⟩
                      · have : all.length = ys.length + (rest'.length + 1) := by rw [ea]; simp
                        omega
                      · have e5b : Z5.b = Z1.b := r5.ext.b.trans ext4.b
                        have e5t : Z5.t = Z1.t := r5.ext.t.trans ext4.t
                        have nbD : ¬ Z1.b D0 := fun h => ok1.dom.b _ h hD
                        have ntD : ¬ Z1.t D0 := fun h => ok1.dom.t _ h hD
                        have hyz : Rep K cm H5 ⟨Z5.f, Z1.b, Z1.t⟩ yd yv F5 := by
                          have := r5.rep
                          rw [show Z5 = ⟨Z5.f, Z1.b, Z1.t⟩ by rw [← e5b, ← e5t]] at this
                          exact this
                        have f15 : ∀ a, zf a → Z5.f a := fun a h => r5.ext.f a (ext4.f a h)
                        have rl5 : RepL K cm H5 ⟨Z5.f, Z1.b, Z1.t⟩ ys us Gs := rl.grow gr5 f15 (fun _ h => h) (fun _ h => h)
                        have newF : ∀ a ∈ F5, H4 a = none := r5.new
                        have nDF : D0 ∉ F5 := fun h => by
                          have := newF D0 h
                          rw [gr4 _ _ hD2] at this; cases this
                        refine ⟨Z5.f, us ++ [yv], Gs ++ [F5], fun a o h => ?_, upd_same, fun a h => f15 a (f1 a h), fun a h => ?_, fun a h => ⟨nD5 a h, ?_⟩, ?_, ?_, fun a h => ?_⟩
                        · have ne : a ≠ D0 := fun e => by subst e; rw [hD] at h; cases h
                          rw [upd_ne ne]; exact gr5 _ _ (gr _ _ h)
                        · rcases r5.ext.fn a h with h | h
                          · rcases ext4.fn a h with h | h
                            · exact f2 a h
                            · exact .inr (gr13.back h)
                          · exact .inr (gr.back (gr4.back h))
                        · rw [upd_ne (nD5 a h)]; exact r5.ext.fd a h
                        · exact (rl5.upd mD (fun h => (nf D0 h).2.1 rfl) (fun h => nD5 _ h rfl) nbD ntD).app (repL_cons (hyz.upd mD nDF (fun h => nD5 _ h rfl) nbD ntD) repL_nil)
                        · rw [List.flatten_append]
                          simp only [List.flatten_cons, List.flatten_nil, List.append_nil]
                          rw [List.nodup_append]
                          exact ⟨nd, r5.nd, fun a ha b hb e => by
                            subst e
                            exact mut_ne (RepL.mut ys rl a ha) (gr4.back (newF a hb))⟩
                        · rw [List.flatten_append] at h
                          simp only [List.flatten_cons, List.flatten_nil, List.append_nil] at h
                          rcases List.mem_append.mp h with h | h
                          · obtain ⟨n1, n2, n3⟩ := nf a h
                            refine ⟨n1, n2, fun z => ?_⟩
                            rcases r5.ext.fn a z with z | z
                            · rcases ext4.fn a z with z | z
                              · exact n3 z
                              · exact mut_ne (RepL.mut ys rl a h) (gr3.back z)
                            · exact mut_ne (RepL.mut ys rl a h) (gr4.back z)
                          · exact ⟨gr.back (gr4.back (newF a h)), fun e => nDF (e ▸ h), r5.nf a h⟩
        · have e : i = p.1.length := by omega
          subst e
          refine .inl ⟨w.stop _ H2 (.grow gr) (Nat.le_refl _), ?_⟩
          rw [List.drop_length] at hc
          cases hc
          rw [List.append_nil] at ea
          subst ea
          refine q0 (.ref D0) H2 ⟨zf, Z1.b, Z1.t⟩ (ownA (.lst .own) D0 ++ Gs.flatten) ⟨⟨ext1.gr.trans gr, fun a h => f1 a (ext1.f a h), fun a h => (f2 a h).elim (ext1.fn a) fun z => .inr (ext1.gr.back z), fun a h => (f3 a h).2, ext1.b, ext1.t⟩, ⟨D0, us, Gs, rfl, ⟨fun _ => hD2, .inl hD2, trivial⟩, rl, rfl⟩, ?_, fun a h => ?_, fun a h => ?_⟩
          · have eo : ownA (.lst .own) D0 = [D0] := by simp [ownA, Kd.isOwn, Kd.fl]
            rw [eo, List.nodup_append]
            refine ⟨by simp, nd, fun a ha b hb e => ?_⟩
            have e2 : a = D0 := by simpa using ha
            exact (nf b hb).2.1 (e ▸ e2)
          · have eo : ownA (.lst .own) D0 = [D0] := by simp [ownA, Kd.isOwn, Kd.fl]
            rw [eo] at h
            rcases List.mem_append.mp h with h | h
            · have e2 : a = D0 := by simpa using h
              rw [e2]; exact .inl (ext1.gr.back hD)
            · exact .inl (ext1.gr.back (nf a h).1)
          · have eo : ownA (.lst .own) D0 = [D0] := by simp [ownA, Kd.isOwn, Kd.fl]
            rw [eo] at h
            rcases List.mem_append.mp h with h | h
            · have e2 : a = D0 := by simpa using h
              rw [e2]; exact fun z => (f3 _ z).1 rfl
            · exact (nf a h).2.2
      · exact q0.elim
variable {elt tgx iter : Expr} {ifs : List Expr} {scope : Scope} {own : List (Str × Nat)} {pos : Pos} {it : En → Ot Its'} {tg : D → En → Option En} {g : TG} {S : List Nat} {c : En → Ot Bool} {tt : TT} {f : En → Ot D} {t : Expr}
/-- [elt for target in iter if ..] -/
theorem s_comp (hc : X.calm = true) (hN : X.N.Nodup) (hi : SI X cm W tgx iter it) (ok : BlkOk X.N X.env.scope scope own) (hS : (S.all fun i => (own.map (·.2)).contains i) = true) (hgo : OkTg X.K cm S g tg)
    (hg : ∀ (s : Shared) (H : Hp) (C : Addr) (cl : List (Str × Addr)) (fp : List Addr), PG (X.blk s H scope (compEnvC scope cl C X.env) fp) tgx g) (ht : ∀ (s : Shared) (H : Hp) (C : Addr) (cl : List (Str × Addr)) (fp : List Addr), PTs (X.blk s H scope (compEnvC scope cl C X.env) fp) ifs tt)
    (hT : ∀ σ H Q, tPT X.K cm W0 c σ H Q → tt σ H Q)
    (he : ∀ (s : Shared) (H : Hp) (C : Addr) (cl : List (Str × Addr)) (fp : List Addr), SE (X.blk s H scope (compEnvC scope cl C X.env) fp) cm W0 elt f) (hs : ∀ x, foldedSetIterable iter X.env x = pure x := by intro _; rfl) :
    SE X cm W (.ListComp elt [⟨tgx, iter, ifs, 0⟩] scope pos) (eComp it tg c f (own.map (·.2))) :=
  PE.imp (pe_lc hc hN hi ok hg ht he hs) fun σ H Q q0 => comp_end hgo (fun i hi => by
    have := List.all_eq_true.mp hS i hi
    simpa using this) hT q0
theorem yes_T {K : PySem.W.Frag} : ∀ σ H Q, tPT K cm W0 cYes σ H Q → tYes σ H Q := fun σ H Q q0 => by
  obtain ⟨Z, ρ, Fs, ok, q0⟩ := q0
  exact q0 H Z (.refl ok.dom)
end
end OB

namespace OB
open PySem PySem.Spec PyProof.Rows L2

inductive Out where
  | nx | brk | cnt | ret (d : D) | ex (x : XD)
abbrev Mst := En → Option (Out × En)
structure Ok (K : PySem.W.Frag) (cm : Cm) (H : Hp) (σ : L2.St) (ρ : En) (Fs : List (List Addr)) (Z : Zn) : Prop where
  rep : RepE K cm H Z σ ρ Fs
  dom : Dom H Z
  mu : ∀ a ∈ Fs.flatten, Mut (H a)
  nd : Fs.flatten.Nodup
  nz : ∀ a ∈ Fs.flatten, ¬ Z.f a ∧ ¬ Z.b a
  t : ∀ a, ¬ Z.t a
structure SStep (P : List Nat) (σ : L2.St) (H : Hp) (Z : Zn) (Fs : List (List Addr)) (σ' : L2.St) (H' : Hp) (Z' : Zn) (Fs' : List (List Addr)) : Prop where
  keep : Kept H Fs.flatten H'
  own : ∀ a ∈ Fs'.flatten, a ∈ Fs.flatten ∨ H a = none
  f : ∀ a, Z.f a → Z'.f a
  fn : ∀ a, Z'.f a → Z.f a ∨ a ∈ Fs.flatten ∨ H a = none
  b : Z'.b = Z.b
  prot : ∀ i ∈ P, σ'[i]? = σ[i]?
section
variable {K : PySem.W.Frag} {cm : Cm} {P : List Nat} {H H1 H' : Hp} {Z Z1 Z' : Zn} {σ σ1 σ' : L2.St} {ρ ρ1 : En} {Fs Fs1 Fs' : List (List Addr)}
theorem Kept.back {O : List Addr} (k : Kept H O H') {a : Addr} (h : H' a = none) : H a = none ∨ a ∈ O := by
  cases e : H a with
  | none => exact .inl rfl
  | some o =>
    by_cases ho : a ∈ O
    · exact .inr ho
    · have := k a o e ho; rw [h] at this; cases this
theorem SStep.refl : SStep P σ H Z Fs σ H Z Fs := ⟨.refl, fun _ h => .inl h, fun _ h => h, fun _ h => .inl h, rfl, fun _ _ => rfl⟩
theorem SStep.trans (a : SStep P σ H Z Fs σ1 H1 Z1 Fs1) (b : SStep P σ1 H1 Z1 Fs1 σ' H' Z' Fs') : SStep P σ H Z Fs σ' H' Z' Fs' where
  keep := fun x o h n => b.keep x o (a.keep x o h n) fun z => (a.own x z).elim n fun q => by rw [h] at q; cases q
  own := fun x h => (b.own x h).elim (a.own x) fun q => (a.keep.back q).elim .inr .inl
  f := fun x h => b.f x (a.f x h)
  fn := fun x h => by
    rcases b.fn x h with h | h | h
    · exact a.fn x h
    · exact .inr (a.own x h)
    · exact .inr ((a.keep.back h).symm)
  b := b.b.trans a.b
  prot := fun i h => (b.prot i h).trans (a.prot i h)
/-- for expressions: what is owned may be lent -/
def lendZ (Z : Zn) (Fs : List (List Addr)) : Zn := ⟨Z.f, Z.b, fun a => a ∈ Fs.flatten⟩
theorem Ok.pure (ok : Ok K cm H σ ρ Fs Z) : OkP K cm H σ ρ Fs (lendZ Z Fs) :=
  ⟨⟨ok.rep.lσ, ok.rep.lF, fun i d q => by
    obtain ⟨v, F, a, b, c⟩ := ok.rep.get i d q
    exact ⟨v, F, a, b, c.grow (.refl _) (fun _ h => h) (fun _ h => h) fun a h => (ok.t a h).elim⟩⟩, ⟨ok.dom.f, ok.dom.b, fun a h => mut_ne (ok.mu a h)⟩, fun _ h => h⟩
theorem Grow.mut (g : Grow H H') {a : Addr} (h : Mut (H a)) : Mut (H' a) := by
  cases e : H a with
  | none => rw [e] at h; exact h.elim
  | some o => rw [g a o e, ← e]; exact h
/-- behind an expression -/
theorem Ok.ext (ok : Ok K cm H σ ρ Fs Z) (e : Ext H (lendZ Z Fs) H1 Z1) : Ok K cm H1 σ ρ Fs ⟨Z1.f, Z.b, fun _ => False⟩ := by
  have nf : ∀ a ∈ Fs.flatten, ¬ Z1.f a := fun a h q => (e.fn a q).elim (ok.nz a h).1 (mut_ne (ok.mu a h))
  refine ⟨⟨ok.rep.lσ, ok.rep.lF, fun i d q => ?_⟩, ⟨e.fd, fun a h q => ok.dom.b a h (e.gr.back q), fun _ h => h.elim⟩, fun a h => e.gr.mut (ok.mu a h), ok.nd, fun a h => ⟨nf a h, (ok.nz a h).2⟩, fun _ h => h⟩
  obtain ⟨v, F, a, b, c⟩ := ok.rep.get i d q
  exact ⟨v, F, a, b, c.grow e.gr e.f (fun _ h => h) fun a h => (ok.t a h).elim⟩
theorem SStep.ext (ok : Ok K cm H σ ρ Fs Z) (e : Ext H (lendZ Z Fs) H1 Z1) : SStep P σ H Z Fs σ H1 ⟨Z1.f, Z.b, fun _ => False⟩ Fs :=
  ⟨.grow e.gr, fun _ h => .inl h, e.f, fun a h => (e.fn a h).elim .inl fun q => .inr (.inr q), rfl, fun _ _ => rfl⟩
/-- .. with values in hand that are new, nothing in them lent -/
structure OkT (K : PySem.W.Frag) (cm : Cm) (H : Hp) (σ : L2.St) (ρ : En) (Fs : List (List Addr)) (Z : Zn) (ds : List D) (vs : List V) (Gs : List (List Addr)) : Prop where
  ok : Ok K cm H σ ρ Fs Z
  rep : RepL K cm H Z ds vs Gs
  nd : (Fs.flatten ++ Gs.flatten).Nodup
  nz : ∀ a ∈ Gs.flatten, ¬ Z.f a ∧ ¬ Z.b a
theorem noT_rep {d : D} {v : V} {F : List Addr} {t' : Addr → Prop} (r : Rep K cm H Z d v F) (h : noT d = true) : Rep K cm H ⟨Z.f, Z.b, t'⟩ d v F :=
  Rep.only (pf := fun f => f != .tmp) (fun a f hf hz => by
    cases f with
    | tmp => cases hf
    | _ => exact hz) d r h
theorem Ok.one (ok : Ok K cm H σ ρ Fs Z) {d : D} {v : V} {F : List Addr} (r : Res K cm H (lendZ Z Fs) H1 Z1 [] d v F) (h : noT d = true) : OkT K cm H1 σ ρ Fs ⟨Z1.f, Z.b, fun _ => False⟩ [d] [v] [F] := by
  have hb : Z1.b = Z.b := r.ext.b
  refine ⟨ok.ext r.ext, repL_cons ?_ repL_nil, ?_, fun a ha => ?_⟩
  · have := noT_rep (t' := fun _ => False) r.rep h
    rwa [hb] at this
  · simp only [List.flatten_cons, List.flatten_nil, List.append_nil]
    rw [List.nodup_append]
    exact ⟨ok.nd, r.nd, fun a ha b hb e => by subst e; exact mut_ne (ok.mu a ha) (r.new a hb)⟩
  · have ha : a ∈ F := by simpa using ha
    exact ⟨r.nf a ha, fun q => ok.dom.b a q (r.new a ha)⟩
theorem set_mem {α : Type} : ∀ {Fs : List (List α)} {i : Nat} {F : List α} {x : α}, x ∈ (Fs.set i F).flatten → x ∈ Fs.flatten ∨ x ∈ F
  | [], _, _, _, h => .inl h
  | G :: Fs, 0, F, x, h => by
    rw [List.set_cons_zero, List.flatten_cons] at h
    rcases List.mem_append.mp h with h | h
    · exact .inr h
    · exact .inl (by rw [List.flatten_cons]; exact List.mem_append_right _ h)
  | G :: Fs, i + 1, F, x, h => by
    rw [List.set_cons_succ, List.flatten_cons] at h
    rw [List.flatten_cons]
    rcases List.mem_append.mp h with h | h
    · exact .inl (List.mem_append_left _ h)
    · rcases set_mem h with h | h
      · exact .inl (List.mem_append_right _ h)
      · exact .inr h
theorem set_nodup {α : Type} : ∀ {Fs : List (List α)} {i : Nat} {F : List α}, Fs.flatten.Nodup → F.Nodup → (∀ x ∈ Fs.flatten, x ∉ F) → (Fs.set i F).flatten.Nodup
  | [], _, _, h, _, _ => h
  | G :: Fs, 0, F, h, hF, hx => by
    rw [List.flatten_cons, List.nodup_append] at h
    rw [List.set_cons_zero, List.flatten_cons, List.nodup_append]
    exact ⟨hF, h.2.1, fun a ha b hb e => hx b (by rw [List.flatten_cons]; exact List.mem_append_right _ hb) (e ▸ ha)⟩
  | G :: Fs, i + 1, F, h, hF, hx => by
    rw [List.flatten_cons, List.nodup_append] at h
    rw [List.set_cons_succ, List.flatten_cons, List.nodup_append]
    refine ⟨h.1, set_nodup h.2.1 hF fun x hx' => hx x (by rw [List.flatten_cons]; exact List.mem_append_right _ hx'), fun a ha b hb e => ?_⟩
    rcases set_mem hb with q | q
    · exact h.2.2 a ha b q e
    · exact hx a (by rw [List.flatten_cons]; exact List.mem_append_left _ ha) (e ▸ q)
/-- a slot takes the first value in hand -/
theorem OkT.set {d : D} {ds : List D} {v : V} {vs : List V} {F : List Addr} {Gs : List (List Addr)} (o : OkT K cm H σ ρ Fs Z (d :: ds) (v :: vs) (F :: Gs)) (i : Nat) : OkT K cm H (σ.set i (some v)) (ρ.set i (some d)) (Fs.set i F) Z ds vs Gs := by
  obtain ⟨ok, rp, nd, nz⟩ := o
  obtain ⟨_, _, _, _, e1, e2, h1, h2⟩ := rp
  cases e1
  cases e2
  rw [List.flatten_cons] at nd nz
  rw [List.nodup_append] at nd
  obtain ⟨n1, n2, n3⟩ := nd
  rw [List.nodup_append] at n2
  obtain ⟨n4, n5, n6⟩ := n2
  have hm := Rep.mut d h1
  have sm : ∀ a ∈ (Fs.set i F).flatten, a ∈ Fs.flatten ∨ a ∈ F := fun a h => set_mem h
  refine ⟨⟨ok.rep.set i h1, ok.dom, fun a h => (sm a h).elim (ok.mu a) (hm a), set_nodup ok.nd n4 (fun x hx hf => n3 x hx x (List.mem_append_left _ hf) rfl), fun a h => (sm a h).elim (ok.nz a) fun q => nz a (List.mem_append_left _ q), ok.t⟩, h2, ?_, fun a h => nz a (List.mem_append_right _ h)⟩
  rw [List.nodup_append]
  refine ⟨set_nodup ok.nd n4 (fun x hx hf => n3 x hx x (List.mem_append_left _ hf) rfl), n5, fun a ha b hb e => ?_⟩
  rcases sm a ha with q | q
  · exact n3 a q b (List.mem_append_right _ hb) e
  · exact n6 a q b hb e
theorem Ok.drop {ds : List D} {vs : List V} {Gs : List (List Addr)} (o : OkT K cm H σ ρ Fs Z ds vs Gs) : Ok K cm H σ ρ Fs Z := o.ok
end

/-! ### the reading of a statement -/
def EndO (K : PySem.W.Frag) (cm : Cm) (W : WX) (D0 : Ends) (H0 : Hp) (Fs0 : List (List Addr)) (σ : L2.St) (H : Hp) (Z : Zn) (Fs : List (List Addr)) : Out → Prop
  | .nx => D0.nx σ H
  | .brk => D0.bk σ H
  | .cnt => D0.ct σ H
  | .ret d => ∀ v F, Rep K cm H Z d v F → (Fs.flatten ++ F).Nodup → (∀ a ∈ F, ¬ Z.f a ∧ ¬ Z.b a) → (∀ a ∈ F, a ∈ Fs0.flatten ∨ H0 a = none) → D0.rt v H
  | .ex x => ∀ cls dd, XRep K cm H Z x cls dd → W cls dd σ H
def FinS (K : PySem.W.Frag) (cm : Cm) (W : WX) (P : List Nat) (D0 : Ends) (σ : L2.St) (H : Hp) (Z : Zn) (Fs : List (List Addr)) : Option (Out × En) → Prop
  | none => False
  | some p => ∀ σ' H' Z' Fs', SStep P σ H Z Fs σ' H' Z' Fs' → Ok K cm H' σ' p.2 Fs' Z' → EndO K cm W D0 H Fs σ' H' Z' Fs' p.1
def tS (K : PySem.W.Frag) (cm : Cm) (W : WX) (P : List Nat) (g : Mst) : TS := fun D0 σ H => ∃ Z ρ Fs, Ok K cm H σ ρ Fs Z ∧ FinS K cm W P D0 σ H Z Fs (g ρ)
abbrev SS (X : Cx) (cm : Cm) (W : WX) (P : List Nat) (st : Stmt) (g : Mst) : Prop := PS X st (tS X.K cm W P g)
abbrev SB (X : Cx) (cm : Cm) (W : WX) (P : List Nat) (sts : List Stmt) (g : Mst) : Prop := PSs X sts (tS X.K cm W P g)
theorem PS.imp {X : Cx} {e : Stmt} {t t' : TS} (h : PS X e t) (i : ∀ D σ H, t' D σ H → t D σ H) : PS X e t' := ⟨fun pins s σ H D I q => h.run pins s σ H D I (i D σ H q)⟩
theorem PSs.imp {X : Cx} {e : List Stmt} {t t' : TS} (h : PSs X e t) (i : ∀ D σ H, t' D σ H → t D σ H) : PSs X e t' := ⟨fun pins s σ H D I q => h.run pins s σ H D I (i D σ H q)⟩
def sNil : Mst := fun ρ => some (.nx, ρ)
def sSeq (g h : Mst) : Mst := fun ρ => match g ρ with
  | some (.nx, ρ1) => h ρ1
  | r => r
section
variable {K : PySem.W.Frag} {cm : Cm} {W : WX} {P : List Nat} {D0 : Ends} {H H1 : Hp} {Z Z1 : Zn} {σ σ1 : L2.St} {ρ ρ1 : En} {Fs Fs1 : List (List Addr)}
/-- from a later point -/
theorem FinS.step {r : Option (Out × En)} (h : FinS K cm W P D0 σ H Z Fs r) (s : SStep P σ H Z Fs σ1 H1 Z1 Fs1) : FinS K cm W P D0 σ1 H1 Z1 Fs1 r := by
  cases r with
  | none => exact h
  | some p =>
    intro σ' H' Z' Fs' s' ok'
    have := h σ' H' Z' Fs' (s.trans s') ok'
    cases e : p.1 with
    | ret d =>
      rw [e] at this
      exact fun v F r nd nz org => this v F r nd nz fun a ha => (org a ha).elim (s.own a) fun q => (s.keep.back q).symm
    | _ => rw [e] at this; exact this
theorem FinS.at_ (h : FinS K cm W P D0 σ H Z Fs (some (.nx, ρ1))) (s : SStep P σ H Z Fs σ1 H1 Z1 Fs1) (ok : Ok K cm H1 σ1 ρ1 Fs1 Z1) : D0.nx σ1 H1 := h σ1 H1 Z1 Fs1 s ok
theorem tS.of {g : Mst} (ok : Ok K cm H σ ρ Fs Z) (h : FinS K cm W P D0 σ H Z Fs (g ρ)) : tS K cm W P g D0 σ H := ⟨Z, ρ, Fs, ok, h⟩
/-- other ends -/
theorem FinS.ends {D1 : Ends} {r : Option (Out × En)} (h : FinS K cm W P D0 σ H Z Fs r) (h1 : ∀ σ' H' Z' Fs' p, r = some p → SStep P σ H Z Fs σ' H' Z' Fs' → Ok K cm H' σ' p.2 Fs' Z' → EndO K cm W D0 H Fs σ' H' Z' Fs' p.1 → EndO K cm W D1 H Fs σ' H' Z' Fs' p.1) : FinS K cm W P D1 σ H Z Fs r := by
  cases r with
  | none => exact h
  | some p => exact fun σ' H' Z' Fs' s ok => h1 σ' H' Z' Fs' p rfl s ok (h σ' H' Z' Fs' s ok)
end
section
variable {X : Cx} {cm : Cm} {W : WX} {P : List Nat} {st : Stmt} {rest : List Stmt} {g h : Mst} {e : Expr} {f : En → Ot D} {pos : Pos}
theorem sb_nil : SB X cm W P [] sNil := PSs.imp pss_nil fun D0 σ H q => by
  obtain ⟨Z, ρ, Fs, ok, q⟩ := q
  exact q.at_ .refl ok
theorem sb_cons (h1 : SS X cm W P st g) (h2 : SB X cm W P rest h) : SB X cm W P (st :: rest) (sSeq g h) := PSs.imp (pss_cons h1 h2) fun D0 σ H q => by
  obtain ⟨Z, ρ, Fs, ok, q⟩ := q
  refine ⟨Z, ρ, Fs, ok, ?_⟩
  unfold sSeq at q
  cases e : g ρ with
  | none => rw [e] at q; exact q
  | some p =>
    obtain ⟨o, ρ1⟩ := p
    rw [e] at q
    cases o with
    | nx => exact fun σ1 H1 Z1 Fs1 s ok1 => ⟨Z1, ρ1, Fs1, ok1, q.step s⟩
    | brk => exact q
    | cnt => exact q
    | ret d => exact q
    | ex x => exact q
theorem sb_one (h1 : SS X cm W P st g) : SB X cm W P [st] g := pss_one h1
theorem ss_pass : SS X cm W P (.Pass pos) sNil := PS.imp ps_pass fun D0 σ H q => by
  obtain ⟨Z, ρ, Fs, ok, q⟩ := q
  exact q.at_ .refl ok
theorem ss_cont : SS X cm W P (.Continue pos) (fun ρ => some (.cnt, ρ)) := PS.imp ps_continue fun D0 σ H q => by
  obtain ⟨Z, ρ, Fs, ok, q⟩ := q
  exact q σ H Z Fs .refl ok
theorem ss_brk : SS X cm W P (.Break pos) (fun ρ => some (.brk, ρ)) := PS.imp ps_break fun D0 σ H q => by
  obtain ⟨Z, ρ, Fs, ok, q⟩ := q
  exact q σ H Z Fs .refl ok
/-- never reached -/
theorem ss_never : SS X cm W P st (fun _ => none) := PS.imp ps_never fun D0 σ H q => by
  obtain ⟨Z, ρ, Fs, ok, q⟩ := q
  exact q
/-! an expression ahead of a statement's own work -/
def sOn (f : En → Ot D) (k : D → Mst) : Mst := fun ρ => match f ρ with
  | .no => none
  | .ok d => k d ρ
  | .ex x => some (.ex x, ρ)
theorem on_go {K : PySem.W.Frag} {k : D → Mst} {D0 : Ends} {σ : L2.St} {H : Hp} {Z : Zn} {ρ : En} {Fs : List (List Addr)} {Q : VK} (ok : Ok K cm H σ ρ Fs Z) (q : FinS K cm W P D0 σ H Z Fs (sOn f k ρ))
    (hk : ∀ d v H1 Z1 F, f ρ = .ok d → Res K cm H (lendZ Z Fs) H1 Z1 [] d v F → FinS K cm W P D0 σ H1 ⟨Z1.f, Z.b, fun _ => False⟩ Fs (k d ρ) → Q v H1) : tP K cm W f σ H Q := by
  refine ⟨lendZ Z Fs, ρ, Fs, ok.pure, ?_⟩
  unfold sOn at q
  cases e : f ρ with
  | no => rw [e] at q; exact q.elim
  | ok d =>
    rw [e] at q
    exact fun v H1 Z1 F r => hk d v H1 Z1 F e r (q.step (.ext ok r.ext))
  | ex x =>
    rw [e] at q
    intro cls dd H1 Z1 ex xr
    exact q σ H1 _ Fs (.ext ok ex) (ok.ext ex) cls dd (xr.back fun _ h => h)
/-- x = e -/
def sSet (i : Nat) (f : En → Ot D) : Mst := sOn f fun d ρ => if noT d then some (.nx, ρ.set i (some d)) else none
theorem prot_set {P : List Nat} {i : Nat} {σ : L2.St} {x : Option V} (hi : (!P.contains i) = true) : ∀ j ∈ P, (σ.set i x)[j]? = σ[j]? := fun j hj => List.getElem?_set_ne (fun e => by
  subst e
  rw [Bool.not_eq_true'] at hi
  rw [List.contains_iff_mem.mpr hj] at hi
  cases hi)
theorem SStep.set' {K : PySem.W.Frag} {cm : Cm} {H H1 : Hp} {Z Z1 : Zn} {σ : L2.St} {Fs : List (List Addr)} {ρ : En} {i : Nat} {d : D} {v : V} {F : List Addr} (ok : Ok K cm H σ ρ Fs Z) (r : Res K cm H (lendZ Z Fs) H1 Z1 [] d v F) (hi : (!P.contains i) = true) :
    SStep P σ H1 ⟨Z1.f, Z.b, fun _ => False⟩ Fs (σ.set i (some v)) H1 ⟨Z1.f, Z.b, fun _ => False⟩ (Fs.set i F) → True := fun _ => trivial
theorem ss_set {i : Nat} (hi : (!P.contains i) = true) (hs : PS X st (tAsg (tP X.K cm W f) (gName i))) : SS X cm W P st (sSet i f) := PS.imp hs fun D0 σ H q => by
  obtain ⟨Z, ρ, Fs, ok, q⟩ := q
  refine on_go ok q fun d v H1 Z1 F e r q1 => ?_
  split at q1
  · rename_i nt
    have o := (ok.one r nt).set i
    have ok1 := ok.ext r.ext
    -- one step from the very start: what the slot takes is new
    have s : SStep P σ H Z Fs (σ.set i (some v)) H1 ⟨Z1.f, Z.b, fun _ => False⟩ (Fs.set i F) :=
      ⟨.grow r.ext.gr, fun a h => (set_mem h).elim .inl fun q => .inr (r.new a q), r.ext.f, fun a h => (r.ext.fn a h).elim .inl fun q => .inr (.inr q), rfl, prot_set hi⟩
    have q2 : FinS X.K cm W P D0 σ H Z Fs (some (.nx, ρ.set i (some d))) := by
      have q3 := q
      unfold sSet sOn at q3
      rw [e] at q3
      have q3 : FinS X.K cm W P D0 σ H Z Fs (if noT d then some (.nx, ρ.set i (some d)) else none) := q3
      rw [if_pos nt] at q3
      exact q3
    exact q2.at_ s o.ok
  · exact q1.elim
/-- an expression alone -/
def sExpr (f : En → Ot D) : Mst := sOn f fun _ ρ => some (.nx, ρ)
theorem ss_expr (he : SE X cm W e f) (hs : swapsWith e none pos.line X.env = pure false := by rfl) : SS X cm W P (.Expr e pos) (sExpr f) := PS.imp (ps_expr he hs) fun D0 σ H q => by
  obtain ⟨Z, ρ, Fs, ok, q⟩ := q
  exact on_go ok q fun d v H1 Z1 F e r q1 => q1.at_ .refl (ok.ext r.ext)
/-- return e, nothing in it lent -/
def sRet (f : En → Ot D) : Mst := sOn f fun d ρ => if noT d then some (.ret d, ρ) else none
theorem ss_ret (he : SE X cm W e f) : SS X cm W P (.Return (some e) pos) (sRet f) := PS.imp (ps_ret he) fun D0 σ H q => by
  obtain ⟨Z, ρ, Fs, ok, q⟩ := q
  refine on_go ok q fun d v H1 Z1 F e r q1 => ?_
  have q2 := q
  unfold sRet sOn at q2
  rw [e] at q2
  have q2 : FinS X.K cm W P D0 σ H Z Fs (if noT d then some (.ret d, ρ) else none) := q2
  split at q2
  · rename_i nt
    have o := ok.one r nt
    obtain ⟨v', F', e1, e2, hr⟩ := repL1 o.rep
    cases e1
    cases e2
    exact q2 σ H1 _ Fs (.ext ok r.ext) o.ok v F hr (by simpa using o.nd) (by simpa using o.nz) fun a ha => .inr (r.new a ha)
  · exact q2.elim
def sRetN : Mst := fun ρ => some (.ret .non, ρ)
theorem ss_retN : SS X cm W P (.Return none pos) sRetN := PS.imp ps_retN fun D0 σ H q => by
  obtain ⟨Z, ρ, Fs, ok, q⟩ := q
  exact q σ H Z Fs .refl ok .non [] rep_non (by simpa using ok.nd) (fun _ h => nomatch h) fun _ h => nomatch h
/-- return x: the name's own thing goes along -/
def sRetV (i : Nat) : Mst := fun ρ => (getV ρ i).map fun d => (.ret d, ρ.set i none)
theorem flat_set_nil {Fs : List (List Addr)} {i : Nat} {F : List Addr} (h : Fs[i]? = some F) (nd : Fs.flatten.Nodup) : ((Fs.set i []).flatten ++ F).Nodup ∧ ∀ a ∈ F, a ∈ Fs.flatten := by
  refine ⟨?_, fun a ha => flat_mem h ha⟩
  have key : ∀ (Fs : List (List Addr)) (i : Nat) (F : List Addr), Fs[i]? = some F → Fs.flatten.Nodup → ((Fs.set i []).flatten ++ F).Nodup := by
    intro Fs
    induction Fs with
    | nil => intro i F h; simp at h
    | cons G Fs ih =>
      intro i F h nd
      rw [List.flatten_cons, List.nodup_append] at nd
      cases i with
      | zero =>
        simp at h
        subst h
        rw [List.set_cons_zero, List.flatten_cons, List.nil_append, List.nodup_append]
        exact ⟨nd.2.1, nd.1, fun a ha b hb e => nd.2.2 b hb a ha e.symm⟩
      | succ i =>
        have h : Fs[i]? = some F := by simpa using h
        have q := ih i F h nd.2.1
        rw [List.set_cons_succ, List.flatten_cons, List.append_assoc, List.nodup_append]
        refine ⟨nd.1, q, fun a ha b hb e => ?_⟩
        rcases List.mem_append.mp hb with hb | hb
        · rcases set_mem hb with hb | hb
          · exact nd.2.2 a ha b hb e
          · cases hb
        · exact nd.2.2 a ha b (flat_mem h hb) e
  exact key Fs i F h nd
theorem Ok.gone {K : PySem.W.Frag} {H : Hp} {σ : L2.St} {ρ : En} {Fs : List (List Addr)} {Z : Zn} (ok : Ok K cm H σ ρ Fs Z) (i : Nat) : Ok K cm H (σ.set i none) (ρ.set i none) (Fs.set i []) Z :=
  ⟨ok.rep.none i, ok.dom, fun a h => ok.mu a ((set_nil_sub _ _).subset h), ok.nd.sublist (set_nil_sub _ _), fun a h => ok.nz a ((set_nil_sub _ _).subset h), ok.t⟩
theorem ss_retV {i : Nat} {x : Str} {p : Pos} (hi : (!P.contains i) = true) (he : PE X (.Name x p) (tVar i)) : SS X cm W P (.Return (some (.Name x p)) pos) (sRetV i) := PS.imp (ps_ret he) fun D0 σ H q => by
  obtain ⟨Z, ρ, Fs, ok, q⟩ := q
  unfold sRetV at q
  cases e : getV ρ i with
  | none => rw [e] at q; exact q.elim
  | some d =>
    rw [e] at q
    obtain ⟨v, F, e1, e2, r⟩ := ok.rep.get i d (getV_some e)
    obtain ⟨n1, n2⟩ := flat_set_nil e2 ok.nd
    refine ⟨v, e1, ?_⟩
    exact q (σ.set i none) H Z (Fs.set i []) ⟨.refl, fun a h => .inl ((set_nil_sub _ _).subset h), fun _ h => h, fun _ h => .inl h, rfl, prot_set hi⟩ (ok.gone i) v F r n1 (fun a h => ok.nz a (n2 a h)) fun a h => .inl (n2 a h)
/-- return of what is lent: all is frozen -/
def Fl.tmpFrz : Fl → Fl
  | .own => .frz
  | .tmp => .frz
  | f => f
theorem flat_nils : ∀ (Fs : List (List Addr)), (Fs.map fun _ => ([] : List Addr)).flatten = []
  | [] => rfl
  | _ :: Fs => by rw [List.map_cons, List.flatten_cons, flat_nils Fs]; rfl
def frzE (ρ : En) : En := ρ.map (Option.map toFrz)
def sRetF (f : En → Ot D) : Mst := sOn f fun d ρ => some (.ret (mapF Fl.tmpFrz d), frzE ρ)
theorem Ok.frozen {K : PySem.W.Frag} {H : Hp} {σ : L2.St} {ρ : En} {Fs : List (List Addr)} {Z : Zn} (ok : Ok K cm H σ ρ Fs Z) {zf : Addr → Prop} (h1 : ∀ a, Z.f a → zf a) (h2 : ∀ a ∈ Fs.flatten, zf a) (h3 : ∀ a, zf a → H a ≠ none) : Ok K cm H σ (frzE ρ) (Fs.map fun _ => []) ⟨zf, Z.b, fun _ => False⟩ := by
  have fl0 : (Fs.map fun _ => ([] : List Addr)).flatten = [] := flat_nils Fs
  refine ⟨⟨by simp [frzE, ok.rep.lσ], by simp [frzE, ok.rep.lF], fun i d q => ?_⟩, ⟨h3, ok.dom.b, fun _ h => h.elim⟩, (by rw [fl0]; exact fun _ h => (nomatch h)), (by rw [fl0]; exact List.nodup_nil), (by rw [fl0]; exact fun _ h => (nomatch h)), fun _ h => h⟩
  unfold frzE at q
  rw [List.getElem?_map] at q
  cases e : ρ[i]? with
  | none => rw [e] at q; cases q
  | some o =>
    rw [e] at q
    cases o with
    | none => cases q
    | some d0 =>
      cases q
      obtain ⟨v, F, a, b, c⟩ := ok.rep.get i d0 e
      refine ⟨v, [], a, by rw [List.getElem?_map, b]; rfl, ?_⟩
      refine Rep.give (g := Fl.toFrz) (O := fun a => a ∈ F) (cell_flag (fun a ha f ef _ => by subst ef; exact h2 a (flat_mem b ha)) (fun a f hf hz => by cases f with
        | own => exact absurd rfl hf
        | frz => exact h1 a hz
        | bor => exact hz
        | tmp => exact (ok.t a hz).elim) (fun f e z => by subst z; exact e rfl)) (fun f e => by cases f <;> cases e) d0 c fun a h => h
theorem ss_retF (he : SE X cm W e f) : SS X cm W P (.Return (some e) pos) (sRetF f) := PS.imp (ps_ret he) fun D0 σ H q => by
  obtain ⟨Z, ρ, Fs, ok, q⟩ := q
  refine on_go ok q fun d v H1 Z1 F e r q1 => ?_
  have q2 := q
  unfold sRetF sOn at q2
  rw [e] at q2
  have ok1 := ok.ext r.ext
  have hm := Rep.mut d r.rep
  have ok2 := ok1.frozen (zf := fun a => Z1.f a ∨ a ∈ Fs.flatten ∨ a ∈ F) (fun a h => .inl h) (fun a h => .inr (.inl h)) (fun a h => h.elim (r.ext.fd a) fun h => h.elim (fun h => mut_ne (ok1.mu a h)) fun h => mut_ne (hm a h))
  have rr : Rep X.K cm H1 ⟨fun a => Z1.f a ∨ a ∈ Fs.flatten ∨ a ∈ F, Z.b, fun _ => False⟩ (mapF Fl.tmpFrz d) v [] :=
    Rep.give (g := Fl.tmpFrz) (O := fun a => a ∈ F) (cell_flag (fun a ha f ef _ => by subst ef; exact .inr (.inr ha)) (fun a f hf hz => by cases f with
        | own => exact absurd rfl hf
        | frz => exact .inl hz
        | bor => exact (show Z.b a by have := r.ext.b; rw [show (lendZ Z Fs).b = Z.b from rfl] at this; rw [← this]; exact hz)
        | tmp => exact .inr (.inl (show a ∈ Fs.flatten by have := r.ext.t; rw [show (lendZ Z Fs).t = fun a => a ∈ Fs.flatten from rfl] at this; have hz : Z1.t a := hz; rw [this] at hz; exact hz))) (fun f e z => by subst z; exact e rfl)) (fun f e => by cases f <;> cases e) d r.rep fun a h => h
  have fl0 : (Fs.map fun _ => ([] : List Addr)).flatten = [] := flat_nils Fs
  refine q2 σ H1 ⟨fun a => Z1.f a ∨ a ∈ Fs.flatten ∨ a ∈ F, Z.b, fun _ => False⟩ _ ⟨.grow r.ext.gr, (by rw [fl0]; exact fun _ h => (nomatch h)), fun a h => Or.inl (r.ext.f a h), fun a h => ?_, rfl, fun _ _ => rfl⟩ ok2 v [] rr (by rw [fl0]; exact List.nodup_nil) (fun _ h => (nomatch h)) fun _ h => (nomatch h)
  rcases h with h | h | h
  · exact (r.ext.fn a h).elim .inl fun q => .inr (.inr q)
  · exact .inr (.inl h)
  · exact .inr (.inr (r.new a h))

/-! ### if -/
def sIf (t : En → Ot Bool) (g h : Mst) : Mst := fun ρ => match t ρ with
  | .no => none
  | .ok b => if b then g ρ else h ρ
  | .ex x => some (.ex x, ρ)
theorem test_go {K : PySem.W.Frag} {t : En → Ot Bool} {k : Bool → Mst} {D0 : Ends} {σ : L2.St} {H : Hp} {Z : Zn} {ρ : En} {Fs : List (List Addr)} {Q : Bool → Hp → Prop} (ok : Ok K cm H σ ρ Fs Z)
    (q : FinS K cm W P D0 σ H Z Fs (match t ρ with
      | .no => none
      | .ok b => k b ρ
      | .ex x => some (.ex x, ρ)))
    (hk : ∀ b H1 Z1, t ρ = .ok b → Ext H (lendZ Z Fs) H1 Z1 → FinS K cm W P D0 σ H1 ⟨Z1.f, Z.b, fun _ => False⟩ Fs (k b ρ) → Q b H1) : tPT K cm W t σ H Q := by
  refine ⟨lendZ Z Fs, ρ, Fs, ok.pure, ?_⟩
  cases e : t ρ with
  | no => rw [e] at q; exact q.elim
  | ok d =>
    rw [e] at q
    exact fun H1 Z1 ex => hk d H1 Z1 e ex (q.step (.ext ok ex))
  | ex x =>
    rw [e] at q
    intro cls dd H1 Z1 ex xr
    exact q σ H1 _ Fs (.ext ok ex) (ok.ext ex) cls dd (xr.back fun _ h => h)
theorem ss_if {c : Expr} {a b : List Stmt} {t : En → Ot Bool} (hc : ST X cm W c t) (ha : SB X cm W P a g) (hb : SB X cm W P b h) : SS X cm W P (.If c a b pos) (sIf t g h) := PS.imp (ps_if hc ha hb) fun D0 σ H q => by
  obtain ⟨Z, ρ, Fs, ok, q⟩ := q
  refine test_go (k := fun b => if b then g else h) ok (by
    have q2 := q
    unfold sIf at q2
    cases e : t ρ with
    | no => rw [e] at q2; exact q2
    | ok b => rw [e] at q2; cases b <;> exact q2
    | ex x => rw [e] at q2; exact q2) fun k H1 Z1 e ex q1 => ?_
  cases k with
  | true => exact ⟨_, ρ, Fs, ok.ext ex, q1⟩
  | false => exact ⟨_, ρ, Fs, ok.ext ex, q1⟩

/-! ### for -/
def forL (tg : D → En → Option En) (body : Mst) : List D → Mst
  | [], ρ => some (.nx, ρ)
  | d :: ds, ρ => match tg d ρ with
    | none => none
    | some ρ1 => match body ρ1 with
      | none => none
      | some (.nx, ρ2) => forL tg body ds ρ2
      | some (.cnt, ρ2) => forL tg body ds ρ2
      | some (.brk, ρ2) => some (.nx, ρ2)
      | some (.ret d, ρ2) => some (.ret d, ρ2)
      | some (.ex x, ρ2) => some (.ex x, ρ2)
def sFor (it : En → Ot Its') (tg : D → En → Option En) (body : Mst) : Mst := fun ρ => match it ρ with
  | .no => none
  | .ok p => if p.2 then forL tg body p.1 ρ else none
  | .ex x => some (.ex x, ρ)
theorem Ok.grow {K : PySem.W.Frag} {H H1 : Hp} {σ : L2.St} {ρ : En} {Fs : List (List Addr)} {Z : Zn} (ok : Ok K cm H σ ρ Fs Z) (g : Grow H H1) : Ok K cm H1 σ ρ Fs Z :=
  ⟨⟨ok.rep.lσ, ok.rep.lF, fun i d q => by
    obtain ⟨v, F, a, b, c⟩ := ok.rep.get i d q
    exact ⟨v, F, a, b, c.grow g (fun _ h => h) (fun _ h => h) fun _ h => h⟩⟩, ⟨fun a h q => ok.dom.f a h (g.back q), fun a h q => ok.dom.b a h (g.back q), fun a h q => ok.dom.t a h (g.back q)⟩, fun a h => g.mut (ok.mu a h), ok.nd, ok.nz, ok.t⟩
theorem ss_for {tg iter : Expr} {body : List Stmt} {it : En → Ot Its'} {g : TG} {S : List Nat} {t : D → En → Option En} {b : Mst} (hp : PassesOwn (model X.prog X.w) X.A X.env X.xe) (hc : X.calm = true) (hi : SI X cm W tg iter it) (hg : PG X tg g) (hgo : OkTg X.K cm S g t)
    (hS : (S.all fun i => !P.contains i) = true) (hb : SB X cm W P body b) (hs : ∀ x, foldedSetIterable iter X.env x = pure x := by intro _; rfl) : SS X cm W P (.For tg iter body [] pos) (sFor it t b) := PS.imp (ps_for hp hc hi hg hb hs) fun D0 σ H q => by
  obtain ⟨Z, ρ, Fs, ok, q⟩ := q
  refine ⟨lendZ Z Fs, ρ, Fs, ok.pure, ?_⟩
  unfold sFor at q
  cases e : it ρ with
  | no => rw [e] at q; exact q.elim
  | ex x =>
    rw [e] at q
    intro cls dd H1 Z1 ex xr
    exact q σ H1 _ Fs (.ext ok ex) (ok.ext ex) cls dd (xr.back fun _ h => h)
  | ok p =>
    rw [e] at q
    have q : FinS X.K cm W P D0 σ H Z Fs (if p.2 then forL t b p.1 ρ else none) := q
    split at q
    · rename_i hp2
      intro J H1 Z1 ex wk
      have ok1 := ok.ext ex
      have q1 := q.step (.ext ok ex)
      have w := wk Fs.flatten (fun _ => False) (.inl hp2) fun a h => ⟨ok1.mu a h, (ok1.nz a h).1, (by have := (ok1.nz a h).2; have eb := ex.b; rw [show (lendZ Z Fs).b = Z.b from rfl] at eb; rw [eb]; exact this), fun h => h⟩
      let Zs : Zn := ⟨Z1.f, Z.b, fun _ => False⟩
      let Pv : Nat → L2.St → Hp → Prop := fun i σ2 H2 => ∃ Z2 ρ2 Fs2, Ok X.K cm H2 σ2 ρ2 Fs2 Z2 ∧ SStep P σ H1 Zs Fs σ2 H2 Z2 Fs2 ∧ FinS X.K cm W P D0 σ2 H2 Z2 Fs2 (forL t b (p.1.drop i) ρ2)
      have h0 : Pv 0 σ H1 := ⟨Zs, ρ, Fs, ok1, .refl, by simpa using q1⟩
      refine ⟨fun i m σ2 H2 => m = p.1.length - i ∧ i ≤ p.1.length ∧ Pv i σ2 H2, ⟨p.1.length, by simp, Nat.zero_le _, h0⟩, ?_⟩
      rintro i m σ2 H2 ⟨rfl, hi2, Z2, ρ2, Fs2, ok2, s2, q2⟩
      have kp : Kept H1 Fs.flatten H2 := s2.keep
      by_cases hlt : i < p.1.length
      · refine .inr ⟨w.go i H2 kp hlt, Pv (i + 1), fun σ' H' p' => ⟨p.1.length - (i + 1), by omega, rfl, hlt, p'⟩, fun x H3 y => ?_⟩
        obtain ⟨d, hd⟩ : ∃ d, p.1[i]? = some d := ⟨_, List.getElem?_eq_getElem hlt⟩
        obtain ⟨gr3, rx⟩ := w.yld i H2 x H3 kp y d hd
        have drop_eq : p.1.drop i = d :: p.1.drop (i + 1) := by
          rw [List.drop_eq_getElem_cons hlt]
          rw [List.getElem?_eq_getElem hlt] at hd
          cases hd; rfl
        rw [drop_eq] at q2
        unfold forL at q2
        cases e2 : t d ρ2 with
        | none => rw [e2] at q2; exact q2.elim
        | some ρ3 =>
          rw [e2] at q2
          have ok3 := ok2.grow gr3
          have rx3 : Rep X.K cm H3 Z2 d x [] := rx.grow (.refl _) (fun a h => s2.f a h) (fun a h => by rw [s2.b]; have eb := ex.b; rw [show (lendZ Z Fs).b = Z.b from rfl] at eb; have h : Z1.b a := h; rw [eb] at h; exact h) fun a h => h.elim
          refine hgo H3 Z2 d x σ2 ρ2 Fs2 ρ3 rx3 ok3.rep e2 _ fun σ3 Fs3 r3 sb _ kpr => ?_
          have ok4 : Ok X.K cm H3 σ3 ρ3 Fs3 Z2 := ⟨r3, ok3.dom, fun a h => ok3.mu a (sb.subset h), ok3.nd.sublist sb, fun a h => ok3.nz a (sb.subset h), ok3.t⟩
          have s3 : SStep P σ2 H2 Z2 Fs2 σ3 H3 Z2 Fs3 := ⟨.grow gr3, fun a h => .inl (sb.subset h), fun _ h => h, fun _ h => .inl h, rfl, fun j hj => kpr j fun hjS => by
            have := List.all_eq_true.mp hS j hjS
            rw [Bool.not_eq_true'] at this
            rw [List.contains_iff_mem.mpr hj] at this
            cases this⟩
          refine ⟨Z2, ρ3, Fs3, ok4, ?_⟩
          have q3 := q2.step s3
          dsimp only at q3
          cases e3 : b ρ3 with
          | none => rw [e3] at q3; exact q3
          | some r =>
            obtain ⟨o, ρ4⟩ := r
            rw [e3] at q3
            intro σ4 H4 Z4 Fs4 s4 ok5
            cases o with
            | nx => exact ⟨Z4, ρ4, Fs4, ok5, s2.trans (s3.trans s4), q3.step s4⟩
            | cnt => exact ⟨Z4, ρ4, Fs4, ok5, s2.trans (s3.trans s4), q3.step s4⟩
            | brk => exact (q3.step s4).at_ .refl ok5
            | ret dd => exact q3 σ4 H4 Z4 Fs4 s4 ok5
            | ex x => exact q3 σ4 H4 Z4 Fs4 s4 ok5
      · have ei : i = p.1.length := by omega
        subst ei
        rw [List.drop_length] at q2
        exact .inl ⟨w.stop _ H2 kp (Nat.le_refl _), q2.at_ .refl ok2⟩
    · exact q.elim

/-! ### while -/
def whileL (t : En → Ot Bool) (body : Mst) : Nat → Mst
  | 0, _ => none
  | n + 1, ρ => match t ρ with
    | .no => none
    | .ex x => some (.ex x, ρ)
    | .ok b => if b then (match body ρ with
      | none => none
      | some (.nx, ρ2) => whileL t body n ρ2
      | some (.cnt, ρ2) => whileL t body n ρ2
      | some (.brk, ρ2) => some (.nx, ρ2)
      | some (.ret d, ρ2) => some (.ret d, ρ2)
      | some (.ex x, ρ2) => some (.ex x, ρ2)) else some (.nx, ρ)
open Classical in
noncomputable def sWhile (t : En → Ot Bool) (body : Mst) : Mst := fun ρ => if h : ∃ n, (whileL t body n ρ).isSome then whileL t body (Classical.choose h) ρ else none
theorem ss_while {c : Expr} {body : List Stmt} {t : En → Ot Bool} {b : Mst} (hp : PassesOwn (model X.prog X.w) X.A X.env X.xe) (hc : ST X cm W c t) (hb : SB X cm W P body b) : SS X cm W P (.While c body [] pos) (sWhile t b) := PS.imp (ps_while hp hc hb) fun D0 σ H q => by
  obtain ⟨Z, ρ, Fs, ok, q⟩ := q
  unfold sWhile at q
  split at q
  · rename_i hex
    generalize Classical.choose hex = n at q
    refine ⟨fun m σ2 H2 => ∃ Z2 ρ2 Fs2, Ok X.K cm H2 σ2 ρ2 Fs2 Z2 ∧ FinS X.K cm W P D0 σ2 H2 Z2 Fs2 (whileL t b m ρ2), ⟨n, Z, ρ, Fs, ok, q⟩, ?_⟩
    rintro m σ2 H2 ⟨Z2, ρ2, Fs2, ok2, q2⟩
    cases m with
    | zero => exact q2.elim
    | succ m =>
      unfold whileL at q2
      refine test_go (k := fun bb ρ2 => if bb then (match b ρ2 with
        | none => none
        | some (.nx, ρ2) => whileL t b m ρ2
        | some (.cnt, ρ2) => whileL t b m ρ2
        | some (.brk, ρ2) => some (.nx, ρ2)
        | some (.ret d, ρ2) => some (.ret d, ρ2)
        | some (.ex x, ρ2) => some (.ex x, ρ2)) else some (.nx, ρ2)) ok2 (by
          cases e : t ρ2 with
          | no => rw [e] at q2; exact q2
          | ok bb => rw [e] at q2; exact q2
          | ex x => rw [e] at q2; exact q2) fun k H3 Z3 e ex q3 => ?_
      have ok3 := ok2.ext ex
      cases k with
      | false => exact q3.at_ .refl ok3
      | true =>
        rw [if_pos rfl]
        rw [if_pos rfl] at q3
        refine ⟨fun σ' H' => ∃ Z2 ρ2 Fs2, Ok X.K cm H' σ' ρ2 Fs2 Z2 ∧ FinS X.K cm W P D0 σ' H' Z2 Fs2 (whileL t b m ρ2), fun σ' H' n => ⟨m, Nat.lt_succ_self _, n⟩, _, ρ2, Fs2, ok3, ?_⟩
        cases e3 : b ρ2 with
        | none => rw [e3] at q3; exact q3
        | some r =>
          obtain ⟨o, ρ4⟩ := r
          rw [e3] at q3
          intro σ4 H4 Z4 Fs4 s4 ok5
          cases o with
          | nx => exact ⟨Z4, ρ4, Fs4, ok5, q3.step s4⟩
          | cnt => exact ⟨Z4, ρ4, Fs4, ok5, q3.step s4⟩
          | brk => exact (q3.step s4).at_ .refl ok5
          | ret dd => exact q3 σ4 H4 Z4 Fs4 s4 ok5
          | ex x => exact q3 σ4 H4 Z4 Fs4 s4 ok5
  · exact q.elim
/-- more turns change nothing -/
theorem whileL_mono {t : En → Ot Bool} {b : Mst} : ∀ {n m : Nat} {ρ : En} {r : Out × En}, whileL t b n ρ = some r → n ≤ m → whileL t b m ρ = some r
  | 0, _, _, _, h, _ => nomatch h
  | n + 1, 0, _, _, _, l => absurd l (by omega)
  | n + 1, m + 1, ρ, r, h, l => by
    have ih := fun ρ2 => whileL_mono (t := t) (b := b) (n := n) (m := m) (ρ := ρ2) (r := r)
    unfold whileL at h ⊢
    cases e : t ρ with
    | no => rw [e] at h; cases h
    | ex x => rw [e] at h; exact h
    | ok bb =>
      rw [e] at h
      cases bb with
      | false => exact h
      | true =>
        simp only [if_true] at h ⊢
        cases e2 : b ρ with
        | none => rw [e2] at h; cases h
        | some q =>
          obtain ⟨o, ρ2⟩ := q
          rw [e2] at h
          cases o with
          | nx => exact ih ρ2 h (by omega)
          | cnt => exact ih ρ2 h (by omega)
          | brk => exact h
          | ret d => exact h
          | ex x => exact h
theorem sWhile_of {t : En → Ot Bool} {b : Mst} {n : Nat} {ρ : En} {r : Out × En} (h : whileL t b n ρ = some r) : sWhile t b ρ = some r := by
  have hex : ∃ n, (whileL t b n ρ).isSome := ⟨n, by rw [h]; rfl⟩
  unfold sWhile
  rw [dif_pos hex]
  have h2 := Classical.choose_spec hex
  obtain ⟨r2, e2⟩ := Option.isSome_iff_exists.mp h2
  rw [e2]
  rcases Nat.le_total n (Classical.choose hex) with l | l
  · rw [← e2, whileL_mono h l]
  · rw [← h, whileL_mono e2 l]
end
end OB

namespace OB
open PySem PySem.Spec PyProof.Rows L2

def initE (n : Nat) (ds : List D) : En := ds.map some ++ List.replicate (n - ds.length) none
def bodyM (n : Nat) (g : Mst) : List D → Ot D := fun ds => match g (initE n ds) with
  | some (.nx, _) => .ok .non
  | some (.ret d, _) => .ok d
  | some (.ex x, _) => .ex x
  | _ => .no
section
variable {P : Program} {w : World} {K : PySem.W.Frag} {mg : Str → Option Value} {base : Heap} {cm : Cm}
theorem init_ok {H : Hp} {f : Addr → Prop} {ds : List D} {vs : List V} {Gs : List (List Addr)} {N : List Str} (hf : ∀ a, f a → H a ≠ none) (e : Gs.flatten = []) (r : RepL K cm H (lentZ H f) ds vs Gs) (hl : vs.length ≤ N.length) :
    Ok K cm H (start N vs) (initE N.length ds) (Gs ++ List.replicate (N.length - ds.length) []) (lentZ H f) := by
  have fl : (Gs ++ List.replicate (N.length - ds.length) ([] : List Addr)).flatten = [] := by
    rw [List.flatten_append, e, List.nil_append]
    induction N.length - ds.length with
    | zero => rfl
    | succ n ih => rw [List.replicate_succ, List.flatten_cons, ih]; rfl
  obtain ⟨l1, l2⟩ := r.len
  refine ⟨⟨?_, ?_, ?_⟩, dom_lent hf, (by rw [fl]; exact fun _ h => (nomatch h)), (by rw [fl]; exact List.nodup_nil), (by rw [fl]; exact fun _ h => (nomatch h)), fun _ h => h⟩
  · simp [L2.start, initE, l1]
  · simp [initE, l1, l2]
  · intro i d q
    unfold L2.start
    unfold initE at q
    by_cases hi : i < ds.length
    · rw [List.getElem?_append_left (by simpa using hi), List.getElem?_map] at q
      cases qd : ds[i]? with
      | none => rw [qd] at q; cases q
      | some d' =>
        rw [qd] at q
        cases q
        obtain ⟨v, F, a, b, c⟩ := r.get qd
        refine ⟨v, F, ?_, ?_, c⟩
        · rw [List.getElem?_append_left (by rw [List.length_map, l1]; exact hi), List.getElem?_map, a]; rfl
        · rw [List.getElem?_append_left (by rw [l2]; exact hi), b]
    · rw [List.getElem?_append_right (by simp; omega), List.getElem?_replicate] at q
      split at q <;> cases q
theorem body_fin {H : Hp} {f : Addr → Prop} {ds : List D} {vs : List V} {Gs : List (List Addr)} {N : List Str} {g : Mst} {Q : VK} {E : XK} (hf : ∀ a, f a → H a ≠ none) (e : Gs.flatten = []) (r : RepL K cm H (lentZ H f) ds vs Gs) (hl : vs.length ≤ N.length)
    (q : FinD K cm (fun cls dd _ H' => E cls dd H') [] H (lentZ H f) Q (bodyM N.length g ds)) : tS K cm (fun cls dd _ H' => E cls dd H') [] g { nx := fun _ H' => Q .non H', rt := Q } (start N vs) H := by
  refine ⟨_, _, _, init_ok hf e r hl, ?_⟩
  have fl : (Gs ++ List.replicate (N.length - ds.length) ([] : List Addr)).flatten = [] := by
    rw [List.flatten_append, e, List.nil_append]
    induction N.length - ds.length with
    | zero => rfl
    | succ n ih => rw [List.replicate_succ, List.flatten_cons, ih]; rfl
  have ext : ∀ {σ' H' Z' Fs'}, SStep [] (start N vs) H (lentZ H f) (Gs ++ List.replicate (N.length - ds.length) []) σ' H' Z' Fs' → Dom H' Z' → Ext H (lentZ H f) H' ⟨Z'.f, (lentZ H f).b, (lentZ H f).t⟩ := fun {σ' H' Z' Fs'} s dm =>
    ⟨fun a o h => s.keep a o h (by rw [fl]; exact fun h => (nomatch h)), s.f, fun a h => (s.fn a h).elim .inl fun h => h.elim (by rw [fl]; exact fun h => (nomatch h)) .inr, dm.f, rfl, rfl⟩
  have ze : ∀ {σ' H' Z' Fs' ρ'}, SStep [] (start N vs) H (lentZ H f) (Gs ++ List.replicate (N.length - ds.length) []) σ' H' Z' Fs' → Ok K cm H' σ' ρ' Fs' Z' → Z' = ⟨Z'.f, (lentZ H f).b, (lentZ H f).t⟩ := fun {σ' H' Z' Fs' ρ'} s ok => by
    have h1 := s.b
    have h2 : Z'.t = fun _ => False := funext fun a => propext ⟨ok.t a, fun h => h.elim⟩
    cases Z'
    simp only at h1 h2
    rw [h1, h2]
    rfl
  unfold bodyM at q
  cases e1 : g (initE N.length ds) with
  | none => rw [e1] at q; exact q.elim
  | some p =>
    obtain ⟨o, ρ1⟩ := p
    rw [e1] at q
    intro σ' H' Z' Fs' s ok
    have xt := ext s ok.dom
    have zz := ze s ok
    cases o with
    | nx => exact q .non H' _ [] ⟨xt, ⟨rfl, rfl⟩, List.nodup_nil, fun _ h => (nomatch h), fun _ h => (nomatch h)⟩
    | brk => exact q.elim
    | cnt => exact q.elim
    | ret d =>
      intro v F r nd nz org
      rw [zz] at r
      exact q v H' _ F ⟨xt, r, (List.nodup_append.mp nd).2.1, fun a h => (org a h).elim (by rw [fl]; exact fun h => (nomatch h)) .inl, fun a h => (nz a h).1⟩
    | ex x =>
      intro cls dd xr
      rw [zz] at xr
      exact q cls dd H' _ xt xr
theorem fn_pure {x qual : Str} {st : Stmt} {f : Addr} {fd : FuncData} {N ps : List Str} {k : Nat} {g : Mst} (F : Fun K x qual st f fd) (S : FnScope N ps (defScope st)) (hl : ps.length ≤ N.length)
    (hb : ∀ (cdv : Value) (A : Around) (outer : List Env) (s : Shared) (H : Hp) (E : XK), Room k (A.deeper (envOfC qual (defScope st) s.heap.objs.size f cdv)) →
      SB (cxOf (L2.CX P w) P w K mg base N qual (defScope st) f cdv A outer s H E) cm (fun cls dd _ H' => E cls dd H') [] (defBody st) g) :
    FnOk P w K mg base (L2.CX P w) (k + 1) f fd ps (spP K cm ps.length (bodyM N.length g)) :=
  F.okX S (fun _ _ _ _ h => spP_len h) fun cdv A outer s H vs Q E hr h => ⟨_, hb cdv A outer s H E hr, by
    have hv := spP_len h
    obtain ⟨f, ds, Gs, hf, _, e, r, q⟩ := h
    exact body_fin hf e r (by rw [hv]; exact hl) q⟩
end
end OB

namespace OB
open PySem PySem.Spec PyProof.Rows L2

def getP : D → List Nat → Option D
  | d, [] => some d
  | .nd _ ds, j :: js => match ds[j]? with
    | some dj => getP dj js
    | none => none
  | _, _ :: _ => none
def putP (d : D) (js : List Nat) (d1 : D) : D := match js with
  | [] => d1
  | j :: js => match d with
    | .nd k ds => match ds[j]? with
      | some dj => .nd k (ds.set j (putP dj js d1))
      | none => d
    | d => d
def Reach (K : PySem.W.Frag) (cm : Cm) (H : Hp) (Z : Zn) : D → V → List Nat → V → Prop
  | _, v, [], v0 => v = v0
  | .nd k ds, v, j :: js, v0 => ∃ a vs vj dj, v = .ref a ∧ Cell K cm H Z a k vs ∧ ds[j]? = some dj ∧ vs[j]? = some vj ∧ Reach K cm H Z dj vj js v0
  | _, _, _ :: _, _ => False
section
variable {K : PySem.W.Frag} {cm : Cm} {H H' : Hp} {Z Z' : Zn}
theorem RepL.focus : ∀ (ds : List D) {vs : List V} {Fs : List (List Addr)} {j : Nat} {dj : D}, RepL K cm H Z ds vs Fs → ds[j]? = some dj → ∃ vj Fj A B, vs[j]? = some vj ∧ Fs.flatten = A ++ Fj ++ B ∧ Rep K cm H Z dj vj Fj ∧
    ∀ (H' : Hp) (Z' : Zn) (d1 : D) (F1 : List Addr), (∀ d v F, Rep K cm H Z d v F → (∀ x ∈ F, x ∈ A ∨ x ∈ B) → Rep K cm H' Z' d v F) → Rep K cm H' Z' d1 vj F1 → ∃ Fs', Fs'.flatten = A ++ F1 ++ B ∧ RepL K cm H' Z' (ds.set j d1) vs Fs'
  | [], _, _, _, _, _, e => by simp at e
  | d :: ds, _, _, 0, dj, h, e => by
    obtain ⟨v, vs', F, Fs', rfl, rfl, h1, h2⟩ := h
    cases e
    refine ⟨v, F, [], Fs'.flatten, rfl, by simp, h1, fun H' Z' d1 F1 m r => ⟨F1 :: Fs', by simp, repL_cons r ?_⟩⟩
    have key : ∀ (ds : List D) (vs : List V) (Gs : List (List Addr)), RepL K cm H Z ds vs Gs → (∀ x ∈ Gs.flatten, x ∈ Fs'.flatten) → RepL K cm H' Z' ds vs Gs := by
      intro ds
      induction ds with
      | nil => exact fun vs Gs h _ => h
      | cons d ds ih =>
        intro vs Gs h sub
        obtain ⟨v, vs', F, Fs', rfl, rfl, h1, h2⟩ := h
        exact repL_cons (m d v F h1 fun x hx => .inr (sub x (by rw [List.flatten_cons]; exact List.mem_append_left _ hx))) (ih _ _ h2 fun x hx => sub x (by rw [List.flatten_cons]; exact List.mem_append_right _ hx))
    exact key ds vs' Fs' h2 fun _ h => h
  | d :: ds, _, _, j + 1, dj, h, e => by
    obtain ⟨v, vs', F, Fs', rfl, rfl, h1, h2⟩ := h
    obtain ⟨vj, Fj, A, B, e1, e2, r, k⟩ := RepL.focus ds (j := j) h2 (by simpa using e)
    refine ⟨vj, Fj, F ++ A, B, by simpa using e1, by rw [List.flatten_cons, e2]; simp, r, fun H' Z' d1 F1 m r1 => ?_⟩
    obtain ⟨Gs, g1, g2⟩ := k H' Z' d1 F1 (fun d v F' h hx => m d v F' h fun x q => (hx x q).elim (fun q => .inl (List.mem_append_right _ q)) .inr) r1
    exact ⟨F :: Gs, by rw [List.flatten_cons, g1]; simp, repL_cons (m d v F h1 fun x hx => .inl (List.mem_append_left _ hx)) g2⟩
theorem Rep.focus : ∀ (js : List Nat) {d : D} {v : V} {F : List Addr} {d0 : D}, Rep K cm H Z d v F → getP d js = some d0 → ∃ v0 F0 A B, F = A ++ F0 ++ B ∧ Rep K cm H Z d0 v0 F0 ∧ Reach K cm H Z d v js v0 ∧
    ∀ (p : Addr) (H' : Hp) (Z' : Zn) (d1 : D) (F1 : List Addr), p ∈ F0 → F.Nodup → CellMove K cm H H' Z Z' id (fun a => a ≠ p) → Rep K cm H' Z' d1 v0 F1 → Rep K cm H' Z' (putP d js d1) v (A ++ F1 ++ B)
  | [], d, v, F, d0, h, e => by
    simp only [getP, Option.some.injEq] at e
    subst e
    exact ⟨v, F, [], [], by simp, h, by unfold Reach; rfl, fun p H' Z' d1 F1 _ _ _ r => by simpa [putP] using r⟩
  | j :: js, .nd k ds, v, F, d0, h, e => by
    obtain ⟨a, vs, Fs, rfl, c, l, rfl⟩ := h
    unfold getP at e
    cases ej : ds[j]? with
    | none => rw [ej] at e; cases e
    | some dj =>
      rw [ej] at e
      obtain ⟨vj, Fj, A, B, e1, e2, r, kk⟩ := RepL.focus ds l ej
      obtain ⟨v0, F0, A2, B2, e3, r0, rc, k2⟩ := Rep.focus js r e
      refine ⟨v0, F0, ownA k a ++ A ++ A2, B2 ++ B, by rw [e2, e3]; simp, r0, ⟨a, vs, vj, dj, rfl, c, ej, e1, rc⟩, fun p H' Z' d1 F1 hp nd mv r1 => ?_⟩
      have nd2 := nd
      rw [e2, e3] at nd2
      have hpA : p ∉ ownA k a := fun q => (List.nodup_append.mp nd2).2.2 p q p (by simp [hp]) rfl
      have nd3 := (List.nodup_append.mp nd2).2.1
      have ndj : Fj.Nodup := by
        rw [← e3] at nd3
        exact (List.nodup_append.mp (List.nodup_append.mp nd3).1).2.1
      have hx : ∀ x, x ∈ A ∨ x ∈ B → x ≠ p := fun x hx q => by
        subst q
        rw [← e3, List.append_assoc] at nd3
        have pj : x ∈ Fj := by rw [e3]; simp [hp]
        rcases hx with hx | hx
        · exact (List.nodup_append.mp nd3).2.2 x hx x (List.mem_append_left _ pj) rfl
        · exact (List.nodup_append.mp (List.nodup_append.mp nd3).2.1).2.2 x pj x hx rfl
      obtain ⟨Gs, g1, g2⟩ := kk H' Z' (putP dj js d1) (A2 ++ F1 ++ B2) (fun d v F h hF => h.stay mv fun x q => hx x (hF x q)) (k2 p H' Z' d1 F1 hp ndj mv r1)
      have cc := mv a k vs c (fun q z => hpA (by unfold ownA; rw [if_pos q, z]; exact List.mem_cons_self))
      rw [Kd.mapF_id] at cc
      refine (show Rep K cm H' Z' (putP (.nd k ds) (j :: js) d1) (.ref a) _ from ?_)
      unfold putP
      dsimp only
      rw [ej]
      exact ⟨a, vs, Gs, rfl, cc, g2, by rw [g1]; simp⟩
  | _ :: _, .non, _, _, _, _, e => by simp [getP] at e
  | _ :: _, .bl _, _, _, _, _, e => by simp [getP] at e
  | _ :: _, .int _, _, _, _, _, e => by simp [getP] at e
  | _ :: _, .str _, _, _, _, _, e => by simp [getP] at e
theorem set_nodup2 : ∀ {Fs : List (List Addr)} {i : Nat} {F F' : List Addr}, Fs.flatten.Nodup → Fs[i]? = some F → F'.Nodup → (∀ x ∈ F', x ∈ F ∨ x ∉ Fs.flatten) → (Fs.set i F').flatten.Nodup
  | [], _, _, _, h, e, _, _ => h
  | G :: Fs, 0, F, F', h, e, hF, hx => by
    cases e
    rw [List.flatten_cons, List.nodup_append] at h
    rw [List.set_cons_zero, List.flatten_cons, List.nodup_append]
    exact ⟨hF, h.2.1, fun a ha b hb e => by
      subst e
      rcases hx a ha with q | q
      · exact h.2.2 a q a hb rfl
      · exact q (by rw [List.flatten_cons]; exact List.mem_append_right _ hb)⟩
  | G :: Fs, i + 1, F, F', h, e, hF, hx => by
    rw [List.flatten_cons, List.nodup_append] at h
    rw [List.set_cons_succ, List.flatten_cons, List.nodup_append]
    have e : Fs[i]? = some F := by simpa using e
    refine ⟨h.1, set_nodup2 h.2.1 e hF fun x q => (hx x q).imp id fun z w => z (by rw [List.flatten_cons]; exact List.mem_append_right _ w), fun a ha b hb ee => ?_⟩
    subst ee
    rcases set_mem hb with q | q
    · exact h.2.2 a ha a q rfl
    · rcases hx a q with z | z
      · exact h.2.2 a ha a (flat_mem e z) rfl
      · exact z (by rw [List.flatten_cons]; exact List.mem_append_left _ ha)
theorem RepE.upd1 {σ : L2.St} {ρ : En} {Fs : List (List Addr)} {i : Nat} {d' : D} {v : V} {F F' : List Addr} {p : Addr} (r : RepE K cm H Z σ ρ Fs) (nd : Fs.flatten.Nodup) (hs : σ[i]? = some (some v)) (hF : Fs[i]? = some F) (hp : p ∈ F)
    (mv : CellMove K cm H H' Z Z' id (fun a => a ≠ p)) (h : Rep K cm H' Z' d' v F') : RepE K cm H' Z' σ (ρ.set i (some d')) (Fs.set i F') := by
  refine ⟨by simpa using r.lσ, by simpa using r.lF, fun j d q => ?_⟩
  by_cases e : i = j
  · subst e
    rw [List.getElem?_set] at q
    split at q
    · split at q
      · cases q
        refine ⟨v, F', hs, ?_, h⟩
        rw [List.getElem?_set_self]
        have := (List.getElem?_eq_some_iff.mp hF).1
        exact this
      · cases q
    · rename_i n
      exact absurd rfl n
  · rw [List.getElem?_set_ne e] at q
    obtain ⟨v2, F2, a, b, c⟩ := r.get j d q
    refine ⟨v2, F2, a, by rw [List.getElem?_set_ne e]; exact b, c.stay mv (fun x z => ?_)⟩
    intro e2
    rw [e2] at z
    -- p is in slot i alone
    have key : ∀ {Fs : List (List Addr)} {i j : Nat} {F F2 : List Addr}, Fs.flatten.Nodup → Fs[i]? = some F → Fs[j]? = some F2 → i ≠ j → p ∈ F → p ∈ F2 → False := by
      intro Fs
      induction Fs with
      | nil => intro i j F F2 _ e; simp at e
      | cons G Fs ih =>
        intro i j F F2 nd e1 e2 ne h1 h2
        rw [List.flatten_cons, List.nodup_append] at nd
        cases i with
        | zero =>
          cases j with
          | zero => exact ne rfl
          | succ j =>
            cases e1
            exact nd.2.2 p h1 p (flat_mem (by simpa using e2) h2) rfl
        | succ i =>
          cases j with
          | zero =>
            cases e2
            exact nd.2.2 p h2 p (flat_mem (by simpa using e1) h1) rfl
          | succ j => exact ih nd.2.1 (by simpa using e1) (by simpa using e2) (fun q => ne (by rw [q])) h1 h2
    exact key nd hF b e hp z
theorem cell_then {H1 H2 : Hp} {Z1 Z2 : Zn} {O : Addr → Prop} (m1 : CellMove K cm H H1 Z Z1 id (fun _ => True)) (m2 : CellMove K cm H1 H2 Z1 Z2 id O) : CellMove K cm H H2 Z Z2 id O := fun a k vs h ho => by
  have c1 := m1 a k vs h fun _ => trivial
  rw [Kd.mapF_id] at c1
  exact m2 a k vs c1 ho
/-- the place js within the i-th local takes other content -/
theorem Ok.mutP {σ : L2.St} {ρ : En} {Fs : List (List Addr)} {i : Nat} {js : List Nat} {d : D} {k : Kd} {es : List D} (ok : Ok K cm H σ ρ Fs Z) (hi : ρ[i]? = some (some d)) (hj : getP d js = some (.nd k es)) (hk : k.isOwn = true) :
    ∃ v a us Es, σ[i]? = some (some v) ∧ Reach K cm H Z d v js (.ref a) ∧ a ∈ Fs.flatten ∧ Cell K cm H Z a k us ∧ RepL K cm H Z es us Es ∧ (∀ x ∈ Es.flatten, x ∈ Fs.flatten) ∧ Es.flatten.Nodup ∧ a ∉ Es.flatten ∧
      ∀ H1 Z1 ds vs Gs, Ext H (lendZ Z Fs) H1 Z1 → OkT K cm H1 σ ρ Fs ⟨Z1.f, Z.b, fun _ => False⟩ ds vs Gs →
      ∀ k' es' us' Es' o', k'.isOwn = true → Cell K cm (L2.upd H1 a o') ⟨Z1.f, Z.b, fun _ => False⟩ a k' us' → Mut (some o') → RepL K cm H1 ⟨Z1.f, Z.b, fun _ => False⟩ es' us' Es' → (∀ x ∈ Es'.flatten, x ∈ Es.flatten ∨ x ∈ Gs.flatten) → Es'.flatten.Nodup →
        ∃ Fs', Ok K cm (L2.upd H1 a o') σ (ρ.set i (some (putP d js (.nd k' es')))) Fs' ⟨Z1.f, Z.b, fun _ => False⟩ ∧ (∀ x ∈ Fs'.flatten, x ∈ Fs.flatten ∨ x ∈ Gs.flatten) := by
  obtain ⟨v, F, hs, hF, r⟩ := ok.rep.get i d hi
  obtain ⟨v0, F0, A, B, eF, r0, rc, kk⟩ := r.focus js hj
  obtain ⟨a, us, Es, rfl, c, l, rfl⟩ := r0
  have hO : ownA k a = [a] := by unfold ownA; rw [if_pos hk]
  rw [hO] at eF kk
  have sub : ∀ x ∈ F, x ∈ Fs.flatten := fun x hx => flat_mem hF hx
  have ndF : F.Nodup := by
    have := ok.nd
    have key : ∀ {Fs : List (List Addr)} {i : Nat}, Fs.flatten.Nodup → Fs[i]? = some F → F.Nodup := by
      intro Fs
      induction Fs with
      | nil => intro i _ e; simp at e
      | cons G Fs ih =>
        intro i nd e
        rw [List.flatten_cons, List.nodup_append] at nd
        cases i with
        | zero => cases e; exact nd.1
        | succ i => exact ih nd.2.1 (by simpa using e)
    exact key this hF
  have ha : a ∈ Fs.flatten := sub a (by rw [eF]; simp)
  have hEs : ∀ x ∈ Es.flatten, x ∈ Fs.flatten := fun x hx => sub x (by rw [eF]; exact List.mem_append_left _ (List.mem_append_right _ (List.mem_append_right _ hx)))
  have ndF2 := ndF
  rw [eF] at ndF2
  have n1 := List.nodup_append.mp ndF2
  have n2 := List.nodup_append.mp n1.1
  have n3 := List.nodup_append.mp n2.2.1
  have ndEs : Es.flatten.Nodup := n3.2.1
  have aE : a ∉ Es.flatten := fun q => n3.2.2 a (List.mem_singleton.mpr rfl) a q rfl
  refine ⟨v, a, us, Es, hs, rc, ha, c, l, hEs, ndEs, aE, fun H1 Z1 ds vs Gs ex o k' es' us' Es' o' hk' c' mu' l' sub' nd' => ?_⟩
  have ndG := List.nodup_append.mp o.nd
  have mu := o.ok.mu a ha
  have nz := o.ok.nz a ha
  have nt := o.ok.t a
  have aG : a ∉ Gs.flatten := fun q => ndG.2.2 a ha a q rfl
  have l2 := l'.upd (p := a) (o := o') mu (fun q => (sub' a q).elim aE aG) nz.1 nz.2 nt
  have mv : CellMove K cm H (L2.upd H1 a o') Z ⟨Z1.f, Z.b, fun _ => False⟩ id (fun x => x ≠ a) :=
    cell_then (Z1 := ⟨Z1.f, Z.b, fun _ => False⟩) (cell_grow ex.gr ex.f (fun _ h => h) fun x h => (ok.t x h).elim) (cell_upd mu nz.1 nz.2 nt)
  have rr := kk a (L2.upd H1 a o') ⟨Z1.f, Z.b, fun _ => False⟩ (.nd k' es') ([a] ++ Es'.flatten) (by simp) ndF mv ⟨a, us', Es', rfl, c', l2, by unfold ownA; rw [if_pos hk']⟩
  have hF' : ∀ x ∈ A ++ ([a] ++ Es'.flatten) ++ B, x ∈ F ∨ x ∈ Gs.flatten := fun x hx => by
    rw [eF]
    simp only [List.mem_append] at hx ⊢
    rcases hx with (hx | hx | hx) | hx
    · exact .inl (.inl (.inl hx))
    · exact .inl (.inl (.inr (.inl hx)))
    · exact (sub' x hx).elim (fun q => .inl (.inl (.inr (.inr q)))) .inr
    · exact .inl (.inr hx)
  have gF : ∀ x ∈ Gs.flatten, x ∉ Fs.flatten := fun x hx q => ndG.2.2 x q x hx rfl
  have nF' : (A ++ ([a] ++ Es'.flatten) ++ B).Nodup := by
    have old : ∀ x, x ∈ Es'.flatten → x ∈ ([a] ++ Es.flatten) ∨ x ∉ Fs.flatten := fun x hx => (sub' x hx).elim (fun q => .inl (List.mem_append_right _ q)) fun q => .inr (gF x q)
    have old2 : ∀ x, x ∈ [a] ++ Es'.flatten → x ∈ ([a] ++ Es.flatten) ∨ x ∉ Fs.flatten := fun x hx => (List.mem_append.mp hx).elim (fun q => .inl (List.mem_append_left _ q)) (old x)
    have inA : ∀ x ∈ A, x ∈ Fs.flatten := fun x hx => sub x (by rw [eF]; exact List.mem_append_left _ (List.mem_append_left _ hx))
    have inB : ∀ x ∈ B, x ∈ Fs.flatten := fun x hx => sub x (by rw [eF]; exact List.mem_append_right _ hx)
    rw [List.nodup_append, List.nodup_append]
    refine ⟨⟨n2.1, List.nodup_append.mpr ⟨n3.1, nd', fun x hx y hy e => ?_⟩, fun x hx y hy e => ?_⟩, n1.2.1, fun x hx y hy e => ?_⟩
    · rw [List.mem_singleton] at hx
      subst hx; subst e
      exact (sub' x hy).elim aE aG
    · subst e
      exact (old2 x hy).elim (fun q => n2.2.2 x hx x q rfl) fun q => q (inA x hx)
    · subst e
      rcases List.mem_append.mp hx with q | q
      · exact n1.2.2 x (List.mem_append_left _ q) x hy rfl
      · exact (old2 x q).elim (fun z => n1.2.2 x (List.mem_append_right _ z) x hy rfl) fun z => z (inB x hy)
  have smem : ∀ x ∈ (Fs.set i (A ++ ([a] ++ Es'.flatten) ++ B)).flatten, x ∈ Fs.flatten ∨ x ∈ Gs.flatten := fun x hx => (set_mem hx).elim .inl fun q => (hF' x q).imp (sub x) id
  have gm : ∀ x ∈ Gs.flatten, Mut (H1 x) := RepL.mut ds o.rep
  refine ⟨Fs.set i (A ++ ([a] ++ Es'.flatten) ++ B), ⟨ok.rep.upd1 ok.nd hs hF (by rw [eF]; simp) mv rr, ?_, fun x hx => ?_, set_nodup2 ok.nd hF nF' fun x hx => (hF' x hx).imp id (gF x), fun x hx => (smem x hx).elim (o.ok.nz x) (o.nz x), o.ok.t⟩, smem⟩
  · refine ⟨fun x hx => ?_, fun x hx => ?_, fun x hx => (o.ok.t x hx).elim⟩
    · by_cases e : x = a
      · subst e; exact absurd hx nz.1
      · rw [upd_ne e]; exact o.ok.dom.f x hx
    · by_cases e : x = a
      · subst e; exact absurd hx nz.2
      · rw [upd_ne e]; exact o.ok.dom.b x hx
  · by_cases e : x = a
    · subst e; rw [upd_same]; exact mu'
    · rw [upd_ne e]; exact (smem x hx).elim (o.ok.mu x) (gm x)
end
end OB

namespace OB
open PySem PySem.Spec PyProof.Rows L2

/-- the place π within the i-th local -/
abbrev Pi' := En → Option (List Nat)
def tPth (K : PySem.W.Frag) (cm : Cm) (i : Nat) (π : Pi') : TE := fun σ H Q => ∃ Z ρ d js v v0, σ[i]? = some (some v) ∧ ρ[i]? = some (some d) ∧ π ρ = some js ∧ Reach K cm H Z d v js v0 ∧ Q v0 H
def pHere : Pi' := fun _ => some []
abbrev SPth (X : Cx) (cm : Cm) (e : Expr) (i : Nat) (π : Pi') : Prop := PE X e (tPth X.K cm i π)
theorem sp_name {X : Cx} {cm : Cm} {x : Str} {p : Pos} {i : Nat} (he : PE X (.Name x p) (tVar i)) : SPth X cm (.Name x p) i pHere := PE.imp he fun σ H Q q => by
  obtain ⟨Z, ρ, d, js, v, v0, h1, h2, h3, h4, q⟩ := q
  cases h3
  have h4 : v = v0 := by
    cases d <;> exact h4
  subst h4
  exact ⟨v, h1, q⟩
def placeOf (i : Nat) (π : Pi') (ρ : En) : Option (D × List Nat × Kd × List D) := match ρ[i]? with
  | some (some d) => match π ρ with
    | some js => match getP d js with
      | some (.nd k es) => if k.isOwn then some (d, js, k, es) else none
      | _ => none
    | none => none
  | _ => none
theorem placeOf_eq {i : Nat} {π : Pi'} {ρ : En} {d : D} {js : List Nat} {k : Kd} {es : List D} (h : placeOf i π ρ = some (d, js, k, es)) : ρ[i]? = some (some d) ∧ π ρ = some js ∧ getP d js = some (.nd k es) ∧ k.isOwn = true := by
  unfold placeOf at h
  split at h
  · split at h
    · split at h
      · split at h
        · cases h; exact ⟨by assumption, by assumption, by assumption, by assumption⟩
        · cases h
      · cases h
    · cases h
  · cases h
def putAt (i : Nat) (ρ : En) (d : D) (js : List Nat) (x : D) : En := ρ.set i (some (putP d js x))

section
variable {K : PySem.W.Frag} {cm : Cm} {H H1 H' : Hp} {Z Z1 Z' : Zn} {σ : L2.St} {ρ : En} {Fs : List (List Addr)} {P : List Nat} {W : WX}
theorem noT_repL : ∀ {ds : List D} {vs : List V} {Gs : List (List Addr)} {t' : Addr → Prop}, RepL K cm H Z ds vs Gs → ds.all noT = true → RepL K cm H ⟨Z.f, Z.b, t'⟩ ds vs Gs
  | [], _, _, _, r, _ => r
  | d :: ds, _, _, t', r, h => by
    obtain ⟨v, vs', F, Fs', rfl, rfl, h1, h2⟩ := r
    rw [List.all_cons, Bool.and_eq_true] at h
    exact repL_cons (noT_rep h1 h.1) (noT_repL h2 h.2)
theorem Ok.many (ok : Ok K cm H σ ρ Fs Z) {ds : List D} {vs : List V} {Gs : List (List Addr)} (r : ResL K cm H (lendZ Z Fs) H1 Z1 [] ds vs Gs) (h : ds.all noT = true) : OkT K cm H1 σ ρ Fs ⟨Z1.f, Z.b, fun _ => False⟩ ds vs Gs := by
  have hb : Z1.b = Z.b := r.ext.b
  have fr : ∀ a ∈ Gs.flatten, H a = none := fun a h => (r.fr a h).elim id fun q => nomatch q
  refine ⟨ok.ext r.ext, ?_, ?_, fun a ha => ?_⟩
  · have := noT_repL (t' := fun _ => False) r.rep h
    rwa [hb] at this
  · rw [List.nodup_append]
    exact ⟨ok.nd, r.nd, fun a ha b hb e => by subst e; exact mut_ne (ok.mu a ha) (fr a hb)⟩
  · exact ⟨r.nf a ha, fun q => ok.dom.b a q (fr a ha)⟩
/-- values ahead of a statement's own work -/
def sOnL (f : En → Ot (List D)) (k : List D → Mst) : Mst := fun ρ => match f ρ with
  | .no => none
  | .ok ds => k ds ρ
  | .ex x => some (.ex x, ρ)
theorem on_goF {f : En → Ot (List D)} {k : List D → Mst} {D0 : Ends} {Q : List V → Hp → Prop} (ok : Ok K cm H σ ρ Fs Z) (q : FinS K cm W P D0 σ H Z Fs (sOnL f k ρ))
    (hk : ∀ ds vs H1 Z1 Gs, f ρ = .ok ds → ResL K cm H (lendZ Z Fs) H1 Z1 [] ds vs Gs → FinS K cm W P D0 σ H Z Fs (k ds ρ) → Q vs H1) : FinL K cm W σ H (lendZ Z Fs) Q (f ρ) := by
  unfold sOnL at q
  cases e : f ρ with
  | no => rw [e] at q; exact q.elim
  | ok d =>
    rw [e] at q
    exact fun vs H1 Z1 Gs r => hk d vs H1 Z1 Gs e r q
  | ex x =>
    rw [e] at q
    intro cls dd H1 Z1 ex xr
    exact q σ H1 _ Fs (.ext ok ex) (ok.ext ex) cls dd (xr.back fun _ h => h)
theorem on_goL {f : En → Ot (List D)} {k : List D → Mst} {D0 : Ends} {Q : List V → Hp → Prop} (ok : Ok K cm H σ ρ Fs Z) (q : FinS K cm W P D0 σ H Z Fs (sOnL f k ρ))
    (hk : ∀ ds vs H1 Z1 Gs, f ρ = .ok ds → ResL K cm H (lendZ Z Fs) H1 Z1 [] ds vs Gs → FinS K cm W P D0 σ H Z Fs (k ds ρ) → Q vs H1) : tPL K cm W f σ H Q := ⟨lendZ Z Fs, ρ, Fs, ok.pure, on_goF ok q hk⟩
/-- a change of a place as a step -/
theorem SStep.put {a : Addr} {o' : HO} {Fs' Gs : List (List Addr)} (ex : Ext H (lendZ Z Fs) H1 Z1) (ha : a ∈ Fs.flatten) (sub : ∀ x ∈ Fs'.flatten, x ∈ Fs.flatten ∨ x ∈ Gs.flatten) (fr : ∀ x ∈ Gs.flatten, H x = none) :
    SStep P σ H Z Fs σ (L2.upd H1 a o') ⟨Z1.f, Z.b, fun _ => False⟩ Fs' :=
  ⟨fun x o h n => by rw [upd_ne (fun e => n (by rw [e]; exact ha))]; exact ex.gr x o h, fun x h => (sub x h).imp id (fr x), ex.f, fun x h => (ex.fn x h).elim .inl fun q => .inr (.inr q), rfl, fun _ _ => rfl⟩
end

/-! ### methods of lists that change them -/
/-- what a method makes of a list -/
def MutR (K : PySem.W.Frag) (cm : Cm) (r : V → List V → Hp → VK → Prop) (m : List D → List D → Option (List D)) : Prop := ∀ (H : Hp) (Z : Zn) (l : Addr) (us : List V) (es : List D) (Es : List (List Addr)) (ds : List D) (vs : List V) (Gs : List (List Addr)) (es' : List D),
  H l = some (.lst us) → RepL K cm H Z es us Es → RepL K cm H Z ds vs Gs → (∀ x ∈ Gs.flatten, x ≠ l) → m es ds = some es' → ∃ us' Es', RepL K cm H Z es' us' Es' ∧ (∀ x ∈ Es'.flatten, x ∈ Es.flatten ∨ x ∈ Gs.flatten) ∧ ((Es.flatten ++ Gs.flatten).Nodup → Es'.flatten.Nodup) ∧
    ∀ Q : VK, (∀ y, Q y (L2.upd H l (.lst us'))) → r (.ref l) vs H Q
def mApp (es ds : List D) : Option (List D) := match ds with
  | [d] => if es.length < sizeLine then some (es ++ [d]) else none
  | _ => none
theorem mut_append {K : PySem.W.Frag} {cm : Cm} : MutR K cm rAppend mApp := fun H Z l us es Es ds vs Gs es' hl re rd _ h => by
  unfold mApp at h
  split at h
  · split at h
    · rename_i d hs
      cases h
      obtain ⟨v, F, rfl, rfl, hd⟩ := repL1 rd
      refine ⟨us ++ [v], Es ++ [F], re.app (repL_cons hd repL_nil), fun x hx => ?_, fun nd => by simpa using nd, fun Q q => ⟨l, us, v, rfl, rfl, hl, by rw [re.len.1]; exact hs, q _⟩⟩
      rw [List.flatten_append] at hx
      exact List.mem_append.mp hx
    · cases h
  · cases h
def sMut (i : Nat) (π : Pi') (m : List D → List D → Option (List D)) (f : En → Ot (List D)) : Mst := fun ρ => match placeOf i π ρ with
  | some (d, js, .lst .own, es) => sOnL f (fun ds ρ => if ds.all noT then (match m es ds with
      | some es' => some (.nx, putAt i ρ d js (.lst .own es'))
      | none => none) else none) ρ
  | _ => none
section
variable {X : Cx} {cm : Cm} {W : WX} {P : List Nat} {o e : Expr} {es : List Expr} {fs : List (En → Ot D)} {name : Str} {apos cpos pos : Pos} {id : String} {r : V → List V → Hp → VK → Prop} {m : List D → List D → Option (List D)} {i : Nat} {π : Pi'}
theorem mut_end {K : PySem.W.Frag} {t : TA} {f : En → Ot (List D)} (ht : ∀ σ H Q, tPL K cm W f σ H Q → t σ H Q) (hm : MutR K cm r m) {D0 : Ends} {σ : L2.St} {H : Hp} (q : tS K cm W P (sMut i π m f) D0 σ H) :
    tPth K cm i π σ H fun x H1 => tyV K "list" x H1 ∧ t σ H1 fun xs H2 => r x xs H2 fun _ H3 => D0.nx σ H3 := by
  obtain ⟨Z, ρ, Fs, ok, q⟩ := q
  unfold sMut at q
  split at q
  · rename_i d js es hp
    obtain ⟨h1, h2, h3, h4⟩ := placeOf_eq hp
    obtain ⟨v, a, us, Es, hs, rc, ha, c, l, hEs, ndE, aE, kk⟩ := ok.mutP h1 h3 h4
    refine ⟨Z, ρ, d, js, v, _, hs, h1, h2, rc, .inl ⟨rfl, us, .inl c.2.1⟩, ht _ _ _ (on_goL ok q fun ds vs H1 Z1 Gs e r1 q1 => ?_)⟩
    split at q1
    · rename_i hc
      split at q1
      · rename_i es' hm'
        have o := ok.many r1 hc
        have l1 : RepL K cm H1 ⟨Z1.f, Z.b, fun _ => False⟩ es us Es := l.grow r1.ext.gr r1.ext.f (fun _ h => h) fun x h => (ok.t x h).elim
        have fr : ∀ a ∈ Gs.flatten, H a = none := fun a h => (r1.fr a h).elim id fun q => nomatch q
        obtain ⟨us', Es', l2, sub, nd, fin⟩ := hm H1 ⟨Z1.f, Z.b, fun _ => False⟩ a us es Es ds vs Gs es' (r1.ext.gr _ _ (c.1 (by decide))) l1 o.rep (fun x hx e => mut_ne (ok.mu a ha) (e ▸ fr x hx)) hm'
        have nd2 := List.nodup_append.mp o.nd
        have ndEG : (Es.flatten ++ Gs.flatten).Nodup := List.nodup_append.mpr ⟨ndE, nd2.2.1, fun x hx y hy e => nd2.2.2 x (hEs x hx) y hy e⟩
        refine fin _ fun y => ?_
        obtain ⟨Fs', ok', sub'⟩ := kk H1 Z1 ds vs Gs r1.ext o (.lst .own) es' us' Es' (.lst us') rfl ⟨fun _ => upd_same, .inl upd_same, trivial⟩ trivial l2 sub (nd ndEG)
        exact q1 σ _ _ Fs' (.put r1.ext ha sub' fr) ok'
      · exact q1.elim
    · exact q1.elim
  · exact q.elim
theorem ss_mut (slot : Slot "list" name id) (hty : typeOf (.builtin id) = pure (.type "method_descriptor")) (hr : MtR X id r) (hm : MutR X.K cm r m) (ho : SPth X cm o i π) (ha : SA X cm W (e :: es) (eL fs))
    (hsw : swapsWith (.Call (.Attribute o name apos) (e :: es) [] cpos) none pos.line X.env = pure false := by rfl)
    (hbase : attributeBase o name X.env (eval o X.env) = eval o X.env := by rfl)
    (hfew : ((backTo cpos (starEach (e :: es) X.env)).all (fun x => !x.1) && (backToKw cpos (keywordEach [] X.env)).all (fun x => x.1.isSome)
      && decide ((e :: es).length + ([] : List Keyword).length + (if ([] : List Keyword).isEmpty then 0 else 1) < 30)) = true := by rfl)
    (hline : (apos.endLine == cpos.line) = true := by rfl) (hs : starEach (e :: es) X.env = (false, eval e X.env) :: starEach es X.env := by rfl) (hplain : (backTo cpos (starEach es X.env)).any (·.1) = false := by rfl) :
    SS X cm W P (.Expr (.Call (.Attribute o name apos) (e :: es) [] cpos) pos) (sMut i π m (eL fs)) :=
  PS.imp (ps_expr (pe_bm PySem.F.plainAttrs_list slot hty hr ho ha hbase hfew hline hs hplain) hsw) fun D0 σ H q => mut_end (fun _ _ _ h => h) hm q
end

/-! ### o[i] = v -/
def putD (k : Kd) (es : List D) (key x : D) : Option (Kd × List D) := match k with
  | .lst .own => match key with
    | .int z => match ixN es.length z with
      | some j => some (.lst .own, es.set j x)
      | none => none
    | _ => none
  | _ => none
section
variable {K : PySem.W.Frag} {cm : Cm} {H H1 H' : Hp} {Z Z1 Z' : Zn} {σ : L2.St} {ρ : En} {Fs : List (List Addr)} {P : List Nat} {W : WX}
theorem Reach.move {O : Addr → Prop} (m : CellMove K cm H H' Z Z' id (fun _ => True)) : ∀ (js : List Nat) {d : D} {v v0 : V}, Reach K cm H Z d v js v0 → Reach K cm H' Z' d v js v0
  | [], d, v, v0, h => by cases d <;> exact h
  | j :: js, d, v, v0, h => by
    cases d with
    | nd k ds =>
      obtain ⟨a, vs, vj, dj, rfl, c, e1, e2, r⟩ := h
      have cc := m a k vs c fun _ => trivial
      rw [Kd.mapF_id] at cc
      exact ⟨a, vs, vj, dj, rfl, cc, e1, e2, Reach.move (O := O) m js r⟩
    | _ => exact h.elim
/-- two values, a place between -/
theorem two_mid {f g : En → Ot D} {i : Nat} {π : Pi'} {Q : List V → Hp → Prop} {R : V → V → V → Hp → Prop} {v0 : V} (ok : OkP K cm H σ ρ Fs Z) (h : FinL K cm W σ H Z Q (eL [f, g] ρ)) (mid : ∀ H1 Z1, Ext H Z H1 Z1 → ∀ Q' : VK, Q' v0 H1 → tPth K cm i π σ H1 Q') (hQ : ∀ x y H', Q [x, y] H' → R v0 x y H') :
    tP K cm W f σ H (fun x H1 => tPth K cm i π σ H1 fun o H2 => tP K cm W g σ H2 (fun y H3 => R o x y H3)) := by
  simp only [eL] at h
  refine tP_bind ok (fun q => ?_) (fun d q v H1 Z1 F r => ?_) (fun x q => ?_)
  · rw [q] at h; exact h
  · rw [q, Ot.bind_ok] at h
    refine mid H1 Z1 r.ext _ (tP_bind (ok.ext r.ext) (fun q2 => ?_) (fun d2 q2 v2 H2 Z2 F2 r2 => ?_) (fun x q2 => ?_))
    · rw [q2] at h; exact h
    · rw [q2] at h
      exact hQ _ _ _ (h [v, v2] H2 Z2 _ (ResL.cons r (ResL.cons r2 (.nil ((ok.ext r.ext).dom.ext r2.ext)))))
    · rw [q2] at h; exact fun cls dd H' Z' ex xr => h cls dd H' Z' (r.ext.trans ex) xr
  · rw [q] at h; exact h
def sPut (i : Nat) (π : Pi') (fv fi : En → Ot D) : Mst := fun ρ => match placeOf i π ρ with
  | some (d, js, k, es) => sOnL (eL [fv, fi]) (fun ds ρ => match ds with
    | [x, y] => if noT x && isAt y then (match putD k es y x with
      | some (k', es') => some (.nx, putAt i ρ d js (.nd k' es'))
      | none => none) else none
    | _ => none) ρ
  | none => none
/-- what o[i] = v makes -/
theorem put_ok {a : Addr} {k k' : Kd} {us : List V} {es es' : List D} {Es : List (List Addr)} {key x : D} {ky v : V} {F G : List Addr} (c : Cell K cm H Z a k us) (l : RepL K cm H Z es us Es) (rk : Rep K cm H Z key ky G) (rx : Rep K cm H Z x v F) (h : putD k es key x = some (k', es')) :
    ∃ us' Es' o', k'.isOwn = true ∧ Cell K cm (L2.upd H a o') Z a k' us' ∧ Mut (some o') ∧ RepL K cm H Z es' us' Es' ∧ (∀ y ∈ Es'.flatten, y ∈ Es.flatten ∨ y ∈ F) ∧ ((Es.flatten ++ F).Nodup → Es'.flatten.Nodup) ∧ ∀ Q : Hp → Prop, Q (L2.upd H a o') → rSetL (.ref a) ky v H Q := by
  unfold putD at h
  split at h
  · split at h
    · split at h
      · rename_i _ z _ j hj
        cases h
        have e : ky = .int z := rk.1
        subst e
        have hl := l.len.1
        refine ⟨us.set j v, Es.set j F, .lst (us.set j v), rfl, ⟨fun _ => upd_same, .inl upd_same, trivial⟩, trivial, l.set j rx, fun y hy => set_mem hy, fun nd => ?_, fun Q q => ⟨a, us, z, j, rfl, rfl, c.1 (by decide), by rw [hl]; exact hj, q⟩⟩
        rw [List.nodup_append] at nd
        exact set_nodup nd.1 nd.2.1 fun y hy hf => nd.2.2 y hy y hf rfl
      · cases h
    · cases h
  · cases h
theorem put_end {fv fi : En → Ot D} {i : Nat} {π : Pi'} {D0 : Ends} (q : tS K cm W P (sPut i π fv fi) D0 σ H) :
    tP K cm W fv σ H fun x H1 => tPth K cm i π σ H1 fun o H2 => tP K cm W fi σ H2 fun y H3 => rSetL o y x H3 fun H4 => D0.nx σ H4 := by
  obtain ⟨Z, ρ, Fs, ok, q⟩ := q
  unfold sPut at q
  split at q
  · rename_i d js k es hp
    obtain ⟨h1, h2, h3, h4⟩ := placeOf_eq hp
    obtain ⟨v, a, us, Es, hs, rc, ha, c, l, hEs, ndE, aE, kk⟩ := ok.mutP h1 h3 h4
    have key := on_goF (K := K) (cm := cm) (W := W) (P := P) (D0 := D0) (Q := fun vs H3 => ∃ x y, vs = [x, y] ∧ rSetL (.ref a) y x H3 fun H4 => D0.nx σ H4) ok q (fun ds vs H1 Z1 Gs e r1 q1 => by
      split at q1
      · rename_i x y
        split at q1
        · rename_i hc
          rw [Bool.and_eq_true] at hc
          split at q1
          · rename_i k' es' hm'
            obtain ⟨vx, vy, Gx, Gy, rfl, rfl, rx, ry⟩ := repL2 r1.rep
            have gy : Gy = [] := by
              cases y with
              | nd k ds => cases hc.2
              | _ => exact ry.2
            subst gy
            have o := ok.many (ds := [x, y]) r1 (by
              rw [List.all_cons, hc.1, List.all_cons, Bool.true_and]
              cases y with
              | nd k ds => cases hc.2
              | _ => rfl)
            obtain ⟨vx', vy', Gx', Gy', e1, e2, rx', ry'⟩ := repL2 o.rep
            cases e1
            cases e2
            have mv : CellMove K cm H H1 Z ⟨Z1.f, Z.b, fun _ => False⟩ id (fun _ => True) := cell_grow r1.ext.gr r1.ext.f (fun _ h => h) fun x h => (ok.t x h).elim
            have l1 : RepL K cm H1 ⟨Z1.f, Z.b, fun _ => False⟩ es us Es := l.stay mv fun _ _ => trivial
            have c1 := mv a k us c fun _ => trivial
            rw [Kd.mapF_id] at c1
            have fr : ∀ a ∈ ([Gx, []] : List (List Addr)).flatten, H a = none := fun a h => (r1.fr a h).elim id fun q => nomatch q
            obtain ⟨us', Es', o', g1, g2, g3, g4, g5, g6, fin⟩ := put_ok c1 l1 ry' rx' hm'
            have nd2 := List.nodup_append.mp o.nd
            have fl : ([Gx, []] : List (List Addr)).flatten = Gx := by simp
            have ndEG : (Es.flatten ++ Gx).Nodup := List.nodup_append.mpr ⟨ndE, by rw [← fl]; exact nd2.2.1, fun x hx y hy e => nd2.2.2 x (hEs x hx) y (by rw [fl]; exact hy) e⟩
            obtain ⟨Fs', ok', sub'⟩ := kk H1 Z1 _ _ _ r1.ext o k' es' us' Es' o' g1 g2 g3 g4 (by rw [fl]; exact g5) (g6 ndEG)
            exact ⟨vx, vy, rfl, fin _ (q1 σ _ _ Fs' (.put r1.ext ha sub' fr) ok')⟩
          · exact q1.elim
        · exact q1.elim
      · exact q1.elim)
    refine (two_mid (i := i) (π := π) (v0 := .ref a) ok.pure key (fun H1 Z1 ex Q' q' => ⟨Z1, ρ, d, js, v, _, hs, h1, h2, ?_, q'⟩) (R := fun o x y H3 => rSetL o y x H3 fun H4 => D0.nx σ H4) fun x y H' ⟨x', y', e, q⟩ => by cases e; exact q)
    exact rc.move (O := fun _ => True) (cell_grow (Z := Z) ex.gr (fun x h => ex.f x h) (fun x h => by rw [ex.b]; exact h) fun x h => (ok.t x h).elim) js
  · exact q.elim
end
section
variable {X : Cx} {cm : Cm} {W : WX} {P : List Nat} {o ix value : Expr} {pos' pos : Pos} {i : Nat} {π : Pi'} {fv fi : En → Ot D}
theorem ss_put (ho : SPth X cm o i π) (hv : SE X cm W value fv) (hi : SE X cm W ix fi)
    (ha : ∀ v, assign (.Subscript o ix pos') X.env v = (do
      let ov ← holding [v] (eval o X.env)
      let iv ← holding [v, ov] (eval ix X.env)
      standAt pos'
      holding [v, ov, iv] (setItem ov iv v)
      release [v, ov, iv] []) := by intro _; rfl)
    (hs : swapsWithSole [.Subscript o ix pos'] value pos.line X.env = pure false := by rfl) (hw : swappedStores [.Subscript o ix pos'] value X.env = pure none := by rfl)
    (h1 : (assignEach [.Subscript o ix pos'] X.env).map (·.2) = [assign (.Subscript o ix pos') X.env] := by rfl) : SS X cm W P (.Assign [.Subscript o ix pos'] value pos) (sPut i π fv fi) :=
  PS.imp (ps_asg hv (pg_sub ho hi (set_list) ha) hs hw h1) fun D0 σ H q => put_end q
end
end OB

namespace OB
open PySem PySem.Spec PyProof.Rows L2

section
variable {prog : Program} {w : World} {A : Around} {E : Value → Shared → Prop} {s : Shared}
theorem call_join_rev {x : Str} {t : Tok} {zs : List V} {ys : List Str} {it l : Addr} {its : List Value} {Q : Value → Shared → Prop} (hh : A.handled = none) (hit : s.heap.IsRevIter it l ((its.toArray.size : Int) - 1)) (hl : s.heap.IsList l its.toArray) (hne : l ≠ it)
    (hn : its.toArray.size ≤ sizeLine) (hv : Vals zs its) (hys : zs.reverse = ys.map V.str) (hok : (ys.map (·.length)).sum + ys.length * x.length ≤ 16777216)
    (hq : ∀ (h' : Heap) (t' : Tok) (tk : Nat), (∀ b o, b ≠ it → s.heap.get? b = some o → h'.get? b = some o) → Q (.str (Txt.join x ys) t') { s with heap := h', toks := tk }) :
    wpAny (model prog w) A (call (.builtin "str.join") [.str x t, .ref it]) Q E s := by
  have hT : s.TypeIs (.ref it) "list_reverseiterator" := hit.typeIs
  refine wpAny_call (codeAny_call_builtin F.slot_str_join.plain F.entry_str_join (F.slot_str_join.check _ _ _ _ _ _ _ _ (typeIs_str _ _ _) (F.args_str_join_2 _ _) ?_))
  rw [PySem.join_tree_other]
  refine wpAny_bind (wpAny_typeOf hT ?_)
  show wpAny _ A.in1 ((pyIter (.ref it)).tryCatch _ >>= fun it => collect it >>= fun items => joinTail x items) _ _ s
  refine wpAny_bind (wpAny_tryCatch (wpAny_pyIter_revIter hit ?_))
  refine wpAny_bind (RT.collect_rev (A := A.in1) hh hit hl hne hn fun h' tk acc hk hacc => ?_)
  have hs : StrsAre acc.toList ys := strs_of_vals (by rw [← hys]; exact RT.vals_rev hv hacc)
  obtain ⟨l, hl, ht⟩ := strsAre_values hs
  subst ht
  rw [hl]
  have hok' := joinOk_of hok
  unfold JoinOk at hok'
  rw [Bool.not_eq_true'] at hok'
  have g : Gives (joinTail x (strValues l)) (joinMade x l) := by
    have g0 := gives_joinTail x l hok'
    cases l with
    | nil => exact g0
    | cons p r => cases r with
      | nil => exact g0
      | cons q r' => exact g0
  exact g prog w A (wants Q E) _ (post_join l ⟨joinFit_length hok', fun t' k => hq h' t' k hk⟩)
end
def tJoinRev (K : PySem.W.Frag) (to te : TE) : TE := fun σ H Q => to σ H fun x H1 => (∃ a, x = .str a) ∧ te σ H1 fun v H2 => ∃ (a : Str) (p : Addr) (ys : List Str), x = .str a ∧ v = .ref p ∧ SqL K H2 p (ys.map V.str).reverse ∧
  (ys.map (·.length)).sum + ys.length * a.length ≤ 16777216 ∧ Q (.str (Txt.join a ys)) H2
section
variable {X : Cx}
theorem pe_joinRev {o e : Expr} {to te : TE} {p apos pos pos2 : Pos} (hc : X.calm = true) (ho : PE X o to) (hg2 : Gl X "reversed") (hm2 : X.mg "reversed" = none) (he : PE X e te)
    (hs : starEach [e] X.env = (false, eval e X.env) :: starEach [] X.env := by rfl)
    (hs1 : starEach [.Call (.Name "reversed" p) [e] [] pos2] X.env = [(false, eval (.Call (.Name "reversed" p) [e] [] pos2) X.env)] := by rfl)
    (hbase : attributeBase o "join" X.env (eval o X.env) = eval o X.env := by rfl) (hline : (apos.endLine == pos.line) = true := by rfl) :
    PE X (.Call (.Attribute o "join" apos) [.Call (.Name "reversed" p) [e] [] pos2] [] pos) (tJoinRev X.K to te) := by
  refine ⟨fun pins s σ H Q I h => ?_⟩
  refine PySem.Call_method1 hbase hs1 hline (thn (ho.run pins s σ H _ I h) fun v s1 ⟨x, H1, I1, r1, q1⟩ => ?_)
  obtain ⟨⟨a, rfl⟩, q1⟩ := q1
  obtain ⟨t, rfl⟩ := _root_.id r1
  refine ⟨"str", _, F.plainAttrs_str, F.slot_str_join, F.type_str_join, typeIs_str _ _ _, (fun _ e => nomatch e), Calls.callWith_builtin rfl (Calls.evalArgs_plain (Calls.spliced_cons ?_))⟩
  refine Call_ (ld_blt I1 hg2 hm2 PyProof.Rows.boot_reversed (PyProof.Rows.callWith_type1 (args_cons (thn (he.run pins s1 σ H1 _ I1 q1) fun u s2 ⟨v, H2, I2, r2, q2⟩ => args_nil ?_) hs) hs rfl))
  obtain ⟨a', q, ys, ea, ev, hq, hz, q2⟩ := q2
  cases ea
  subst ev
  obtain rfl : u = Value.ref q := r2
  obtain ⟨its, rv, pl, hsz⟩ := I2.list hq
  refine call_reversed_list pl.isList (Calls.spliced_nil ?_)
  have k0 : ∀ b o, s2.heap.get? b = some o → (s2.heap.push (revObj q ((its.toArray.size : Int) - 1))).get? b = some o := fun b o e => Heap.get?_push_of_some _ e
  have I3 : Inv X pins σ H2 { s2 with heap := s2.heap.push (revObj q ((its.toArray.size : Int) - 1)) } := I2.kept (t' := s2.toks) k0
  obtain ⟨f0, f1, f2, f3, f4, f5⟩ := I2.fpOk (H' := H2) (b := s2.heap.objs.size) (Nat.le_refl _) (I2.hok.fresh (Nat.le_refl _))
  have hl := pl.isList
  obtain ⟨ol, hol, _⟩ := id hl
  have hne : q ≠ s2.heap.objs.size := Nat.ne_of_lt (Heap.lt_size hol)
  have hn : its.toArray.size ≤ sizeLine := by rw [List.size_toArray, ← rv.length]; exact hsz
  refine call_join_rev (s := { s2 with heap := s2.heap.push (revObj q ((its.toArray.size : Int) - 1)) }) (I2.ok.hd hc) ⟨_, Heap.get?_push_size _ rfl, rfl, rfl⟩ (hl.push _) hne hn rv (by rw [List.reverse_reverse]) hz fun h' t' tk hk => ?_
  exact ⟨.str _, H2, I3.turned (t' := tk) (fun b o hb e => hk b o hb e) f0 f1 f3 f4 f5, ⟨t', rfl⟩, q2⟩
end
theorem tP_mono {K : PySem.W.Frag} {cm : Cm} {W : WX} {f : En → Ot D} {σ : L2.St} {H : Hp} {Q Q' : VK} (q : tP K cm W f σ H Q) (h : ∀ v H', Q v H' → Q' v H') : tP K cm W f σ H Q' := by
  obtain ⟨Z, ρ, Fs, ok, q⟩ := q
  refine ⟨Z, ρ, Fs, ok, ?_⟩
  cases e : f ρ with
  | no => rw [e] at q; exact q
  | ok d => rw [e] at q; exact fun v H' Z' F r => h _ _ (q v H' Z' F r)
  | ex x => rw [e] at q; exact q
def pJoinRev : List D → Option D
  | [.str a, .nd (.lst _) ds] => match strsD ds with
    | some ys => if (ys.map (·.length)).sum + ys.length * a.length ≤ 16777216 then some (.str (Txt.join a ys.reverse)) else none
    | none => none
  | _ => none
def rJoinRev (K : PySem.W.Frag) : V → List V → Hp → VK → Prop := fun x xs H Q => ∃ (a : Str) (p : Addr) (ys : List Str), x = .str a ∧ xs = [.ref p] ∧ SqL K H p (ys.map V.str).reverse ∧ (ys.map (·.length)).sum + ys.length * a.length ≤ 16777216 ∧ Q (.str (Txt.join a ys)) H
theorem ok_joinRev {K : PySem.W.Frag} {cm : Cm} : OkPr K cm (rM (rJoinRev K)) pJoinRev := by
  intro H Z ds vs Fs d dm rp nd nf e Q q
  unfold pJoinRev at e
  split at e
  · rename_i a f ds'
    split at e
    · rename_i ys hy
      split at e
      · rename_i hz
        cases e
        obtain ⟨v, u, F, G, rfl, rfl, ⟨rfl, rfl⟩, r⟩ := repL2 rp
        obtain ⟨p, vs', Fs', rfl, c, l, rfl⟩ := r
        have e2 := strsD_eq hy
        subst e2
        have e3 := repL_strS l
        subst e3
        refine ⟨_, _, rfl, a, p, ys.reverse, rfl, rfl, .inl ?_, ?_, q _ H Z [] (.atom (.refl dm) rep_str)⟩
        · rw [List.map_reverse, List.reverse_reverse]; exact c.2.1
        · rw [List.map_reverse, List.sum_reverse, List.length_reverse]; exact hz
      · cases e
    · cases e
  · cases e
def pSIdx : List D → Option D
  | [.str a, .str b] => match Builtin.Str.occurrences a b 0 a.length 1 with
    | i :: _ => some (.int (i : Nat))
    | [] => none
  | _ => none
theorem ok_sindex {K : PySem.W.Frag} {cm : Cm} : OkPr K cm (rM (fun x xs H Q => ∃ a b i rest, x = .str a ∧ xs = [.str b] ∧ Builtin.Str.occurrences a b 0 a.length 1 = i :: rest ∧ Q (.int (i : Nat)) H)) pSIdx := by
  intro H Z ds vs Fs d dm rp nd nf e Q q
  unfold pSIdx at e
  split at e
  · split at e
    · rename_i i rest hy
      cases e
      obtain ⟨v, u, F, G, rfl, rfl, ⟨rfl, rfl⟩, ⟨rfl, rfl⟩⟩ := repL2 rp
      exact ⟨_, _, rfl, _, _, i, rest, rfl, rfl, hy, q _ H Z [] (.atom (.refl dm) rep_int)⟩
    · cases e
  · cases e
section
variable {X : Cx} {cm : Cm} {W : WX} {P : List Nat} {o e tg : Expr} {f g : En → Ot D} {p apos pos pos2 : Pos}
theorem s_joinRev (hc : X.calm = true) (ho : SE X cm W o f) (hg2 : Gl X "reversed") (hm2 : X.mg "reversed" = none) (he : SE X cm W e g)
    (hs : starEach [e] X.env = (false, eval e X.env) :: starEach [] X.env := by rfl)
    (hs1 : starEach [.Call (.Name "reversed" p) [e] [] pos2] X.env = [(false, eval (.Call (.Name "reversed" p) [e] [] pos2) X.env)] := by rfl)
    (hbase : attributeBase o "join" X.env (eval o X.env) = eval o X.env := by rfl) (hline : (apos.endLine == pos.line) = true := by rfl) :
    SE X cm W (.Call (.Attribute o "join" apos) [.Call (.Name "reversed" p) [e] [] pos2] [] pos) (eM "str" pJoinRev f [g]) :=
  PE.imp (pe_joinRev hc ho hg2 hm2 he hs hs1 hbase hline) fun σ H Q q => tP_mono (m_end ok_joinRev q) fun x H1 ⟨ty, q1⟩ => by
    refine ⟨?_, ?_⟩
    · cases x with
      | str a => exact ⟨a, rfl⟩
      | ref p =>
        exfalso
        rcases ty with ⟨h, _⟩ | ⟨h, _⟩ | ⟨h, _⟩ | ⟨h, _⟩ <;> exact absurd h (by decide)
      | int i => exact absurd (show ("str" : String) = "int" from ty) (by decide)
      | _ => exact ty.elim
    · obtain ⟨Z, ρ, Fs, ok, q2⟩ := q1
      exact one_of ⟨Z, ρ, Fs, ok, by
        cases e : eL [g] ρ with
        | no => rw [e] at q2; exact q2
        | ok d =>
          rw [e] at q2
          intro vs H' Z' Gs r
          obtain ⟨a, p, ys, h1, h2, h3, h4, h5⟩ := q2 vs H' Z' Gs r
          exact ⟨_, h2, a, p, ys, h1, rfl, h3, h4, h5⟩
        | ex x => rw [e] at q2; exact q2⟩
/-- a, b = a value, what is new in it frozen -/
def sTgt (f : En → Ot D) (t : D → En → Option En) : Mst := sOn f fun d ρ => if noT d then (match t (toFrz d) ρ with
  | some ρ1 => some (.nx, ρ1)
  | none => none) else none
theorem ss_tgt {g : TG} {S : List Nat} {t : D → En → Option En} (hS : (S.all fun i => !P.contains i) = true) (he : SE X cm W e f) (hg : PG X tg g) (hgo : OkTg X.K cm S g t) (hs : swapsWithSole [tg] e pos.line X.env = pure false := by rfl) (hw : swappedStores [tg] e X.env = pure none := by rfl)
    (h1 : (assignEach [tg] X.env).map (·.2) = [assign tg X.env] := by rfl) : SS X cm W P (.Assign [tg] e pos) (sTgt f t) := PS.imp (ps_asg he hg hs hw h1) fun D0 σ H q => by
  obtain ⟨Z, ρ, Fs, ok, q⟩ := q
  refine on_go ok q fun d v H1 Z1 F e r q1 => ?_
  have q2 := q
  unfold sTgt sOn at q2
  rw [e] at q2
  dsimp only at q2
  split at q2
  · rename_i nt
    split at q2
    · rename_i ρ1 ht
      have ok1 := ok.ext r.ext
      have eb : Z1.b = Z.b := r.ext.b
      have hm := Rep.mut d r.rep
      let Z2 : Zn := ⟨fun a => Z1.f a ∨ a ∈ F, Z.b, fun _ => False⟩
      have ok2 : RepE X.K cm H1 Z2 σ ρ Fs := ⟨ok1.rep.lσ, ok1.rep.lF, fun i d q => by
        obtain ⟨v, F, a, b, c⟩ := ok1.rep.get i d q
        exact ⟨v, F, a, b, c.grow (.refl _) (fun _ h => .inl h) (fun _ h => h) fun _ h => h⟩⟩
      have rr : Rep X.K cm H1 Z2 (toFrz d) v [] :=
        Rep.give (Z := ⟨Z1.f, Z.b, fun _ => False⟩) (g := Fl.toFrz) (O := fun a => a ∈ F) (cell_flag (fun a ha f ef _ => by subst ef; exact .inr ha) (fun a f hf hz => by cases f with
          | own => exact absurd rfl hf
          | frz => exact .inl hz
          | bor => exact hz
          | tmp => exact hz.elim) (fun f e z => by subst z; exact e rfl)) (fun f e => by cases f <;> cases e) d (by
            have := noT_rep (t' := fun _ => False) r.rep nt
            rw [eb] at this
            exact this) fun a h => h
      have nF : ∀ a ∈ F, H a = none := fun a h => r.new a h
      refine hgo H1 Z2 (toFrz d) v σ ρ Fs ρ1 rr ok2 ht _ fun σ1 Fs1 r1 sb _ kpr => ?_
      refine q2 σ1 H1 Z2 Fs1 ⟨.grow r.ext.gr, fun a h => .inl (sb.subset h), fun a h => .inl (r.ext.f a h), fun a h => ?_, rfl, fun j hj => kpr j fun hjS => ?_⟩ ⟨r1, ⟨fun a h => h.elim (r.ext.fd a) fun h => mut_ne (hm a h), fun a h q => ok.dom.b a h (r.ext.gr.back q), fun _ h => h.elim⟩, fun a h => ok1.mu a (sb.subset h), ok1.nd.sublist sb, fun a h => ⟨fun z => z.elim (ok1.nz a (sb.subset h)).1 fun z => mut_ne (ok.mu a (sb.subset h)) (nF a z), (ok1.nz a (sb.subset h)).2⟩, fun _ h => h⟩
      · exact h.elim (fun h => (r.ext.fn a h).elim .inl fun q => .inr (.inr q)) fun h => .inr (.inr (nF a h))
      · have := List.all_eq_true.mp hS j hjS
        rw [Bool.not_eq_true'] at this
        rw [List.contains_iff_mem.mpr hj] at this
        cases this
    · exact q2.elim
  · exact q2.elim
end
end OB

namespace OB
open PySem PySem.Calls PySem.NumText PyProof.Rows

def NoDig (h : Heap) : Prop := ∀ M : Model, PySem.W.Looks M h (nsGet cStatics "sys.int_max_str_digits") none
theorem wp_intMax {M : Model} {A : Around} {E : Value → Shared → Prop} {s : Shared} {Q : Nat → Shared → Prop} (hd : NoDig s.heap) (h : Q 4300 s) : wpAny M A Builtin.intMaxStrDigits Q E s := by
  unfold Builtin.intMaxStrDigits
  exact wpAny_bind (hd _ _ _ _ _ (fun _ _ e => e) (wpAny_pure h))
theorem wp_text2 {M : Model} {A : Around} {E : Value → Shared → Prop} {s : Shared} {Q : Value → Shared → Prop} {v : Value} {text : List Nat} {n : Int}
    (hs : ¬ (text.takeWhile (· != 0)).length ≤ 640) (hr : (int_private% "readNumeral") 4300 10 (text.takeWhile (· != 0)) = (int_private% "Numeral.value") n)
    (ha : ((text.takeWhile (· != 0)).length == text.length) = true) (hd : NoDig s.heap) (h : Q (.int n s.toks) { s with toks := s.toks + 1 }) :
    wpAny M A ((int_private% "intFromText") v text 10) Q E s := by
  have hd2 := @wp_intMax M A E s
  obtain ⟨hp, g, d, tk, os⟩ := s
  repeat (any_goals (first
    | assumption
    | (with_reducible refine wpAny_ite_false (decide_eq_false hs) ?_)
    | (with_reducible refine hd2 hd ?_)
    | wp_step))
  all_goals (try rw [hr])
  all_goals (try dsimp only)
  repeat (any_goals (first
    | assumption
    | (with_reducible refine wpAny_ite_true (decide_eq_true ha) ?_)
    | wp_step))
structure Hid (p : Prop) : Prop where
  out : p
theorem meets_text2 {x : PySem.Str} {u : Tok} {n : Int} (hl : ¬ (numSeenOf x).length ≤ 640) (hx : x.length ≤ sizeLine) (hn : PySem.intText? x = some n) :
    Meets (Builtin.«int.__new__» ⟨[.type "int", .str x u], []⟩) (fun A R s => NoDig s.heap ∧ (Made.int n).post (fun v s' => R (.ok (.ret v)) s') s) := fun prog w A R s h => by
  have key : ∀ (M : Model) (A : Around) (E : Value → Shared → Prop) (s : Shared) (Q : Value → Shared → Prop), NoDig s.heap → (Made.int n).post Q s → wpAny M A (Builtin.«int.__new__» ⟨[.type "int", .str x u], []⟩) (fun fin s' => ∃ v, fin = .done (.ret v) ∧ Q v s') E s := fun M A E s Q hd h => by
    obtain ⟨hp, g, d, tk, os⟩ := s
    have f1 := F.conv_sub_int
    have f2 := F.madeHere_int
    have f3 := PySem.W.KIN.str_int
    have f4 := PySem.W.KIN.str_idx
    have f5 := PySem.W.KIN.str_trunc
    have f6 : typeOf (.str x u) = pure (.type "str") := rfl
    have hr : (int_private% "readNumeral") 4300 10 (numSeenOf x) = (int_private% "Numeral.value") n ∧ ((numSeenOf x).length == (numTextOf x).length) = true := by
      rcases read4300 x hx with ⟨m, h1, h2, h3⟩ | ⟨h1, _⟩
      · rw [hn] at h1
        injection h1 with h1
        subst h1
        exact ⟨h3, h2⟩
      · rw [hn] at h1
        cases h1
    have hk := Hid.mk (And.intro hl (And.intro hr hd))
    clear hr hl hn hd
    repeat (any_goals (first
      | assumption
      | ((with_reducible show wpAny _ _ ((int_private% "intFromText") _ _ _) _ _ _); refine wp_text2 hk.out.1 hk.out.2.1.1 hk.out.2.1.2 hk.out.2.2 ?_)
      | wp_step))
    all_goals first | exact ⟨_, rfl, h⟩ | skip
  refine wpAny_mono (key _ _ _ s _ h.1 h.2) (fun fin s' q => ?_) fun _ _ z => z
  obtain ⟨v, rfl, q⟩ := q
  exact q
theorem gives_text1 {x : PySem.Str} {u : Tok} {n : Int} (hs : (numSeenOf x).length ≤ 640) (hn : PySem.intText? x = some n) : Gives (Builtin.«int.__new__» ⟨[.type "int", .str x u], []⟩) (.int n) :=
  .of_wp fun M A E s Q h => by
    obtain ⟨hp, g, d, tk, os⟩ := s
    have f1 := F.conv_sub_int
    have f2 := F.madeHere_int
    have f3 := PySem.W.KIN.str_int
    have f4 := PySem.W.KIN.str_idx
    have f5 := PySem.W.KIN.str_trunc
    have f6 : typeOf (.str x u) = pure (.type "str") := rfl
    have hr : (int_private% "readNumeral") 0 10 (numSeenOf x) = (int_private% "Numeral.value") n ∧ ((numSeenOf x).length == (numTextOf x).length) = true := by
      rcases read0 x hs with ⟨m, h1, h2, h3⟩ | ⟨h1, _⟩
      · rw [hn] at h1
        injection h1 with h1
        subst h1
        exact ⟨h3, h2⟩
      · rw [hn] at h1
        cases h1
    have hk := Hid.mk (And.intro hs hr)
    clear hs hr hn
    repeat (any_goals (first
      | assumption
      | ((with_reducible show wpAny _ _ ((int_private% "intFromText") _ _ _) _ _ _); refine PySem.W.KIN.wp_text hk.out.1 hk.out.2.1 hk.out.2.2 ?_)
      | wp_step))
    all_goals first | exact ⟨_, rfl, h⟩ | skip
section
open PySem.Spec L2
variable {X : Cx}
theorem call_int_long (hdg : PySem.W.nsIn X.K cStatics "sys.int_max_str_digits" = some none) : CallR X (.type "int") (fun xs H Q => ∃ a n, xs = [.str a] ∧ PySem.intText? a = some n ∧ a.length ≤ 4300 ∧ Q (.int n) H) := by
  intro pins s σ H xs us Q I rs h
  obtain ⟨a, n, rfl, hn, hl, h⟩ := h
  cases rs with
  | cons r1 rs =>
    cases rs
    obtain ⟨t, rfl⟩ := r1
    by_cases h6 : a.length ≤ 640
    · exact PySem.W.KIN.call_text hn h6 ⟨.int n, H, I.tok _, ⟨_, rfl⟩, h⟩
    · by_cases h7 : (numSeenOf a).length ≤ 640
      · exact call_int_1 (gives_text1 h7 hn).meets (show (Made.int n).post _ s from ⟨rfl, .int n, H, I.tok _, ⟨_, rfl⟩, h⟩)
      · refine call_int_1 (meets_text2 h7 (Nat.le_trans hl (by decide)) hn) ⟨fun M => PySem.W.looks_nsIn I.kIn hdg, (show (Made.int n).post _ s from ⟨rfl, .int n, H, I.tok _, ⟨_, rfl⟩, h⟩)⟩
theorem call_int4 (hdg : PySem.W.nsIn X.K cStatics "sys.int_max_str_digits" = some none) : CallR X (.type "int") (fun xs H Q => (((∃ i, xs = [.int i] ∧ Q (.int i) H) ∨ ∃ k, xs = [.bl k] ∧ Q (.int (if k then 1 else 0)) H) ∨ ∃ a n, xs = [.str a] ∧ PySem.intText? a = some n ∧ a.length ≤ 4300 ∧ Q (.int n) H)) :=
  CallR.or2 call_int1 (call_int_long hdg)
end
def pInt4 : List D → Option D
  | [.int i] => some (.int i)
  | [.bl b] => some (.int (if b then 1 else 0))
  | [.str a] => if a.length ≤ 4300 then (PySem.intText? a).map .int else none
  | _ => none
open L2 in
theorem ok_int4 {K : PySem.W.Frag} {cm : Cm} : OkPr K cm (fun xs H Q => (((∃ i, xs = [.int i] ∧ Q (.int i) H) ∨ ∃ k, xs = [.bl k] ∧ Q (.int (if k then 1 else 0)) H) ∨ ∃ a n, xs = [.str a] ∧ PySem.intText? a = some n ∧ a.length ≤ 4300 ∧ Q (.int n) H)) pInt4 := by
  intro H Z ds vs Fs d dm rp nd nf e Q q
  unfold pInt4 at e
  split at e
  · cases e
    obtain ⟨v, F, rfl, rfl, ⟨rfl, rfl⟩⟩ := repL1 rp
    exact .inl (.inl ⟨_, rfl, q _ H Z [] (.atom (.refl dm) rep_int)⟩)
  · cases e
    obtain ⟨v, F, rfl, rfl, ⟨rfl, rfl⟩⟩ := repL1 rp
    exact .inl (.inr ⟨_, rfl, q _ H Z [] (.atom (.refl dm) rep_int)⟩)
  · split at e
    · rename_i hl
      rename_i a
      cases e2 : PySem.intText? a with
      | none => rw [e2] at e; cases e
      | some n =>
        rw [e2] at e
        cases e
        obtain ⟨v, F, rfl, rfl, ⟨rfl, rfl⟩⟩ := repL1 rp
        exact .inr ⟨_, n, rfl, e2, hl, q _ H Z [] (.atom (.refl dm) rep_int)⟩
    · cases e
  · cases e
end OB

namespace OB
open PySem PySem.Spec PyProof.Rows L2
section
variable {X : Cx} {cm : Cm} {W : WX} {P : List Nat}
variable {elt tgx iter : Expr} {ifs : List Expr} {scope : Scope} {own : List (Str × Nat)} {pos py spos : Pos} {it : En → Ot Its'} {tg : D → En → Option En} {g : TG} {S : List Nat} {c : En → Ot Bool} {tt : TT} {f : En → Ot D} {t : Expr} {i : Nat} {y : Str}
theorem ss_setC (hP : (!P.contains i) = true) (hy : X.N[i]? = some y) (hyl : X.env.scope.names.lookup y = some .local) (hsw : swapsWith (.ListComp elt [⟨tgx, iter, ifs, 0⟩] scope pos) (some (.Name y py)) spos.line X.env = pure true)
    (hc : X.calm = true) (hN : X.N.Nodup) (hi : SI X cm W tgx iter it) (ok : BlkOk X.N X.env.scope scope own) (hS : (S.all fun i => (own.map (·.2)).contains i) = true) (hgo : OkTg X.K cm S g tg)
    (hg : ∀ (s : Shared) (H : Hp) (C : Addr) (cl : List (Str × Addr)) (fp : List Addr), PG (X.blk s H scope (compEnvC scope cl C X.env) fp) tgx g) (ht : ∀ (s : Shared) (H : Hp) (C : Addr) (cl : List (Str × Addr)) (fp : List Addr), PTs (X.blk s H scope (compEnvC scope cl C X.env) fp) ifs tt)
    (hT : ∀ σ H Q, tPT X.K cm W0 c σ H Q → tt σ H Q)
    (he : ∀ (s : Shared) (H : Hp) (C : Addr) (cl : List (Str × Addr)) (fp : List Addr), SE (X.blk s H scope (compEnvC scope cl C X.env) fp) cm W0 elt f) (hs : ∀ x, foldedSetIterable iter X.env x = pure x := by intro _; rfl) :
    SS X cm W P (.Assign [.Name y py] (.ListComp elt [⟨tgx, iter, ifs, 0⟩] scope pos) spos) (sSet i (eComp it tg c f (own.map (·.2)))) :=
  ss_set hP (PS.imp (ps_setLc hc hN hy hyl hsw hi ok hg ht he hs) fun D σ H q => comp_end hgo (fun i hi => by
    have := List.all_eq_true.mp hS i hi
    simpa using this) hT q)
end

/-! ### a def by its name -/
def Good (P : Program) (w : World) (K : PySem.W.Frag) (mg : Str → Option Value) (base : Heap) (cm : Cm) (x : Str) (n k : Nat) (m : List D → Ot D) : Prop :=
  ∃ (a : Addr) (fd : FuncData) (ps : List Str), mg x = some (.ref a) ∧ PySem.W.keepIn K (.ref a) = true ∧ Binds K fd ps [] ∧ FnOk P w K mg base (L2.CX P w) k a fd ps (spP K cm n m)
def eCall0 (m : List D → Ot D) (dd : List D) : En → Ot D := fun ρ => noX (eCall m dd [] ρ)
section
variable {X : Cx} {cm : Cm} {W : WX} {x : Str} {p pos : Pos} {e : Expr} {es : List Expr} {fs : List (En → Ot D)} {k j n : Nat} {m : List D → Ot D}
theorem s_callG (tk : Takes X W) (G : Good X.prog X.w X.K X.mg X.base cm x n k m) (hr : Room j X.A) (hk : k ≤ j) (hg : Gl X x) (hn : fs.length = n) (ha : SA X cm W (e :: es) (eL fs))
    (hdb : (x == ("__debug__" : Str)) = false := by decide) (he : starEach (e :: es) X.env = (false, eval e X.env) :: starEach es X.env := by rfl) (hpl : (backTo pos (starEach es X.env)).any (·.1) = false := by rfl) :
    SE X cm W (.Call (.Name x p) (e :: es) [] pos) (eCall m [] fs) := by
  obtain ⟨a, fd, ps, hm, kp, b, F⟩ := G
  exact s_call tk F (hr.mono hk) hg hm kp b .nil rfl rfl (by rw [← hn]; rfl) ha hdb he hpl
theorem s_callG0 (G : Good X.prog X.w X.K X.mg X.base cm x 0 k m) (hr : Room j X.A) (hk : k ≤ j) (hg : Gl X x) (hdb : (x == ("__debug__" : Str)) = false := by decide) :
    SE X cm W (.Call (.Name x p) [] [] pos) (eCall0 m []) := by
  obtain ⟨a, fd, ps, hm, kp, b, F⟩ := G
  exact s_call0 F (hr.mono hk) hg hm kp b .nil rfl rfl rfl hdb
end
end OB

namespace OB
open PySem PySem.Spec PyProof.Rows L2
def isLst : Value → Bool
  | .type n => n == "list"
  | _ => false
def frZ (g : Addr → Option Obj) (as : List Addr) : PySem.W.Frag := (He.frG g as).filter fun p => !isLst p.2.cls
theorem lookup_mem {α : Type} : ∀ {l : List (Addr × α)} {a : Addr} {o : α}, l.lookup a = some o → (a, o) ∈ l
  | [], _, _, h => nomatch h
  | (b, u) :: l, a, o, h => by
    unfold List.lookup at h
    split at h
    · rename_i e
      have e : a = b := by simpa using e
      cases h; subst e
      exact List.mem_cons_self
    · exact List.mem_cons_of_mem _ (lookup_mem h)
theorem frZ_at {g : Addr → Option Obj} {as : List Addr} {a : Addr} {o : Obj} (h : (frZ g as).lookup a = some o) : g a = some o ∧ isLst o.cls = false := by
  have m := lookup_mem h
  unfold frZ at m
  rw [List.mem_filter] at m
  obtain ⟨m1, m2⟩ := m
  unfold He.frG at m1
  rw [List.mem_filterMap] at m1
  obtain ⟨b, _, e⟩ := m1
  cases q : g b with
  | none => rw [q] at e; cases e
  | some u => rw [q] at e; cases e; exact ⟨q, by simpa using m2⟩
def obsZ (n : Nat) (fa : List He.Fa) (fn : List He.DefD) (g : Addr → Option Obj) : He.AlD :=
  ((He.obsD fa fn (frZ g (He5.asA g n))).1 && He.eqO (PySem.W.nsIn (frZ g (He5.asA g n)) cStatics "sys.int_max_str_digits") (some none), (He.obsD fa fn (frZ g (He5.asA g n))).2)
structure SaysZ (fa : List He.Fa) (fn : List He.DefD) (K : PySem.W.Frag) : Prop where
  c : He.SaysD fa fn K
  dig : PySem.W.nsIn K cStatics "sys.int_max_str_digits" = some none
  nol : ∀ a o, K.lookup a = some o → isLst o.cls = false
def hookZ (n : Nat) (fa : List He.Fa) (fn : List He.DefD) : PySem.W.Hook where
  α := He.AlD
  obs := fun s => obsZ n fa fn s.heap.get?
  val := fun _ => He.valD fn
  says := fun _ h => ∃ K : PySem.W.Frag, K.In h ∧ SaysZ fa fn K
  of := fun _ s e => by
    have e : obsZ n fa fn s.heap.get? = He.valD fn := e
    unfold obsZ at e
    obtain ⟨e1, e2⟩ := Prod.ext_iff.mp e
    have e1 : ((He.obsD fa fn (frZ s.heap.get? (He5.asA s.heap.get? n))).1 && He.eqO (PySem.W.nsIn (frZ s.heap.get? (He5.asA s.heap.get? n)) cStatics "sys.int_max_str_digits") (some none)) = true := e1
    rw [Bool.and_eq_true] at e1
    exact ⟨_, fun a o h => (frZ_at h).1, Prod.ext e1.1 e2, He.eqO_ok e1.2, fun a o h => (frZ_at h).2⟩
  keeps := fun _ _ _ ⟨K, hK, c⟩ k => ⟨K, PySem.W.Frag.In.keeps hK k, c⟩
theorem obsZ_eq {n : Nat} {fa : List He.Fa} {fn : List He.DefD} {g : Addr → Option Obj} {s : Shared} (h : ∀ a, g a = s.heap.get? a) : obsZ n fa fn g = (hookZ n fa fn).obs s := by
  have e : g = s.heap.get? := funext h
  rw [e] <;> rfl
/-- a law by its mirror -/
theorem spP_script {K : PySem.W.Frag} {cm : Cm} {H : Hp} {a : Addr} {ns : List Int} {m : List D → Ot D} (nol : ∀ a o, K.lookup a = some o → isLst o.cls = false) (hS : SqL K H a (ns.map V.int)) (hm : m [.nd (.lst .bor) (ns.map .int)] = .ok (.bl true)) :
    spP K cm 1 m [.ref a] H (fun v _ => v = .bl true) fun _ _ _ => False := by
  have rd : Rd H a (.lst (ns.map V.int)) := by
    rcases hS with h | ⟨o, its, n, h1, h2, _⟩
    · exact h
    · have := nol a o h1
      rw [h2] at this
      cases this
  have hne : H a ≠ none := by
    rcases rd with h | ⟨o, h⟩ <;> exact fun z => by rw [z] at h; cases h
  have rl : ∀ (ns : List Int) (Z : Zn), ∃ Fs, Fs.flatten = [] ∧ RepL K cm H Z (ns.map .int) (ns.map V.int) Fs := by
    intro ns Z
    induction ns with
    | nil => exact ⟨[], rfl, repL_nil⟩
    | cons n ns ih =>
      obtain ⟨Fs, e, r⟩ := ih
      exact ⟨[] :: Fs, by simpa using e, repL_cons rep_int r⟩
  obtain ⟨Fs, e, r⟩ := rl ns (lentZ H fun _ => False)
  refine ⟨fun _ => False, [.nd (.lst .bor) (ns.map .int)], [[]], fun _ h => h.elim, rfl, rfl, repL_cons ⟨a, ns.map V.int, Fs, rfl, ⟨fun h => absurd rfl h, rd, hne⟩, r, by rw [e]; rfl⟩ repL_nil, ?_⟩
  rw [hm]
  intro v H' Z' F r
  exact r.rep.1
theorem walk_ofEB {l : PySem.W.OpenLaw} {n k : Nat} {q : Program} {loose : List Str} {XP : (Str → Option Value) → Heap → Prop} {YP : World → Heap → Prop} {d : DefRec} {CX : World → CXT} {x : Str}
    (hn : l.most = some n) (hn2 : n ≤ sizeLine) (hdf : d.params.defaults = []) (hr : Room k callerA)
    (F : ∀ (w : World) (mg : Str → Option Value) (fa : Addr) (h : Heap), YP w h → h.Ns mainGlobals mg → mg d.name = some (.ref fa) →
      ∃ (K : PySem.W.Frag) (fd : FuncData) (sp : Sp), K.In h ∧ (∀ (s : Shared) (u : Value), BindsTo s fd ⟨[u], []⟩ [(x, u)]) ∧
        (∀ (H : Hp) (a : Addr) (ns : List Int), ns.length ≤ n → (∀ z ∈ ns, Builtin.Int.intBits z ≤ 1048576) → Only H → SqL K H a (ns.map V.int) → sp [.ref a] H (fun v _ => v = .bl true) fun _ _ _ => False) ∧
        ∀ base : Heap, K.In base → base.Ns mainGlobals mg → FnOk l.prog w K mg base (CX w) k fa fd [x] sp)
    (hCX : ∀ (w : World) (H : Hp) (s : Shared) (e : Value) (s' : Shared), CX w [] H s (fun _ _ _ => False) e s' → False) :
    PySem.W.WalkO q loose XP YP l.row.toRowW d [] (fun f vs => PySem.call f vs) := by
  refine Att.attach_callB hn hdf fun w s₀ s₁ mg mb fa o pm cd doc a vs ns G Y ho hd hcd hmg hobj hints hlen hbits hg => ?_
  obtain ⟨K, fd, sp, KX, hb, hsp, hF⟩ := F w mg fa _ Y G.T.g hmg
  exact law_call KX G.T.g G.T.b G.T.builtins G.T.nolimit hg hobj hints (Nat.le_trans hlen hn2) hr hF hb (fun H hO hS => hsp H a ns hlen hbits hO hS) fun H e s' => hCX w H s₁ e s'
theorem cx_no {P : Program} {w : World} (H : Hp) (s : Shared) (e : Value) (s' : Shared) : L2.CX P w [] H s (fun _ _ _ => False) e s' → False := fun h => by
  obtain ⟨_, _, _, _, _, _, _, _, _, _, _, _, z⟩ := h
  exact z
end OB

namespace OB
open PySem PySem.Spec PyProof.Rows L2
def fzE (i : Nat) (ρ : En) : En := match ρ[i]? with
  | some (some d) => ρ.set i (some (toFrz d))
  | _ => ρ
def sFz (i : Nat) (g : Mst) : Mst := fun ρ => g (fzE i ρ)
theorem Ok.fz {K : PySem.W.Frag} {cm : Cm} {H : Hp} {σ : L2.St} {ρ : En} {Fs : List (List Addr)} {Z : Zn} {P : List Nat} (ok : Ok K cm H σ ρ Fs Z) (i : Nat) : ∃ Fs' Z', Ok K cm H σ (fzE i ρ) Fs' Z' ∧ SStep P σ H Z Fs σ H Z' Fs' := by
  unfold fzE
  split
  · rename_i d hd
    obtain ⟨v, F, e1, e2, r⟩ := ok.rep.get i d hd
    have hF : ∀ a ∈ F, a ∈ Fs.flatten := fun a h => flat_mem e2 h
    obtain ⟨n1, n2⟩ := flat_set_nil e2 ok.nd
    have sub := set_nil_sub Fs i
    refine ⟨Fs.set i [], ⟨fun a => Z.f a ∨ a ∈ F, Z.b, Z.t⟩, ⟨⟨by simpa using ok.rep.lσ, by simpa using ok.rep.lF, fun j dj q => ?_⟩, ⟨fun a h => h.elim (ok.dom.f a) fun h => mut_ne (ok.mu a (hF a h)), ok.dom.b, ok.dom.t⟩, fun a h => ok.mu a (sub.subset h), ok.nd.sublist sub, fun a h => ⟨fun z => z.elim (ok.nz a (sub.subset h)).1 fun z => ?_, (ok.nz a (sub.subset h)).2⟩, ok.t⟩,
      ⟨.refl, fun a h => .inl (sub.subset h), fun a h => .inl h, fun a h => h.elim .inl fun h => .inr (.inl (hF a h)), rfl, fun _ _ => rfl⟩⟩
    · by_cases hj : i = j
      · subst hj
        rw [List.getElem?_set] at q
        split at q
        · split at q
          · cases q
            refine ⟨v, [], e1, by rw [List.getElem?_set_self (List.getElem?_eq_some_iff.mp e2).1], ?_⟩
            exact Rep.give (g := Fl.toFrz) (O := fun a => a ∈ F) (cell_flag (fun a ha f ef _ => by subst ef; exact .inr ha) (fun a f hf hz => by cases f with
              | own => exact absurd rfl hf
              | frz => exact .inl hz
              | bor => exact hz
              | tmp => exact (ok.t a hz).elim) (fun f e z => by subst z; exact e rfl)) (fun f e => by cases f <;> cases e) d r fun a h => h
          · cases q
        · rename_i n; exact absurd rfl n
      · rw [List.getElem?_set_ne hj] at q
        obtain ⟨v2, F2, a, b, c⟩ := ok.rep.get j dj q
        exact ⟨v2, F2, a, by rw [List.getElem?_set_ne hj]; exact b, c.grow (.refl _) (fun _ h => .inl h) (fun _ h => h) fun _ h => h⟩
    · have key : ∀ {Fs : List (List Addr)} {i : Nat}, Fs[i]? = some F → Fs.flatten.Nodup → a ∈ F → a ∈ (Fs.set i []).flatten → False := by
        intro Fs
        induction Fs with
        | nil => intro i h; simp at h
        | cons G Fs ih =>
          intro i h nd h1 h2
          rw [List.flatten_cons, List.nodup_append] at nd
          cases i with
          | zero =>
            cases h
            rw [List.set_cons_zero, List.flatten_cons] at h2
            exact nd.2.2 a h1 a (by simpa using h2) rfl
          | succ i =>
            rw [List.set_cons_succ, List.flatten_cons] at h2
            have h : Fs[i]? = some F := by simpa using h
            rcases List.mem_append.mp h2 with q | q
            · exact nd.2.2 a q a (flat_mem h h1) rfl
            · exact ih h nd.2.1 h1 q
      exact key e2 ok.nd z h
  · exact ⟨Fs, Z, ok, .refl⟩
theorem ss_fz {X : Cx} {cm : Cm} {W : WX} {P : List Nat} {st : Stmt} {g : Mst} (i : Nat) (h : SS X cm W P st g) : SS X cm W P st (sFz i g) := PS.imp h fun D0 σ H q => by
  obtain ⟨Z, ρ, Fs, ok, q⟩ := q
  obtain ⟨Fs', Z', ok', s⟩ := ok.fz (P := P) i
  exact ⟨Z', _, Fs', ok', q.step s⟩
end OB

namespace OB
open PySem PySem.Spec PyProof.Rows L2
section
variable {f g h : En → Ot D} {fs : List (En → Ot D)} {ρ : En} {t u : En → Ot Bool} {p q : List D → Option D}
@[simp] theorem eL_nil : eL [] ρ = .ok [] := rfl
@[simp] theorem eL_cons : eL (f :: fs) ρ = (f ρ).bind fun d => (eL fs ρ).bind fun ds => .ok (d :: ds) := rfl
@[simp] theorem eC_eq {d : D} : eC d ρ = .ok d := rfl
@[simp] theorem ePr_eq : ePr p fs ρ = (eL fs ρ).bind fun ds => .of (p ds) := rfl
@[simp] theorem eAnd_eq : eAnd f g ρ = (f ρ).bind fun d => (asB d).bind fun b => if b then g ρ else .ok (.bl false) := rfl
@[simp] theorem eOr_eq : eOr f g ρ = (f ρ).bind fun d => (asB d).bind fun b => if b then .ok (.bl true) else g ρ := rfl
@[simp] theorem eNot_eq : eNot f ρ = (f ρ).bind fun d => (asB d).bind fun b => .ok (.bl (!b)) := rfl
@[simp] theorem eT_eq : eT f ρ = (f ρ).bind asB := rfl
@[simp] theorem bAnd_eq : bAnd t u ρ = (t ρ).bind fun b => if b then u ρ else .ok false := rfl
@[simp] theorem bOr_eq : bOr t u ρ = (t ρ).bind fun b => if b then .ok true else u ρ := rfl
@[simp] theorem bNot_eq : bNot t ρ = (t ρ).bind fun b => .ok (!b) := rfl
@[simp] theorem eIf_eq : eIf t f g ρ = (t ρ).bind fun b => if b then f ρ else g ρ := rfl
@[simp] theorem asB_bl {b : Bool} : asB (.bl b) = .ok b := rfl
@[simp] theorem eIsi_eq {nb : String → Option Bool} {ob : Str → Option Bool} : eIsi nb ob f ρ = (f ρ).bind fun d => .of ((isiD nb ob d).map .bl) := rfl
@[simp] theorem eChain_eq : eChain p q f g h ρ = (f ρ).bind fun x => (g ρ).bind fun y => (Ot.of (p [x, y])).bind fun z => (asB z).bind fun b => if b then (h ρ).bind (fun w => .of (q [y, w])) else .ok (.bl false) := rfl
@[simp] theorem eCall_eq {m : List D → Ot D} {dd : List D} : eCall m dd fs ρ = (eL fs ρ).bind fun ds => back (m (ds.map toArg ++ dd)) := rfl
@[simp] theorem eCall0_eq {m : List D → Ot D} : eCall0 m [] ρ = noX (back (m [])) := rfl
@[simp] theorem noX_ok {d : D} : noX (.ok d) = .ok d := rfl
@[simp] theorem back_ok {d : D} : back (.ok d) = if noB d then .ok d else .no := rfl
@[simp] theorem eM_eq {T : String} : eM T p f fs ρ = (f ρ).bind fun x => if tyB T x then (eL fs ρ).bind fun ds => .of (p (x :: ds)) else .no := rfl
@[simp] theorem oNone_eq : oNone ρ = .ok none := rfl
@[simp] theorem oSome_eq : oSome f ρ = (f ρ).bind fun d => (asI d).bind fun i => .ok (some i) := rfl
@[simp] theorem asI_int {i : Int} : asI (.int i) = .ok i := rfl
@[simp] theorem eSl_eq {pp : D → Option Int → Option Int → Option D} {lo hi : En → Ot (Option Int)} : eSl pp f lo hi ρ = (f ρ).bind fun d => (lo ρ).bind fun lo => (hi ρ).bind fun hi => .of (pp d lo hi) := rfl
@[simp] theorem itV_eq : itV f ρ = (f ρ).bind fun d => .of (itemsD d) := rfl
@[simp] theorem eVar_eq {i : Nat} : eVar i ρ = .of ((getV ρ i).map (mapF Fl.toTmp)) := rfl
@[simp] theorem getV_eq {i : Nat} : getV ρ i = (ρ[i]?).join := rfl
@[simp] theorem mapF_non {k : Fl → Fl} : mapF k .non = .non := rfl
@[simp] theorem mapF_bl {k : Fl → Fl} {b : Bool} : mapF k (.bl b) = .bl b := rfl
@[simp] theorem mapF_int {k : Fl → Fl} {b : Int} : mapF k (.int b) = .int b := rfl
@[simp] theorem mapF_str {k : Fl → Fl} {b : Str} : mapF k (.str b) = .str b := rfl
@[simp] theorem mapF_lst {k : Fl → Fl} {x : Fl} {ds : List D} : mapF k (.nd (.lst x) ds) = .nd (.lst (k x)) (ds.map (mapF k)) := by rw [mapF, mapFL_eq]; rfl
@[simp] theorem mapF_dct {k : Fl → Fl} {x : Fl} {ks : List Key} {ds : List D} : mapF k (.nd (.dct x ks) ds) = .nd (.dct (k x) ks) (ds.map (mapF k)) := by rw [mapF, mapFL_eq]; rfl
@[simp] theorem mapF_tup {k : Fl → Fl} {ds : List D} : mapF k (.nd .tup ds) = .nd .tup (ds.map (mapF k)) := by rw [mapF, mapFL_eq]; rfl
@[simp] theorem toTmp_own : Fl.toTmp .own = .tmp := rfl
@[simp] theorem toTmp_tmp : Fl.toTmp .tmp = .tmp := rfl
@[simp] theorem toTmp_frz : Fl.toTmp .frz = .frz := rfl
@[simp] theorem toTmp_bor : Fl.toTmp .bor = .bor := rfl
@[simp] theorem toFrz_own : Fl.toFrz .own = .frz := rfl
@[simp] theorem toFrz_frz : Fl.toFrz .frz = .frz := rfl
@[simp] theorem toFrz_bor : Fl.toFrz .bor = .bor := rfl
@[simp] theorem toFrz_tmp : Fl.toFrz .tmp = .tmp := rfl
@[simp] theorem toArg_own : Fl.toArg .own = .frz := rfl
@[simp] theorem toArg_frz : Fl.toArg .frz = .frz := rfl
@[simp] theorem toArg_bor : Fl.toArg .bor = .bor := rfl
@[simp] theorem toArg_tmp : Fl.toArg .tmp = .bor := rfl
@[simp] theorem tmpFrz_own : Fl.tmpFrz .own = .frz := rfl
@[simp] theorem tmpFrz_frz : Fl.tmpFrz .frz = .frz := rfl
@[simp] theorem tmpFrz_bor : Fl.tmpFrz .bor = .bor := rfl
@[simp] theorem tmpFrz_tmp : Fl.tmpFrz .tmp = .frz := rfl
@[simp] theorem toArg_eq {d : D} : toArg d = mapF Fl.toArg d := rfl
@[simp] theorem toFrzD_eq {d : D} : toFrz d = mapF Fl.toFrz d := rfl
@[simp] theorem noT_non : noT .non = true := rfl
@[simp] theorem noT_bl {b : Bool} : noT (.bl b) = true := rfl
@[simp] theorem noT_int {b : Int} : noT (.int b) = true := rfl
@[simp] theorem noT_str {b : Str} : noT (.str b) = true := rfl
@[simp] theorem noT_lst {x : Fl} {ds : List D} : noT (.nd (.lst x) ds) = ((x != .tmp) && ds.all noT) := by unfold noT; rw [allF, allFL_eq]; rfl
@[simp] theorem noT_dct {x : Fl} {ks : List Key} {ds : List D} : noT (.nd (.dct x ks) ds) = ((x != .tmp) && ds.all noT) := by unfold noT; rw [allF, allFL_eq]; rfl
@[simp] theorem noT_tup {ds : List D} : noT (.nd .tup ds) = ds.all noT := by unfold noT; rw [allF, allFL_eq]; first | done | (show (true && _) = _; rw [Bool.true_and])
@[simp] theorem noB_non : noB .non = true := rfl
@[simp] theorem noB_bl {b : Bool} : noB (.bl b) = true := rfl
@[simp] theorem noB_int {b : Int} : noB (.int b) = true := rfl
@[simp] theorem noB_str {b : Str} : noB (.str b) = true := rfl
@[simp] theorem noB_lst {x : Fl} {ds : List D} : noB (.nd (.lst x) ds) = ((x == .own || x == .frz) && ds.all noB) := by unfold noB; rw [allF, allFL_eq]; rfl
@[simp] theorem noB_dct {x : Fl} {ks : List Key} {ds : List D} : noB (.nd (.dct x ks) ds) = ((x == .own || x == .frz) && ds.all noB) := by unfold noB; rw [allF, allFL_eq]; rfl
@[simp] theorem noB_tup {ds : List D} : noB (.nd .tup ds) = ds.all noB := by unfold noB; rw [allF, allFL_eq]; first | done | (show (true && _) = _; rw [Bool.true_and])
end
section
variable {f : En → Ot D} {g h : Mst} {ρ ρ1 : En} {t : En → Ot Bool} {d : D}
theorem sSeq_nx (e : g ρ = some (.nx, ρ1)) : sSeq g h ρ = h ρ1 := by unfold sSeq; rw [e]
theorem sSeq_ret (e : g ρ = some (.ret d, ρ1)) : sSeq g h ρ = some (.ret d, ρ1) := by unfold sSeq; rw [e]
theorem sIf_t (e : t ρ = .ok true) : sIf t g h ρ = g ρ := by unfold sIf; rw [e]; rfl
theorem sIf_f (e : t ρ = .ok false) : sIf t g h ρ = h ρ := by unfold sIf; rw [e]; rfl
theorem sSet_ok {i : Nat} (e : f ρ = .ok d) (n : noT d = true) : sSet i f ρ = some (.nx, ρ.set i (some d)) := by unfold sSet sOn; rw [e]; exact if_pos n
theorem sRet_ok (e : f ρ = .ok d) (n : noT d = true) : sRet f ρ = some (.ret d, ρ) := by unfold sRet sOn; rw [e]; exact if_pos n
theorem sRetF_ok (e : f ρ = .ok d) : sRetF f ρ = some (.ret (mapF Fl.tmpFrz d), frzE ρ) := by unfold sRetF sOn; rw [e]
theorem sRetV_ok {i : Nat} (e : getV ρ i = some d) : sRetV i ρ = some (.ret d, ρ.set i none) := by unfold sRetV; rw [e]; rfl
@[simp] theorem sNil_eq : sNil ρ = some (.nx, ρ) := rfl
@[simp] theorem bodyM_eq {n : Nat} {ds : List D} : bodyM n g ds = match g (initE n ds) with
  | some (.nx, _) => .ok .non
  | some (.ret d, _) => .ok d
  | some (.ex x, _) => .ex x
  | _ => .no := rfl
@[simp] theorem initE_eq {n : Nat} {ds : List D} : initE n ds = ds.map some ++ List.replicate (n - ds.length) none := rfl
@[simp] theorem sSeq_eq : sSeq g h ρ = match g ρ with
  | some (.nx, ρ1) => h ρ1
  | r => r := rfl
@[simp] theorem sIf_eq : sIf t g h ρ = match t ρ with
  | .no => none
  | .ok b => if b then g ρ else h ρ
  | .ex x => some (.ex x, ρ) := rfl
@[simp] theorem sSet_eq {i : Nat} : sSet i f ρ = match f ρ with
  | .no => none
  | .ok d => if noT d then some (.nx, ρ.set i (some d)) else none
  | .ex x => some (.ex x, ρ) := rfl
@[simp] theorem sRet_eq : sRet f ρ = match f ρ with
  | .no => none
  | .ok d => if noT d then some (.ret d, ρ) else none
  | .ex x => some (.ex x, ρ) := rfl
@[simp] theorem sRetF_eq : sRetF f ρ = match f ρ with
  | .no => none
  | .ok d => some (.ret (mapF Fl.tmpFrz d), frzE ρ)
  | .ex x => some (.ex x, ρ) := rfl
@[simp] theorem sRetV_eq {i : Nat} : sRetV i ρ = match getV ρ i with
  | some d => some (.ret d, ρ.set i none)
  | none => none := by unfold sRetV; cases getV ρ i <;> rfl
end
end OB

namespace OB
open PySem PySem.Spec PyProof.Rows L2
abbrev P0 : Program := PySem.Challenge.pw_larderwise_k01_words_and_numbers
def top (i : Nat) : Stmt := PySem.Challenge.pw_larderwise_k01_words_and_numbers.main.body.getD i (.Pass ⟨0, 0, 0, 0⟩)
noncomputable section
def g_words_of : Mst :=
  (sSeq ((sIf ((bNot ((eT ((eIsi (nbTy "str") (fun _ => none) (eVar 0)))))))
  ((sRet (eC .non)))
  (sNil)))
  ((sSeq ((sSet 1 ((eM "str" pSplit (eVar 0) [eC (.str " ")]))))
  ((sSeq ((sIf ((eT (ePr pIn [eC (.str ""), eVar 1])))
  ((sRet (eC .non)))
  (sNil)))
  ((sRetV 1)))))))
def m_words_of : List D → Ot D := bodyM 2 g_words_of
def g__law_line_good : Mst :=
  (sSeq ((sSet 1 ((eM "str" pSplit (eVar 0) [eC (.str " ")]))))
  ((sSeq ((sIf ((eT (ePr pIn [eC (.str ""), eVar 1])))
  ((sRet ((ePr pIs [(eCall m_words_of [] [eVar 0]), eC .non]))))
  (sNil)))
  ((sSeq ((sFor (itR1 [eC (.int 2)]) (tgName 2)
  ((sSeq ((sSet 3 ((eCall m_words_of [] [eVar 0]))))
  ((sSeq ((sIf ((bOr ((bNot ((eT ((eIsi (nbTy "list") (fun _ => none) (eVar 3))))))) ((eT (ePr pNe [eVar 3, eVar 1])))))
  ((sRet (eC (.bl false))))
  (sNil)))
  ((sMut 3 pHere mApp (eL [eC (.str "more")])))))))))
  ((sRet (eC (.bl true)))))))))
def m__law_line_good : List D → Ot D := bodyM 4 g__law_line_good
def g__law_mixed : Mst :=
  (sRet ((ePr pMod [(ePr pMul [(ePr pPow [(ePr pAdd [(ePr pAdd [eVar 0, (ePr pMul [eC (.int 7919), eVar 1])]), eC (.int 1)]), eC (.int 3)]), eC (.int 48271)]), eC (.int 2147483647)])))
def m__law_mixed : List D → Ot D := bodyM 2 g__law_mixed
def g__law_cell_at : Mst :=
  (sSeq ((sIf ((eT (ePr pLt [eVar 1, (ePr pLen [eVar 0])])))
  ((sRetF ((ePr pIx [eVar 0, eVar 1]))))
  (sNil)))
  ((sRet (eC (.int 0)))))
def m__law_cell_at : List D → Ot D := bodyM 2 g__law_cell_at
def g__law_signs : Mst :=
  (sSeq ((sSet 0 (eC (.str " !\"#$&'()*+,-./0123456789:;<=>?@ABCDEFGHIJKLMNOPQRSTUVWXYZ[\\]^_`"))))
  ((sRet ((ePr pAdd [eVar 0, eC (.str "abcdefghijklmnopqrstuvwxyz{|}~")])))))
def m__law_signs : List D → Ot D := bodyM 1 g__law_signs
def g__law_text : Mst :=
  (sSeq ((sSet 1 (eC (.str "abcdefghijklmnopqrstuvwxyz"))))
  ((sSeq ((sSet 2 ((ePr pMod [eVar 0, eC (.int 5)]))))
  ((sSeq ((sSet 3 ((ePr pIx [(ePr pLst [(ePr pMod [(ePr pDiv [eVar 0, eC (.int 5)]), eC (.int 15)]), (ePr pAdd [eC (.int 11), (ePr pMod [(ePr pDiv [eVar 0, eC (.int 5)]), eC (.int 3)])]), (ePr pAdd [eC (.int 1), (ePr pMod [(ePr pDiv [eVar 0, eC (.int 5)]), eC (.int 3)])])]), (ePr pMod [(ePr pDiv [eVar 0, eC (.int 75)]), eC (.int 3)])]))))
  ((sSeq ((sSet 4 ((ePr pIx [(ePr pLst [eVar 3, eVar 3, eVar 3, (ePr pAdd [eC (.int 998), (ePr pMod [(ePr pDiv [eVar 0, eC (.int 5)]), eC (.int 4)])])]), (ePr pMod [(ePr pDiv [eVar 0, eC (.int 225)]), eC (.int 4)])]))))
  ((sSeq ((sIf ((eT (ePr pLt [eVar 2, eC (.int 2)])))
  ((sSet 5 ((eComp (itR1 [eVar 3]) (tgName 6) cYes ((ePr pIx [eVar 1, (ePr pMod [(eCall m__law_mixed [] [eVar 0, eVar 6]), eC (.int 26)])])) [6]))))
  ((sIf ((eT (ePr pEq [eVar 2, eC (.int 2)])))
  ((sSet 5 ((eComp (itR1 [eVar 4]) (tgName 6) cYes ((ePr pStr [(ePr pMod [(eCall m__law_mixed [] [eVar 0, eVar 6]), eC (.int 10)])])) [6]))))
  ((sIf ((eT (ePr pEq [eVar 2, eC (.int 3)])))
  ((sSet 5 ((ePr pAdd [(ePr pLst [eC (.str "-")]), (eComp (itR1 [eVar 4]) (tgName 6) cYes ((ePr pStr [(ePr pMod [(eCall m__law_mixed [] [eVar 0, eVar 6]), eC (.int 10)])])) [6])]))))
  ((sSet 5 ((eComp (itR1 [eVar 3]) (tgName 6) cYes ((ePr pIx [(eCall0 m__law_signs []), (ePr pMod [(eCall m__law_mixed [] [eVar 0, eVar 6]), eC (.int 94)])])) [6]))))))))))
  ((sSeq ((sIf ((bAnd ((eT (ePr pEq [(ePr pMod [(ePr pDiv [eVar 0, eC (.int 450)]), eC (.int 4)]), eC (.int 1)]))) ((eT (ePr pNe [eVar 5, (ePr pLst [])])))))
  ((sPut 5 pHere ((ePr pIx [eC (.str "0-A _\t\n9az+."), (ePr pMod [(ePr pDiv [eVar 0, eC (.int 1800)]), eC (.int 12)])])) ((ePr pMod [(ePr pDiv [eVar 0, eC (.int 1800)]), (ePr pLen [eVar 5])]))))
  (sNil)))
  ((sSeq ((sIf ((eT (ePr pEq [(ePr pMod [(ePr pDiv [eVar 0, eC (.int 450)]), eC (.int 4)]), eC (.int 2)])))
  ((sSet 5 ((ePr pAdd [(eSl pSl ((eSl pSl ((ePr pLst [eC (.str "0"), eC (.str "-"), eC (.str "00"), eC (.str "-0")])) ((oSome ((ePr pMod [(ePr pDiv [eVar 0, eC (.int 1800)]), eC (.int 4)])))) (oNone))) (oNone) ((oSome (eC (.int 1))))), eVar 5]))))
  (sNil)))
  ((sRet ((eM "str" pJoin (eC (.str "")) [eVar 5])))))))))))))))))
def m__law_text : List D → Ot D := bodyM 7 g__law_text
def g__law_line : Mst :=
  (sSeq ((sSet 1 ((eCall m__law_mixed [] [(eCall m__law_cell_at [] [eVar 0, eC (.int 1)]), eC (.int 3)]))))
  ((sSeq ((sSet 2 ((eComp (itV ((eSl pSl (eVar 0) ((oSome (eC (.int 2)))) ((oSome ((ePr pAdd [eC (.int 2), (ePr pMod [eVar 1, eC (.int 7)])]))))))) (tgName 7) cYes ((eCall m__law_text [] [(eCall m__law_mixed [] [eVar 7, eC (.int 50)])])) [7]))))
  ((sSeq ((sSet 3 ((ePr pMul [(ePr pLst [eC (.str " ")]), (ePr pLen [eVar 2])]))))
  ((sSeq ((sIf ((eT (ePr pNe [eVar 2, (ePr pLst [])])))
  ((sPut 3 pHere ((ePr pIx [(ePr pLst [eC (.str " "), eC (.str "  "), eC (.str ""), eC (.str "\t"), eC (.str "\n"), eC (.str " ")]), (ePr pMod [(ePr pDiv [eVar 1, eC (.int 42)]), eC (.int 6)])])) ((ePr pMod [(ePr pDiv [eVar 1, eC (.int 7)]), (ePr pLen [eVar 2])]))))
  (sNil)))
  ((sSeq ((sSet 4 (eC (.str ""))))
  ((sSeq ((sFz 3 (sFz 2 (sFor (itZip [eVar 2, eVar 3]) (tgTup [(tgName 5), (tgName 6)])
  ((sSet 4 ((ePr pAdd [(ePr pAdd [eVar 4, (eIf ((eT (ePr pNe [eVar 4, eC (.str "")]))) (eVar 6) (eC (.str "")))]), eVar 5]))))))))
  ((sRet ((ePr pAdd [eVar 4, (ePr pIx [(ePr pLst [eC (.str ""), eC (.str " ")]), (ePr pInt4 [(ePr pEq [(ePr pMod [(ePr pDiv [eVar 1, eC (.int 252)]), eC (.int 9)]), eC (.int 1)])])])])))))))))))))))
def m__law_line : List D → Ot D := bodyM 8 g__law_line
def g__law_odd : Mst :=
  (sRetF ((ePr pIx [(ePr pLst [eC .non, eC (.bl true), eC (.bl false), eC (.int 5), (ePr pTup []), (ePr pLst [eC (.str "a")]), (ePr pTup [eC (.str "a")]), eC (.nd (.dct .own []) []), (ePr pLst []), (ePr pNeg [eC (.int 3)])]), (ePr pMod [eVar 0, eC (.int 10)])])))
def m__law_odd : List D → Ot D := bodyM 1 g__law_odd
def g_are_signs : Mst :=
  (sRet ((ePr pAll [(eComp (itV (eVar 0)) (tgName 2) cYes ((ePr pIn [eVar 2, eVar 1])) [2])])))
def m_are_signs : List D → Ot D := bodyM 3 g_are_signs
def g_number_of : Mst :=
  (sSeq ((sIf ((bOr ((bNot ((eT ((eIsi (nbTy "str") (fun _ => none) (eVar 0))))))) ((bOr ((bNot ((eT ((eChain pLe pLe (eC (.int 1)) ((ePr pLen [eVar 0])) (eC (.int 1000)))))))) ((bNot ((eT ((eCall m_are_signs [] [eVar 0, eC (.str "0123456789")]))))))))))
  ((sRet (eC .non)))
  (sNil)))
  ((sSeq ((sIf ((bAnd ((eT (ePr pEq [(ePr pIx [eVar 0, eC (.int 0)]), eC (.str "0")]))) ((eT (ePr pNe [eVar 0, eC (.str "0")])))))
  ((sRet (eC .non)))
  (sNil)))
  ((sRet ((ePr pInt4 [eVar 0])))))))
def m_number_of : List D → Ot D := bodyM 1 g_number_of
def g_is_name : Mst :=
  (sRet ((eAnd ((eIsi (nbTy "str") (fun _ => none) (eVar 0))) ((eAnd ((eChain pLe pLe (eC (.int 1)) ((ePr pLen [eVar 0])) (eC (.int 12)))) ((eCall m_are_signs [] [eVar 0, eC (.str "abcdefghijklmnopqrstuvwxyz")])))))))
def m_is_name : List D → Ot D := bodyM 1 g_is_name
def g__law_great : Mst :=
  (sSeq ((sSet 2 (eC (.int 0))))
  ((sSeq ((sFor (itR1 [eC (.int 8)]) (tgName 3)
  ((sSet 2 ((ePr pAdd [(ePr pMul [eVar 2, eC (.int 2147483648)]), (eCall m__law_mixed [] [eVar 0, (ePr pAdd [(ePr pMul [eC (.int 8), eVar 1]), eVar 3])])]))))))
  ((sRetV 2)))))
def m__law_great : List D → Ot D := bodyM 4 g__law_great
def g__law_alike : Mst :=
  (sSeq ((sIf ((bOr ((eT (ePr pNe [(eIsi (nbTy "bool") (fun _ => none) (eVar 0)), (eIsi (nbTy "bool") (fun _ => none) (eVar 1))]))) ((eT (ePr pNe [(eIsi (nbTy "int") (fun _ => none) (eVar 0)), (eIsi (nbTy "int") (fun _ => none) (eVar 1))])))))
  ((sRet (eC (.bl false))))
  (sNil)))
  ((sRet ((ePr pEq [eVar 0, eVar 1])))))
def m__law_alike : List D → Ot D := bodyM 2 g__law_alike
def g__law_is_name : Mst :=
  (sSeq ((sIf ((bOr ((bNot ((eT ((eIsi (nbTy "str") (fun _ => none) (eVar 0))))))) ((bNot ((eT ((eChain pLe pLe (eC (.int 1)) ((ePr pLen [eVar 0])) (eC (.int 12))))))))))
  ((sRet (eC (.bl false))))
  (sNil)))
  ((sRet ((ePr pEq [(eComp (itV (eVar 0)) (tgName 1) (eT (ePr pNotIn [eVar 1, eC (.str "abcdefghijklmnopqrstuvwxyz")])) (eVar 1) [1]), (ePr pLst [])])))))
def m__law_is_name : List D → Ot D := bodyM 2 g__law_is_name
def g__law_number_of : Mst :=
  (sSeq ((sIf ((bNot ((eT ((eIsi (nbTy "str") (fun _ => none) (eVar 0)))))))
  ((sRet (eC .non)))
  (sNil)))
  ((sSeq ((sIf ((bOr ((bNot ((eT ((eChain pLe pLe (eC (.int 1)) ((ePr pLen [eVar 0])) (eC (.int 1000)))))))) ((eT (ePr pNe [(eComp (itV (eVar 0)) (tgName 2) (eT (ePr pNotIn [eVar 2, eC (.str "0123456789")])) (eVar 2) [2]), (ePr pLst [])])))))
  ((sRet (eC .non)))
  (sNil)))
  ((sSeq ((sIf ((bAnd ((eT (ePr pEq [(ePr pIx [eVar 0, eC (.int 0)]), eC (.str "0")]))) ((eT (ePr pNe [eVar 0, eC (.str "0")])))))
  ((sRet (eC .non)))
  (sNil)))
  ((sSeq ((sSet 1 (eC (.int 0))))
  ((sSeq ((sFz 0 (sFor (itV (eVar 0)) (tgName 2)
  ((sSet 1 ((ePr pAdd [(ePr pMul [eC (.int 10), eVar 1]), (eM "str" pSIdx (eC (.str "0123456789")) [eVar 2])])))))))
  ((sRetV 1)))))))))))
def m__law_number_of : List D → Ot D := bodyM 3 g__law_number_of
def g_is_whole : Mst :=
  (sRet ((eAnd ((eIsi (nbTy "int") (fun _ => none) (eVar 0))) ((eNot ((eIsi (nbTy "bool") (fun _ => none) (eVar 0))))))))
def m_is_whole : List D → Ot D := bodyM 1 g_is_whole
def g_is_among : Mst :=
  (sRet ((eAnd ((eCall m_is_whole [] [eVar 0])) ((eChain pLe pLe (eVar 1) (eVar 0) (eVar 2))))))
def m_is_among : List D → Ot D := bodyM 3 g_is_among
def g__law_asked : Mst :=
  (sSeq ((sIf ((eT (ePr pEq [eVar 0, eC (.int 0)])))
  ((sRet ((eCall m__law_alike [] [(eCall m_is_name [] [eVar 1]), (eCall m__law_is_name [] [eVar 1])]))))
  (sNil)))
  ((sSeq ((sIf ((eT (ePr pEq [eVar 0, eC (.int 1)])))
  ((sRet ((eCall m__law_alike [] [(eCall m_number_of [] [eVar 1]), (eCall m__law_number_of [] [eVar 1])]))))
  (sNil)))
  ((sSeq ((sSet 4 ((eAnd ((eIsi (nbTy "int") (fun _ => none) (eVar 1))) ((eNot ((eIsi (nbTy "bool") (fun _ => none) (eVar 1)))))))))
  ((sSeq ((sIf ((eT (ePr pEq [eVar 0, eC (.int 2)])))
  ((sRet ((eCall m__law_alike [] [(eCall m_is_whole [] [eVar 1]), eVar 4]))))
  (sNil)))
  ((sRet ((eCall m__law_alike [] [(eCall m_is_among [] [eVar 1, eVar 2, eVar 3]), (eAnd (eVar 4) ((eAnd ((ePr pLe [eVar 2, eVar 1])) ((ePr pLe [eVar 1, eVar 3])))))])))))))))))
def m__law_asked : List D → Ot D := bodyM 5 g__law_asked
def g_number_text : Mst :=
  (sRet ((ePr pStr [eVar 0])))
def m_number_text : List D → Ot D := bodyM 1 g_number_text
def g__law_number_good : Mst :=
  (sSeq ((sSet 1 ((eCall m_number_text [] [eVar 0]))))
  ((sSeq ((sSet 2 ((ePr pLst []))))
  ((sSeq ((sSet 3 (eVar 0)))
  ((sSeq ((sWhile ((bOr ((eT (ePr pGt [eVar 3, eC (.int 0)]))) ((eT (ePr pEq [eVar 2, (ePr pLst [])])))))
  ((sSeq ((sMut 2 pHere mApp (eL [(ePr pIx [eC (.str "0123456789"), (ePr pMod [eVar 3, eC (.int 10)])])])))
  ((sSet 3 ((ePr pDiv [eVar 3, eC (.int 10)]))))))))
  ((sSeq ((sSet 4 ((eM "str" pJoinRev (eC (.str "")) [eVar 2]))))
  ((sRet ((eAnd ((eIsi (nbTy "str") (fun _ => none) (eVar 1))) ((eAnd ((ePr pEq [eVar 1, eVar 4])) ((eCall m__law_alike [] [(eCall m_number_of [] [eVar 1]), eVar 0])))))))))))))))))
def m__law_number_good : List D → Ot D := bodyM 5 g__law_number_good
def g_law : Mst :=
  (sSeq ((sIf ((bOr ((bNot ((eT ((eCall m__law_line_good [] [(eCall m__law_line [] [eVar 0])])))))) ((eT (ePr pIsN [(eCall m_words_of [] [(eCall m__law_odd [] [(eCall m__law_cell_at [] [eVar 0, eC (.int 0)])])]), eC .non])))))
  ((sRet (eC (.bl false))))
  (sNil)))
  ((sSeq ((sIf ((eT (ePr pNe [(eComp (itV ((ePr pTup [(ePr pMul [eC (.str "9"), eC (.int 1001)]), (ePr pMul [eC (.str "9"), eC (.int 5000)]), (ePr pMul [eC (.str "0"), eC (.int 5000)])]))) (tgName 9) (bOr ((eT (ePr pIsN [(eCall m_number_of [] [eVar 9]), eC .non]))) ((eT ((eCall m_is_name [] [eVar 9]))))) (eVar 9) [9]), (ePr pLst [])])))
  ((sRet (eC (.bl false))))
  (sNil)))
  ((sSeq ((sFor (itR2 [eC (.int 2), (ePr pMax [eC (.int 3), (ePr pMin [(ePr pLen [eVar 0]), eC (.int 63)])])]) (tgName 1)
  ((sSeq ((sSet 2 ((eCall m__law_mixed [] [(eCall m__law_cell_at [] [eVar 0, eVar 1]), eVar 1]))))
  ((sSeq ((sSet 3 ((ePr pSub [(ePr pMod [eVar 2, eC (.int 41)]), eC (.int 20)]))))
  ((sSeq ((sIf ((eT (ePr pEq [(ePr pMod [(ePr pDiv [eVar 2, eC (.int 41)]), eC (.int 2)]), eC (.int 1)])))
  ((sSet 3 ((ePr pMul [(ePr pMod [(ePr pSub [(eCall m__law_great [] [eVar 2, eC (.int 1)]), (eCall m__law_great [] [eVar 2, eC (.int 2)])]), (ePr pPow [eC (.int 10), eC (.int 61)])]), (ePr pIx [(ePr pLst [eC (.int 1), (ePr pNeg [eC (.int 1)])]), (ePr pMod [(ePr pDiv [eVar 2, eC (.int 500)]), eC (.int 2)])])]))))
  (sNil)))
  ((sSeq ((sSet 4 ((ePr pLst [(ePr pTup [eVar 3, (ePr pAdd [eVar 3, (ePr pMod [eVar 2, eC (.int 3)])])]), (ePr pTup [(ePr pAdd [eVar 3, eC (.int 1)]), (ePr pAdd [eVar 3, eC (.int 5)])]), (ePr pTup [(ePr pNeg [eC (.int 5)]), eC (.int 5)]), (ePr pTup [eC (.int 5), eC (.int 4)])]))))
  ((sSeq ((sTgt ((ePr pIx [eVar 4, (ePr pMod [(ePr pDiv [eVar 2, eC (.int 82)]), eC (.int 4)])])) (tgTup [(tgName 6), (tgName 7)])))
  ((sSeq ((sFor (itV ((ePr pLst [(eCall m__law_text [] [eVar 2]), eVar 3, (eCall m__law_odd [] [(ePr pDiv [eVar 2, eC (.int 7)])])]))) (tgName 5)
  ((sFor (itR1 [eC (.int 4)]) (tgName 8)
  ((sIf ((bNot ((eT ((eCall m__law_asked [] [(ePr pMod [(ePr pAdd [(ePr pMul [eVar 8, (ePr pIx [(ePr pLst [eC (.int 1), eC (.int 3)]), (ePr pMod [(ePr pDiv [eVar 2, eC (.int 9)]), eC (.int 2)])])]), eVar 2]), eC (.int 4)]), eVar 5, eVar 6, eVar 7]))))))
  ((sRet (eC (.bl false))))
  (sNil)))))))
  ((sIf ((bNot ((eT ((eCall m__law_number_good [] [(ePr pAbs [eVar 3])]))))))
  ((sRet (eC (.bl false))))
  (sNil)))))))))))))))))
  ((sRet (eC (.bl true)))))))))
def m_law : List D → Ot D := bodyM 10 g_law
end
structure Txt (K : PySem.W.Frag) (mg : Str → Option Value) : Prop where
  c_MOST_FIGURES : ∃ t, mg "MOST_FIGURES" = some (.int 1000 t)
  c_FIGURES : ∃ t, mg "FIGURES" = some (.str "0123456789" t)
  c_MOST_LETTERS : ∃ t, mg "MOST_LETTERS" = some (.int 12 t)
  c_LETTERS : ∃ t, mg "LETTERS" = some (.str "abcdefghijklmnopqrstuvwxyz" t)
  n_isinstance : mg "isinstance" = none
  n_str : mg "str" = none
  n_range : mg "range" = none
  n_list : mg "list" = none
  n_len : mg "len" = none
  n_zip : mg "zip" = none
  n_int : mg "int" = none
  n_all : mg "all" = none
  n_bool : mg "bool" = none
  n_reversed : mg "reversed" = none
  n_min : mg "min" = none
  n_max : mg "max" = none
  n_abs : mg "abs" = none
  dig : PySem.W.nsIn K cStatics "sys.int_max_str_digits" = some none
section
variable {w : World} {K : PySem.W.Frag} {mg : Str → Option Value} {base : Heap} {cm : Cm} {f : Addr} {fd : FuncData}
abbrev s_words_of : Stmt := top 11
abbrev N_words_of : List Str := ["line", "words"]
theorem sc_words_of : FnScope N_words_of ["line"] (defScope s_words_of) := ⟨rfl, rfl, rfl, by decide +kernel, rfl, by decide +kernel, by decide +kernel⟩
theorem ok_words_of (T : Txt K mg) (F : Fun K "words_of" "words_of" s_words_of f fd) : FnOk P0 w K mg base (L2.CX P0 w) 1 f fd ["line"] (spP K cm 1 m_words_of) := by
  refine fn_pure F sc_words_of (by decide) fun cdv A outer s H E hr => ?_
  exact (sb_cons (ss_if (st_not (st_val (s_isiT rfl T.n_isinstance (by decide +kernel) (s_var (pv 0)) (pe_bltn (v := .ty "str") rfl T.n_str (by decide +kernel) rfl))))
    (sb_one (ss_ret s_non))
    sb_nil)
    (sb_cons (ss_set (by rfl) (ps_set (i := 1) sc_words_of.nd rfl (by first | exact Or.inl rfl | exact Or.inr rfl) (s_bm PySem.F.plainAttrs_str PySem.F.slot_str_split PySem.F.type_str_split L2.mt_split ok_split (s_var (pv 0)) (sa_cons s_str sa_nil))))
    (sb_cons (ss_if (st_cmp (op_in3 (hu_of hr)) ok_in s_str (s_var (pv 1)) rfl)
    (sb_one (ss_ret s_non))
    sb_nil)
    (sb_one (ss_retV (by rfl) (pv 1))))))
abbrev s__law_line_good : Stmt := top 25
abbrev N__law_line_good : List Str := ["_law_line_here", "_law_due", "_law_turn", "_law_found"]
theorem sc__law_line_good : FnScope N__law_line_good ["_law_line_here"] (defScope s__law_line_good) := ⟨rfl, rfl, rfl, by decide +kernel, rfl, by decide +kernel, by decide +kernel⟩
theorem ok__law_line_good (T : Txt K mg) (F : Fun K "_law_line_good" "_law_line_good" s__law_line_good f fd) (G_words_of : Good P0 w K mg base cm "words_of" 1 1 m_words_of) : FnOk P0 w K mg base (L2.CX P0 w) 2 f fd ["_law_line_here"] (spP K cm 1 m__law_line_good) := by
  refine fn_pure F sc__law_line_good (by decide) fun cdv A outer s H E hr => ?_
  exact (sb_cons (ss_set (by rfl) (ps_set (i := 1) sc__law_line_good.nd rfl (by first | exact Or.inl rfl | exact Or.inr rfl) (s_bm PySem.F.plainAttrs_str PySem.F.slot_str_split PySem.F.type_str_split L2.mt_split ok_split (s_var (pv 0)) (sa_cons s_str sa_nil))))
    (sb_cons (ss_if (st_cmp (op_in3 (hu_of hr)) ok_in s_str (s_var (pv 1)) rfl)
    (sb_one (ss_ret (s_cmp op_isQ ok_is (s_callG (takes_of rfl rfl rfl rfl) G_words_of hr (by decide) (by rfl) (by rfl) (sa_cons (s_var (pv 0)) sa_nil)) s_non (nomark _))))
    sb_nil)
    (sb_cons (ss_for (S := [2]) (passes_of rfl) rfl (si_r1 rfl T.n_range (sa_cons s_int sa_nil)) (pg_name (i := 2) sc__law_line_good.nd rfl (by first | exact Or.inl rfl | exact Or.inr rfl)) okTg_name (by rfl)
    (sb_cons (ss_set (by rfl) (ps_set (i := 3) sc__law_line_good.nd rfl (by first | exact Or.inl rfl | exact Or.inr rfl) (s_callG (takes_of rfl rfl rfl rfl) G_words_of hr (by decide) (by rfl) (by rfl) (sa_cons (s_var (pv 0)) sa_nil))))
    (sb_cons (ss_if (st_w (sw_or (st_not (st_val (s_isiT rfl T.n_isinstance (by decide +kernel) (s_var (pv 3)) (pe_bltn (v := .ty "list") rfl T.n_list (by decide +kernel) rfl)))) (sw_or1 (st_cmp (op_neQ hr.units) ok_ne (s_var (pv 3)) (s_var (pv 1)) (nomark _)))))
    (sb_one (ss_ret s_bl))
    sb_nil)
    (sb_one (ss_mut PySem.F.slot_list_append PySem.F.type_list_append mt_append mut_append (sp_name (pv 3)) (sa_cons s_str sa_nil))))))
    (sb_one (ss_ret s_bl)))))
abbrev s__law_mixed : Stmt := top 14
abbrev N__law_mixed : List Str := ["_law_cell", "_law_k"]
theorem sc__law_mixed : FnScope N__law_mixed ["_law_cell", "_law_k"] (defScope s__law_mixed) := ⟨rfl, rfl, rfl, by decide +kernel, rfl, by decide +kernel, by decide +kernel⟩
theorem ok__law_mixed (T : Txt K mg) (F : Fun K "_law_mixed" "_law_mixed" s__law_mixed f fd) : FnOk P0 w K mg base (L2.CX P0 w) 1 f fd ["_law_cell", "_law_k"] (spP K cm 2 m__law_mixed) := by
  refine fn_pure F sc__law_mixed (by decide) fun cdv A outer s H E hr => ?_
  exact (sb_one (ss_ret (s_op op_modD ok_mod (s_op op_mul3 ok_mul (s_op op_powD ok_pow (s_op op_add4 ok_add (s_op op_add4 ok_add (s_var (pv 0)) (s_op op_mul3 ok_mul s_int (s_var (pv 1)))) s_int) s_int) s_int) s_int)))
abbrev s__law_cell_at : Stmt := top 13
abbrev N__law_cell_at : List Str := ["_law_script", "_law_k"]
theorem sc__law_cell_at : FnScope N__law_cell_at ["_law_script", "_law_k"] (defScope s__law_cell_at) := ⟨rfl, rfl, rfl, by decide +kernel, rfl, by decide +kernel, by decide +kernel⟩
theorem ok__law_cell_at (T : Txt K mg) (F : Fun K "_law_cell_at" "_law_cell_at" s__law_cell_at f fd) : FnOk P0 w K mg base (L2.CX P0 w) 1 f fd ["_law_script", "_law_k"] (spP K cm 2 m__law_cell_at) := by
  refine fn_pure F sc__law_cell_at (by decide) fun cdv A outer s H E hr => ?_
  exact (sb_cons (ss_if (st_cmp op_lt ok_lt (s_var (pv 1)) (s_callB call_len2 ok_len rfl T.n_len (by decide +kernel) (sa_cons (s_var (pv 0)) sa_nil)) (nomark _))
    (sb_one (ss_retF (s_ix (ix_4 (hu_of hr)) ok_ix (s_var (pv 0)) (s_var (pv 1)))))
    sb_nil)
    (sb_one (ss_ret s_int)))
abbrev s__law_signs : Stmt := top 16
abbrev N__law_signs : List Str := ["_law_some"]
theorem sc__law_signs : FnScope N__law_signs [] (defScope s__law_signs) := ⟨rfl, rfl, rfl, by decide +kernel, rfl, by decide +kernel, by decide +kernel⟩
theorem ok__law_signs (T : Txt K mg) (F : Fun K "_law_signs" "_law_signs" s__law_signs f fd) : FnOk P0 w K mg base (L2.CX P0 w) 1 f fd [] (spP K cm 0 m__law_signs) := by
  refine fn_pure F sc__law_signs (by decide) fun cdv A outer s H E hr => ?_
  exact (sb_cons (ss_set (by rfl) (ps_set (i := 0) sc__law_signs.nd rfl (by first | exact Or.inl rfl | exact Or.inr rfl) s_str))
    (sb_one (ss_ret (s_op op_add4 ok_add (s_var (pv 0)) s_str))))
abbrev s__law_text : Stmt := top 17
abbrev N__law_text : List Str := ["_law_cell", "_law_letters", "_law_way", "_law_size", "_law_long", "_law_word", "_law_j"]
theorem sc__law_text : FnScope N__law_text ["_law_cell"] (defScope s__law_text) := ⟨rfl, rfl, rfl, by decide +kernel, rfl, by decide +kernel, by decide +kernel⟩
theorem ok__law_text (T : Txt K mg) (F : Fun K "_law_text" "_law_text" s__law_text f fd) (G__law_mixed : Good P0 w K mg base cm "_law_mixed" 2 1 m__law_mixed) (G__law_signs : Good P0 w K mg base cm "_law_signs" 0 1 m__law_signs) : FnOk P0 w K mg base (L2.CX P0 w) 2 f fd ["_law_cell"] (spP K cm 1 m__law_text) := by
  refine fn_pure F sc__law_text (by decide) fun cdv A outer s H E hr => ?_
  exact (sb_cons (ss_set (by rfl) (ps_set (i := 1) sc__law_text.nd rfl (by first | exact Or.inl rfl | exact Or.inr rfl) s_str))
    (sb_cons (ss_set (by rfl) (ps_set (i := 2) sc__law_text.nd rfl (by first | exact Or.inl rfl | exact Or.inr rfl) (s_op op_modD ok_mod (s_var (pv 0)) s_int)))
    (sb_cons (ss_set (by rfl) (ps_set (i := 3) sc__law_text.nd rfl (by first | exact Or.inl rfl | exact Or.inr rfl) (s_ix (ix_4 (hu_of hr)) ok_ix (s_lst (sa_cons (s_op op_modD ok_mod (s_op op_divD ok_div (s_var (pv 0)) s_int) s_int) (sa_cons (s_op op_add4 ok_add s_int (s_op op_modD ok_mod (s_op op_divD ok_div (s_var (pv 0)) s_int) s_int)) (sa_cons (s_op op_add4 ok_add s_int (s_op op_modD ok_mod (s_op op_divD ok_div (s_var (pv 0)) s_int) s_int)) sa_nil)))) (s_op op_modD ok_mod (s_op op_divD ok_div (s_var (pv 0)) s_int) s_int))))
    (sb_cons (ss_set (by rfl) (ps_set (i := 4) sc__law_text.nd rfl (by first | exact Or.inl rfl | exact Or.inr rfl) (s_ix (ix_4 (hu_of hr)) ok_ix (s_lst (sa_cons (s_var (pv 3)) (sa_cons (s_var (pv 3)) (sa_cons (s_var (pv 3)) (sa_cons (s_op op_add4 ok_add s_int (s_op op_modD ok_mod (s_op op_divD ok_div (s_var (pv 0)) s_int) s_int)) sa_nil))))) (s_op op_modD ok_mod (s_op op_divD ok_div (s_var (pv 0)) s_int) s_int))))
    (sb_cons (ss_if (st_cmp op_lt ok_lt (s_var (pv 2)) s_int (nomark _))
    (sb_one (ss_setC (i := 5) (by rfl) rfl rfl (sw_true rfl rfl rfl (by decide +kernel)) (own := [("_law_j", 6)]) (by rfl) sc__law_text.nd (si_r1 rfl T.n_range (sa_cons (s_var (pv 3)) sa_nil)) (blkOk_by (N := N__law_text) (sc := defScope s__law_text) (own := [("_law_j", 6)]) (by decide +kernel)) (by rfl) okTg_name (fun _ _ _ _ _ => (pg_name (i := 6) sc__law_text.nd rfl (by first | exact Or.inl rfl | exact Or.inr rfl))) (fun _ _ _ _ _ => pts_nil) yes_T (fun _ _ _ _ _ => (s_ix (ix_4 (hu_of hr)) ok_ix (s_var (pv 1)) (s_op op_modD ok_mod (s_callG takes0 G__law_mixed hr (by decide) (by rfl) (by rfl) (sa_cons (s_var (pv 0)) (sa_cons (s_var (pv 6)) sa_nil))) s_int)))))
    (sb_one (ss_if (st_cmp (op_eqQ hr.units) ok_eq (s_var (pv 2)) s_int (nomark _))
    (sb_one (ss_setC (i := 5) (by rfl) rfl rfl (sw_true rfl rfl rfl (by decide +kernel)) (own := [("_law_j", 6)]) (by rfl) sc__law_text.nd (si_r1 rfl T.n_range (sa_cons (s_var (pv 4)) sa_nil)) (blkOk_by (N := N__law_text) (sc := defScope s__law_text) (own := [("_law_j", 6)]) (by decide +kernel)) (by rfl) okTg_name (fun _ _ _ _ _ => (pg_name (i := 6) sc__law_text.nd rfl (by first | exact Or.inl rfl | exact Or.inr rfl))) (fun _ _ _ _ _ => pts_nil) yes_T (fun _ _ _ _ _ => (s_callTy call_str_int ok_str rfl T.n_str (by decide +kernel) (sa_cons (s_op op_modD ok_mod (s_callG takes0 G__law_mixed hr (by decide) (by rfl) (by rfl) (sa_cons (s_var (pv 0)) (sa_cons (s_var (pv 6)) sa_nil))) s_int) sa_nil)))))
    (sb_one (ss_if (st_cmp (op_eqQ hr.units) ok_eq (s_var (pv 2)) s_int (nomark _))
    (sb_one (ss_set (by rfl) (ps_set (i := 5) sc__law_text.nd rfl (by first | exact Or.inl rfl | exact Or.inr rfl) (s_op op_add4 ok_add (s_lst (sa_cons s_str sa_nil)) (s_comp (own := [("_law_j", 6)]) (by rfl) sc__law_text.nd (si_r1 rfl T.n_range (sa_cons (s_var (pv 4)) sa_nil)) (blkOk_by (N := N__law_text) (sc := defScope s__law_text) (own := [("_law_j", 6)]) (by decide +kernel)) (by rfl) okTg_name (fun _ _ _ _ _ => (pg_name (i := 6) sc__law_text.nd rfl (by first | exact Or.inl rfl | exact Or.inr rfl))) (fun _ _ _ _ _ => pts_nil) yes_T (fun _ _ _ _ _ => (s_callTy call_str_int ok_str rfl T.n_str (by decide +kernel) (sa_cons (s_op op_modD ok_mod (s_callG takes0 G__law_mixed hr (by decide) (by rfl) (by rfl) (sa_cons (s_var (pv 0)) (sa_cons (s_var (pv 6)) sa_nil))) s_int) sa_nil))))))))
    (sb_one (ss_setC (i := 5) (by rfl) rfl rfl (sw_true rfl rfl rfl (by decide +kernel)) (own := [("_law_j", 6)]) (by rfl) sc__law_text.nd (si_r1 rfl T.n_range (sa_cons (s_var (pv 3)) sa_nil)) (blkOk_by (N := N__law_text) (sc := defScope s__law_text) (own := [("_law_j", 6)]) (by decide +kernel)) (by rfl) okTg_name (fun _ _ _ _ _ => (pg_name (i := 6) sc__law_text.nd rfl (by first | exact Or.inl rfl | exact Or.inr rfl))) (fun _ _ _ _ _ => pts_nil) yes_T (fun _ _ _ _ _ => (s_ix (ix_4 (hu_of hr)) ok_ix (s_callG0 G__law_signs hr (by decide) (by rfl)) (s_op op_modD ok_mod (s_callG takes0 G__law_mixed hr (by decide) (by rfl) (by rfl) (sa_cons (s_var (pv 0)) (sa_cons (s_var (pv 6)) sa_nil))) s_int))))))))))
    (sb_cons (ss_if (st_w (sw_and (st_cmp (op_eqQ hr.units) ok_eq (s_op op_modD ok_mod (s_op op_divD ok_div (s_var (pv 0)) s_int) s_int) s_int (nomark _)) (sw_and1 (st_cmp (op_neQ hr.units) ok_ne (s_var (pv 5)) (s_lst sa_nil) (nomark _)))))
    (sb_one (ss_put (sp_name (pv 5)) (s_ix (ix_4 (hu_of hr)) ok_ix s_str (s_op op_modD ok_mod (s_op op_divD ok_div (s_var (pv 0)) s_int) s_int)) (s_op op_modD ok_mod (s_op op_divD ok_div (s_var (pv 0)) s_int) (s_callB call_len2 ok_len rfl T.n_len (by decide +kernel) (sa_cons (s_var (pv 5)) sa_nil)))))
    sb_nil)
    (sb_cons (ss_if (st_cmp (op_eqQ hr.units) ok_eq (s_op op_modD ok_mod (s_op op_divD ok_div (s_var (pv 0)) s_int) s_int) s_int (nomark _))
    (sb_one (ss_set (by rfl) (ps_set (i := 5) sc__law_text.nd rfl (by first | exact Or.inl rfl | exact Or.inr rfl) (s_op op_add4 ok_add (s_slice sl_3 ok_sl (s_slice sl_3 ok_sl (s_lst (sa_cons s_str (sa_cons s_str (sa_cons s_str (sa_cons s_str sa_nil))))) (so_some (s_op op_modD ok_mod (s_op op_divD ok_div (s_var (pv 0)) s_int) s_int)) so_none) so_none (so_some s_int)) (s_var (pv 5))))))
    sb_nil)
    (sb_one (ss_ret (s_bm PySem.F.plainAttrs_str PySem.F.slot_str_join PySem.F.type_str_join mt_join ok_join s_str (sa_cons (s_var (pv 5)) sa_nil)))))))))))
abbrev s__law_line : Stmt := top 24
abbrev N__law_line : List Str := ["_law_script", "_law_cell", "_law_words", "_law_between", "_law_line_here", "_law_word", "_law_blank", "_law_one"]
theorem sc__law_line : FnScope N__law_line ["_law_script"] (defScope s__law_line) := ⟨rfl, rfl, rfl, by decide +kernel, rfl, by decide +kernel, by decide +kernel⟩
theorem ok__law_line (T : Txt K mg) (F : Fun K "_law_line" "_law_line" s__law_line f fd) (G__law_mixed : Good P0 w K mg base cm "_law_mixed" 2 1 m__law_mixed) (G__law_cell_at : Good P0 w K mg base cm "_law_cell_at" 2 1 m__law_cell_at) (G__law_text : Good P0 w K mg base cm "_law_text" 1 2 m__law_text) : FnOk P0 w K mg base (L2.CX P0 w) 3 f fd ["_law_script"] (spP K cm 1 m__law_line) := by
  refine fn_pure F sc__law_line (by decide) fun cdv A outer s H E hr => ?_
  exact (sb_cons (ss_set (by rfl) (ps_set (i := 1) sc__law_line.nd rfl (by first | exact Or.inl rfl | exact Or.inr rfl) (s_callG (takes_of rfl rfl rfl rfl) G__law_mixed hr (by decide) (by rfl) (by rfl) (sa_cons (s_callG (takes_of rfl rfl rfl rfl) G__law_cell_at hr (by decide) (by rfl) (by rfl) (sa_cons (s_var (pv 0)) (sa_cons s_int sa_nil))) (sa_cons s_int sa_nil)))))
    (sb_cons (ss_setC (i := 2) (by rfl) rfl rfl (sw_true rfl rfl rfl (by decide +kernel)) (own := [("_law_one", 7)]) (by rfl) sc__law_line.nd (si_val (s_slice sl_3 ok_sl (s_var (pv 0)) (so_some s_int) (so_some (s_op op_add4 ok_add s_int (s_op op_modD ok_mod (s_var (pv 1)) s_int))))) (blkOk_by (N := N__law_line) (sc := defScope s__law_line) (own := [("_law_one", 7)]) (by decide +kernel)) (by rfl) okTg_name (fun _ _ _ _ _ => (pg_name (i := 7) sc__law_line.nd rfl (by first | exact Or.inl rfl | exact Or.inr rfl))) (fun _ _ _ _ _ => pts_nil) yes_T (fun _ _ _ _ _ => (s_callG takes0 G__law_text hr (by decide) (by rfl) (by rfl) (sa_cons (s_callG takes0 G__law_mixed hr (by decide) (by rfl) (by rfl) (sa_cons (s_var (pv 7)) (sa_cons s_int sa_nil))) sa_nil))))
    (sb_cons (ss_set (by rfl) (ps_set (i := 3) sc__law_line.nd rfl (by first | exact Or.inl rfl | exact Or.inr rfl) (s_op op_mul3 ok_mul (s_lst (sa_cons s_str sa_nil)) (s_callB call_len2 ok_len rfl T.n_len (by decide +kernel) (sa_cons (s_var (pv 2)) sa_nil)))))
    (sb_cons (ss_if (st_cmp (op_neQ hr.units) ok_ne (s_var (pv 2)) (s_lst sa_nil) (nomark _))
    (sb_one (ss_put (sp_name (pv 3)) (s_ix (ix_4 (hu_of hr)) ok_ix (s_lst (sa_cons s_str (sa_cons s_str (sa_cons s_str (sa_cons s_str (sa_cons s_str (sa_cons s_str sa_nil))))))) (s_op op_modD ok_mod (s_op op_divD ok_div (s_var (pv 1)) s_int) s_int)) (s_op op_modD ok_mod (s_op op_divD ok_div (s_var (pv 1)) s_int) (s_callB call_len2 ok_len rfl T.n_len (by decide +kernel) (sa_cons (s_var (pv 2)) sa_nil)))))
    sb_nil)
    (sb_cons (ss_set (by rfl) (ps_set (i := 4) sc__law_line.nd rfl (by first | exact Or.inl rfl | exact Or.inr rfl) s_str))
    (sb_cons (ss_fz 3 (ss_fz 2 (ss_for (S := [5, 6]) (passes_of rfl) rfl (si_zip rfl T.n_zip (sa_cons (s_var (pv 2)) (sa_cons (s_var (pv 3)) sa_nil))) (pg_tup (by rfl) (pgs_cons (pg_name (i := 5) sc__law_line.nd rfl (by first | exact Or.inl rfl | exact Or.inr rfl)) (pgs_cons (pg_name (i := 6) sc__law_line.nd rfl (by first | exact Or.inl rfl | exact Or.inr rfl)) pgs_nil))) (okTg_tup (n := 2) rfl (okTgs_cons okTg_name (okTgs_cons okTg_name okTgs_nil))) (by rfl)
    (sb_one (ss_set (by rfl) (ps_set (i := 4) sc__law_line.nd rfl (by first | exact Or.inl rfl | exact Or.inr rfl) (s_op op_add4 ok_add (s_op op_add4 ok_add (s_var (pv 4)) (s_ifExp (st_cmp (op_neQ hr.units) ok_ne (s_var (pv 4)) s_str (nomark _)) (s_var (pv 6)) s_str)) (s_var (pv 5)))))))))
    (sb_one (ss_ret (s_op op_add4 ok_add (s_var (pv 4)) (s_ix (ix_4 (hu_of hr)) ok_ix (s_lst (sa_cons s_str (sa_cons s_str sa_nil))) (s_callTy (call_int4 T.dig) ok_int4 rfl T.n_int (by decide +kernel) (sa_cons (s_cmp (op_eqQ hr.units) ok_eq (s_op op_modD ok_mod (s_op op_divD ok_div (s_var (pv 1)) s_int) s_int) s_int (nomark _)) sa_nil))))))))))))
abbrev s__law_odd : Stmt := top 18
abbrev N__law_odd : List Str := ["_law_cell"]
theorem sc__law_odd : FnScope N__law_odd ["_law_cell"] (defScope s__law_odd) := ⟨rfl, rfl, rfl, by decide +kernel, rfl, by decide +kernel, by decide +kernel⟩
theorem ok__law_odd (T : Txt K mg) (F : Fun K "_law_odd" "_law_odd" s__law_odd f fd) : FnOk P0 w K mg base (L2.CX P0 w) 1 f fd ["_law_cell"] (spP K cm 1 m__law_odd) := by
  refine fn_pure F sc__law_odd (by decide) fun cdv A outer s H E hr => ?_
  exact (sb_one (ss_retF (s_ix (ix_4 (hu_of hr)) ok_ix (s_lst (sa_cons s_non (sa_cons s_bl (sa_cons s_bl (sa_cons s_int (sa_cons (s_tup sa_nil) (sa_cons (s_lst (sa_cons s_str sa_nil)) (sa_cons (s_tup (sa_cons s_str sa_nil)) (sa_cons s_dict0 (sa_cons (s_lst sa_nil) (sa_cons (s_un un_neg ok_neg s_int) sa_nil))))))))))) (s_op op_modD ok_mod (s_var (pv 0)) s_int))))
abbrev s_are_signs : Stmt := top 7
abbrev N_are_signs : List Str := ["text", "signs", "sign"]
theorem sc_are_signs : FnScope N_are_signs ["text", "signs"] (defScope s_are_signs) := ⟨rfl, rfl, rfl, by decide +kernel, rfl, by decide +kernel, by decide +kernel⟩
theorem ok_are_signs (T : Txt K mg) (F : Fun K "are_signs" "are_signs" s_are_signs f fd) : FnOk P0 w K mg base (L2.CX P0 w) 1 f fd ["text", "signs"] (spP K cm 2 m_are_signs) := by
  refine fn_pure F sc_are_signs (by decide) fun cdv A outer s H E hr => ?_
  exact (sb_one (ss_ret (s_callB (cr_all (by rfl)) ok_all rfl T.n_all (by decide +kernel) (sa_cons (s_comp (own := [("sign", 2)]) (by rfl) sc_are_signs.nd (si_val (s_var (pv 0))) (blkOk_by (N := N_are_signs) (sc := defScope s_are_signs) (own := [("sign", 2)]) (by decide +kernel)) (by rfl) okTg_name (fun _ _ _ _ _ => (pg_name (i := 2) sc_are_signs.nd rfl (by first | exact Or.inl rfl | exact Or.inr rfl))) (fun _ _ _ _ _ => pts_nil) yes_T (fun _ _ _ _ _ => (s_cmp (op_in3 (hu_of hr)) ok_in (s_var (pv 2)) (s_var (pv 1)) rfl))) sa_nil))))
abbrev s_number_of : Stmt := top 10
abbrev N_number_of : List Str := ["word"]
theorem sc_number_of : FnScope N_number_of ["word"] (defScope s_number_of) := ⟨rfl, rfl, rfl, by decide +kernel, rfl, by decide +kernel, by decide +kernel⟩
theorem ok_number_of (T : Txt K mg) (F : Fun K "number_of" "number_of" s_number_of f fd) (G_are_signs : Good P0 w K mg base cm "are_signs" 2 1 m_are_signs) : FnOk P0 w K mg base (L2.CX P0 w) 2 f fd ["word"] (spP K cm 1 m_number_of) := by
  obtain ⟨_, h_MOST_FIGURES⟩ := T.c_MOST_FIGURES
  obtain ⟨_, h_FIGURES⟩ := T.c_FIGURES
  refine fn_pure F sc_number_of (by decide) fun cdv A outer s H E hr => ?_
  exact (sb_cons (ss_if (st_w (sw_or (st_not (st_val (s_isiT rfl T.n_isinstance (by decide +kernel) (s_var (pv 0)) (pe_bltn (v := .ty "str") rfl T.n_str (by decide +kernel) rfl)))) (sw_or (st_not (st_chain op_le op_le ok_le ok_le s_int (s_callB call_len2 ok_len rfl T.n_len (by decide +kernel) (sa_cons (s_var (pv 0)) sa_nil)) (s_globI rfl h_MOST_FIGURES) (fun _ _ _ h => mid_le h))) (sw_or1 (st_not (st_val (s_callG (takes_of rfl rfl rfl rfl) G_are_signs hr (by decide) (by rfl) (by rfl) (sa_cons (s_var (pv 0)) (sa_cons (s_globS rfl h_FIGURES) sa_nil)))))))))
    (sb_one (ss_ret s_non))
    sb_nil)
    (sb_cons (ss_if (st_w (sw_and (st_cmp (op_eqQ hr.units) ok_eq (s_ix (ix_4 (hu_of hr)) ok_ix (s_var (pv 0)) s_int) s_str (nomark _)) (sw_and1 (st_cmp (op_neQ hr.units) ok_ne (s_var (pv 0)) s_str (nomark _)))))
    (sb_one (ss_ret s_non))
    sb_nil)
    (sb_one (ss_ret (s_callTy (call_int4 T.dig) ok_int4 rfl T.n_int (by decide +kernel) (sa_cons (s_var (pv 0)) sa_nil))))))
abbrev s_is_name : Stmt := top 8
abbrev N_is_name : List Str := ["thing"]
theorem sc_is_name : FnScope N_is_name ["thing"] (defScope s_is_name) := ⟨rfl, rfl, rfl, by decide +kernel, rfl, by decide +kernel, by decide +kernel⟩
theorem ok_is_name (T : Txt K mg) (F : Fun K "is_name" "is_name" s_is_name f fd) (G_are_signs : Good P0 w K mg base cm "are_signs" 2 1 m_are_signs) : FnOk P0 w K mg base (L2.CX P0 w) 2 f fd ["thing"] (spP K cm 1 m_is_name) := by
  obtain ⟨_, h_MOST_LETTERS⟩ := T.c_MOST_LETTERS
  obtain ⟨_, h_LETTERS⟩ := T.c_LETTERS
  refine fn_pure F sc_is_name (by decide) fun cdv A outer s H E hr => ?_
  exact (sb_one (ss_ret (s_and (s_isiT rfl T.n_isinstance (by decide +kernel) (s_var (pv 0)) (pe_bltn (v := .ty "str") rfl T.n_str (by decide +kernel) rfl)) (s_and (s_chain op_le op_le ok_le ok_le s_int (s_callB call_len2 ok_len rfl T.n_len (by decide +kernel) (sa_cons (s_var (pv 0)) sa_nil)) (s_globI rfl h_MOST_LETTERS) (fun _ _ _ h => mid_le h)) (s_one (s_callG (takes_of rfl rfl rfl rfl) G_are_signs hr (by decide) (by rfl) (by rfl) (sa_cons (s_var (pv 0)) (sa_cons (s_globS rfl h_LETTERS) sa_nil))))))))
abbrev s__law_great : Stmt := top 15
abbrev N__law_great : List Str := ["_law_cell", "_law_k", "_law_number", "_law_j"]
theorem sc__law_great : FnScope N__law_great ["_law_cell", "_law_k"] (defScope s__law_great) := ⟨rfl, rfl, rfl, by decide +kernel, rfl, by decide +kernel, by decide +kernel⟩
theorem ok__law_great (T : Txt K mg) (F : Fun K "_law_great" "_law_great" s__law_great f fd) (G__law_mixed : Good P0 w K mg base cm "_law_mixed" 2 1 m__law_mixed) : FnOk P0 w K mg base (L2.CX P0 w) 2 f fd ["_law_cell", "_law_k"] (spP K cm 2 m__law_great) := by
  refine fn_pure F sc__law_great (by decide) fun cdv A outer s H E hr => ?_
  exact (sb_cons (ss_set (by rfl) (ps_set (i := 2) sc__law_great.nd rfl (by first | exact Or.inl rfl | exact Or.inr rfl) s_int))
    (sb_cons (ss_for (S := [3]) (passes_of rfl) rfl (si_r1 rfl T.n_range (sa_cons s_int sa_nil)) (pg_name (i := 3) sc__law_great.nd rfl (by first | exact Or.inl rfl | exact Or.inr rfl)) okTg_name (by rfl)
    (sb_one (ss_set (by rfl) (ps_set (i := 2) sc__law_great.nd rfl (by first | exact Or.inl rfl | exact Or.inr rfl) (s_op op_add4 ok_add (s_op op_mul3 ok_mul (s_var (pv 2)) s_int) (s_callG (takes_of rfl rfl rfl rfl) G__law_mixed hr (by decide) (by rfl) (by rfl) (sa_cons (s_var (pv 0)) (sa_cons (s_op op_add4 ok_add (s_op op_mul3 ok_mul s_int (s_var (pv 1))) (s_var (pv 3))) sa_nil))))))))
    (sb_one (ss_retV (by rfl) (pv 2)))))
abbrev s__law_alike : Stmt := top 21
abbrev N__law_alike : List Str := ["_law_found", "_law_due"]
theorem sc__law_alike : FnScope N__law_alike ["_law_found", "_law_due"] (defScope s__law_alike) := ⟨rfl, rfl, rfl, by decide +kernel, rfl, by decide +kernel, by decide +kernel⟩
theorem ok__law_alike (T : Txt K mg) (F : Fun K "_law_alike" "_law_alike" s__law_alike f fd) : FnOk P0 w K mg base (L2.CX P0 w) 1 f fd ["_law_found", "_law_due"] (spP K cm 2 m__law_alike) := by
  refine fn_pure F sc__law_alike (by decide) fun cdv A outer s H E hr => ?_
  exact (sb_cons (ss_if (st_w (sw_or (st_cmp (op_neQ hr.units) ok_ne (s_isiT rfl T.n_isinstance (by decide +kernel) (s_var (pv 0)) (pe_bltn (v := .ty "bool") rfl T.n_bool (by decide +kernel) rfl)) (s_isiT rfl T.n_isinstance (by decide +kernel) (s_var (pv 1)) (pe_bltn (v := .ty "bool") rfl T.n_bool (by decide +kernel) rfl)) (nomark _)) (sw_or1 (st_cmp (op_neQ hr.units) ok_ne (s_isiT rfl T.n_isinstance (by decide +kernel) (s_var (pv 0)) (pe_bltn (v := .ty "int") rfl T.n_int (by decide +kernel) rfl)) (s_isiT rfl T.n_isinstance (by decide +kernel) (s_var (pv 1)) (pe_bltn (v := .ty "int") rfl T.n_int (by decide +kernel) rfl)) (nomark _)))))
    (sb_one (ss_ret s_bl))
    sb_nil)
    (sb_one (ss_ret (s_cmp (op_eqQ hr.units) ok_eq (s_var (pv 0)) (s_var (pv 1)) (nomark _)))))
abbrev s__law_is_name : Stmt := top 19
abbrev N__law_is_name : List Str := ["_law_thing", "_law_sign"]
theorem sc__law_is_name : FnScope N__law_is_name ["_law_thing"] (defScope s__law_is_name) := ⟨rfl, rfl, rfl, by decide +kernel, rfl, by decide +kernel, by decide +kernel⟩
theorem ok__law_is_name (T : Txt K mg) (F : Fun K "_law_is_name" "_law_is_name" s__law_is_name f fd) : FnOk P0 w K mg base (L2.CX P0 w) 1 f fd ["_law_thing"] (spP K cm 1 m__law_is_name) := by
  refine fn_pure F sc__law_is_name (by decide) fun cdv A outer s H E hr => ?_
  exact (sb_cons (ss_if (st_w (sw_or (st_not (st_val (s_isiT rfl T.n_isinstance (by decide +kernel) (s_var (pv 0)) (pe_bltn (v := .ty "str") rfl T.n_str (by decide +kernel) rfl)))) (sw_or1 (st_not (st_chain op_le op_le ok_le ok_le s_int (s_callB call_len2 ok_len rfl T.n_len (by decide +kernel) (sa_cons (s_var (pv 0)) sa_nil)) s_int (fun _ _ _ h => mid_le h))))))
    (sb_one (ss_ret s_bl))
    sb_nil)
    (sb_one (ss_ret (s_cmp (op_eqQ hr.units) ok_eq (s_comp (own := [("_law_sign", 1)]) (by rfl) sc__law_is_name.nd (si_val (s_var (pv 0))) (blkOk_by (N := N__law_is_name) (sc := defScope s__law_is_name) (own := [("_law_sign", 1)]) (by decide +kernel)) (by rfl) okTg_name (fun _ _ _ _ _ => (pg_name (i := 1) sc__law_is_name.nd rfl (by first | exact Or.inl rfl | exact Or.inr rfl))) (fun _ _ _ _ _ => (pts_one (st_cmp (op_notIn3 (hu_of hr)) ok_notIn (s_var (pv 1)) s_str rfl))) (fun _ _ _ h => h) (fun _ _ _ _ _ => (s_var (pv 1)))) (s_lst sa_nil) (nomark _)))))
abbrev s__law_number_of : Stmt := top 20
abbrev N__law_number_of : List Str := ["_law_word", "_law_number", "_law_sign"]
theorem sc__law_number_of : FnScope N__law_number_of ["_law_word"] (defScope s__law_number_of) := ⟨rfl, rfl, rfl, by decide +kernel, rfl, by decide +kernel, by decide +kernel⟩
theorem ok__law_number_of (T : Txt K mg) (F : Fun K "_law_number_of" "_law_number_of" s__law_number_of f fd) : FnOk P0 w K mg base (L2.CX P0 w) 1 f fd ["_law_word"] (spP K cm 1 m__law_number_of) := by
  refine fn_pure F sc__law_number_of (by decide) fun cdv A outer s H E hr => ?_
  exact (sb_cons (ss_if (st_not (st_val (s_isiT rfl T.n_isinstance (by decide +kernel) (s_var (pv 0)) (pe_bltn (v := .ty "str") rfl T.n_str (by decide +kernel) rfl))))
    (sb_one (ss_ret s_non))
    sb_nil)
    (sb_cons (ss_if (st_w (sw_or (st_not (st_chain op_le op_le ok_le ok_le s_int (s_callB call_len2 ok_len rfl T.n_len (by decide +kernel) (sa_cons (s_var (pv 0)) sa_nil)) s_int (fun _ _ _ h => mid_le h))) (sw_or1 (st_cmp (op_neQ hr.units) ok_ne (s_comp (own := [("_law_sign", 2)]) (by rfl) sc__law_number_of.nd (si_val (s_var (pv 0))) (blkOk_by (N := N__law_number_of) (sc := defScope s__law_number_of) (own := [("_law_sign", 2)]) (by decide +kernel)) (by rfl) okTg_name (fun _ _ _ _ _ => (pg_name (i := 2) sc__law_number_of.nd rfl (by first | exact Or.inl rfl | exact Or.inr rfl))) (fun _ _ _ _ _ => (pts_one (st_cmp (op_notIn3 (hu_of hr)) ok_notIn (s_var (pv 2)) s_str rfl))) (fun _ _ _ h => h) (fun _ _ _ _ _ => (s_var (pv 2)))) (s_lst sa_nil) (nomark _)))))
    (sb_one (ss_ret s_non))
    sb_nil)
    (sb_cons (ss_if (st_w (sw_and (st_cmp (op_eqQ hr.units) ok_eq (s_ix (ix_4 (hu_of hr)) ok_ix (s_var (pv 0)) s_int) s_str (nomark _)) (sw_and1 (st_cmp (op_neQ hr.units) ok_ne (s_var (pv 0)) s_str (nomark _)))))
    (sb_one (ss_ret s_non))
    sb_nil)
    (sb_cons (ss_set (by rfl) (ps_set (i := 1) sc__law_number_of.nd rfl (by first | exact Or.inl rfl | exact Or.inr rfl) s_int))
    (sb_cons (ss_fz 0 (ss_for (S := [2]) (passes_of rfl) rfl (si_val (s_var (pv 0))) (pg_name (i := 2) sc__law_number_of.nd rfl (by first | exact Or.inl rfl | exact Or.inr rfl)) okTg_name (by rfl)
    (sb_one (ss_set (by rfl) (ps_set (i := 1) sc__law_number_of.nd rfl (by first | exact Or.inl rfl | exact Or.inr rfl) (s_op op_add4 ok_add (s_op op_mul3 ok_mul s_int (s_var (pv 1))) (s_bm PySem.F.plainAttrs_str PySem.F.slot_str_index PySem.F.type_str_index mt_sindex ok_sindex s_str (sa_cons (s_var (pv 2)) sa_nil))))))))
    (sb_one (ss_retV (by rfl) (pv 1))))))))
abbrev s_is_whole : Stmt := top 5
abbrev N_is_whole : List Str := ["thing"]
theorem sc_is_whole : FnScope N_is_whole ["thing"] (defScope s_is_whole) := ⟨rfl, rfl, rfl, by decide +kernel, rfl, by decide +kernel, by decide +kernel⟩
theorem ok_is_whole (T : Txt K mg) (F : Fun K "is_whole" "is_whole" s_is_whole f fd) : FnOk P0 w K mg base (L2.CX P0 w) 1 f fd ["thing"] (spP K cm 1 m_is_whole) := by
  refine fn_pure F sc_is_whole (by decide) fun cdv A outer s H E hr => ?_
  exact (sb_one (ss_ret (s_and (s_isiT rfl T.n_isinstance (by decide +kernel) (s_var (pv 0)) (pe_bltn (v := .ty "int") rfl T.n_int (by decide +kernel) rfl)) (s_one (s_not (s_isiT rfl T.n_isinstance (by decide +kernel) (s_var (pv 0)) (pe_bltn (v := .ty "bool") rfl T.n_bool (by decide +kernel) rfl)))))))
abbrev s_is_among : Stmt := top 6
abbrev N_is_among : List Str := ["thing", "least", "most"]
theorem sc_is_among : FnScope N_is_among ["thing", "least", "most"] (defScope s_is_among) := ⟨rfl, rfl, rfl, by decide +kernel, rfl, by decide +kernel, by decide +kernel⟩
theorem ok_is_among (T : Txt K mg) (F : Fun K "is_among" "is_among" s_is_among f fd) (G_is_whole : Good P0 w K mg base cm "is_whole" 1 1 m_is_whole) : FnOk P0 w K mg base (L2.CX P0 w) 2 f fd ["thing", "least", "most"] (spP K cm 3 m_is_among) := by
  refine fn_pure F sc_is_among (by decide) fun cdv A outer s H E hr => ?_
  exact (sb_one (ss_ret (s_and (s_callG (takes_of rfl rfl rfl rfl) G_is_whole hr (by decide) (by rfl) (by rfl) (sa_cons (s_var (pv 0)) sa_nil)) (s_one (s_chain op_le op_le ok_le ok_le (s_var (pv 1)) (s_var (pv 0)) (s_var (pv 2)) (fun _ _ _ h => mid_le h))))))
abbrev s__law_asked : Stmt := top 22
abbrev N__law_asked : List Str := ["_law_way", "_law_thing", "_law_least", "_law_most", "_law_whole"]
theorem sc__law_asked : FnScope N__law_asked ["_law_way", "_law_thing", "_law_least", "_law_most"] (defScope s__law_asked) := ⟨rfl, rfl, rfl, by decide +kernel, rfl, by decide +kernel, by decide +kernel⟩
theorem ok__law_asked (T : Txt K mg) (F : Fun K "_law_asked" "_law_asked" s__law_asked f fd) (G__law_alike : Good P0 w K mg base cm "_law_alike" 2 1 m__law_alike) (G_is_name : Good P0 w K mg base cm "is_name" 1 2 m_is_name) (G__law_is_name : Good P0 w K mg base cm "_law_is_name" 1 1 m__law_is_name) (G_number_of : Good P0 w K mg base cm "number_of" 1 2 m_number_of) (G__law_number_of : Good P0 w K mg base cm "_law_number_of" 1 1 m__law_number_of) (G_is_whole : Good P0 w K mg base cm "is_whole" 1 1 m_is_whole) (G_is_among : Good P0 w K mg base cm "is_among" 3 2 m_is_among) : FnOk P0 w K mg base (L2.CX P0 w) 3 f fd ["_law_way", "_law_thing", "_law_least", "_law_most"] (spP K cm 4 m__law_asked) := by
  refine fn_pure F sc__law_asked (by decide) fun cdv A outer s H E hr => ?_
  exact (sb_cons (ss_if (st_cmp (op_eqQ hr.units) ok_eq (s_var (pv 0)) s_int (nomark _))
    (sb_one (ss_ret (s_callG (takes_of rfl rfl rfl rfl) G__law_alike hr (by decide) (by rfl) (by rfl) (sa_cons (s_callG (takes_of rfl rfl rfl rfl) G_is_name hr (by decide) (by rfl) (by rfl) (sa_cons (s_var (pv 1)) sa_nil)) (sa_cons (s_callG (takes_of rfl rfl rfl rfl) G__law_is_name hr (by decide) (by rfl) (by rfl) (sa_cons (s_var (pv 1)) sa_nil)) sa_nil)))))
    sb_nil)
    (sb_cons (ss_if (st_cmp (op_eqQ hr.units) ok_eq (s_var (pv 0)) s_int (nomark _))
    (sb_one (ss_ret (s_callG (takes_of rfl rfl rfl rfl) G__law_alike hr (by decide) (by rfl) (by rfl) (sa_cons (s_callG (takes_of rfl rfl rfl rfl) G_number_of hr (by decide) (by rfl) (by rfl) (sa_cons (s_var (pv 1)) sa_nil)) (sa_cons (s_callG (takes_of rfl rfl rfl rfl) G__law_number_of hr (by decide) (by rfl) (by rfl) (sa_cons (s_var (pv 1)) sa_nil)) sa_nil)))))
    sb_nil)
    (sb_cons (ss_set (by rfl) (ps_set (i := 4) sc__law_asked.nd rfl (by first | exact Or.inl rfl | exact Or.inr rfl) (s_and (s_isiT rfl T.n_isinstance (by decide +kernel) (s_var (pv 1)) (pe_bltn (v := .ty "int") rfl T.n_int (by decide +kernel) rfl)) (s_one (s_not (s_isiT rfl T.n_isinstance (by decide +kernel) (s_var (pv 1)) (pe_bltn (v := .ty "bool") rfl T.n_bool (by decide +kernel) rfl)))))))
    (sb_cons (ss_if (st_cmp (op_eqQ hr.units) ok_eq (s_var (pv 0)) s_int (nomark _))
    (sb_one (ss_ret (s_callG (takes_of rfl rfl rfl rfl) G__law_alike hr (by decide) (by rfl) (by rfl) (sa_cons (s_callG (takes_of rfl rfl rfl rfl) G_is_whole hr (by decide) (by rfl) (by rfl) (sa_cons (s_var (pv 1)) sa_nil)) (sa_cons (s_var (pv 4)) sa_nil)))))
    sb_nil)
    (sb_one (ss_ret (s_callG (takes_of rfl rfl rfl rfl) G__law_alike hr (by decide) (by rfl) (by rfl) (sa_cons (s_callG (takes_of rfl rfl rfl rfl) G_is_among hr (by decide) (by rfl) (by rfl) (sa_cons (s_var (pv 1)) (sa_cons (s_var (pv 2)) (sa_cons (s_var (pv 3)) sa_nil)))) (sa_cons (s_and (s_var (pv 4)) (s_and (s_cmp op_le ok_le (s_var (pv 2)) (s_var (pv 1)) (nomark _)) (s_one (s_cmp op_le ok_le (s_var (pv 1)) (s_var (pv 3)) (nomark _))))) sa_nil)))))))))
abbrev s_number_text : Stmt := top 9
abbrev N_number_text : List Str := ["number"]
theorem sc_number_text : FnScope N_number_text ["number"] (defScope s_number_text) := ⟨rfl, rfl, rfl, by decide +kernel, rfl, by decide +kernel, by decide +kernel⟩
theorem ok_number_text (T : Txt K mg) (F : Fun K "number_text" "number_text" s_number_text f fd) : FnOk P0 w K mg base (L2.CX P0 w) 1 f fd ["number"] (spP K cm 1 m_number_text) := by
  refine fn_pure F sc_number_text (by decide) fun cdv A outer s H E hr => ?_
  exact (sb_one (ss_ret (s_callTy call_str_int ok_str rfl T.n_str (by decide +kernel) (sa_cons (s_var (pv 0)) sa_nil))))
abbrev s__law_number_good : Stmt := top 23
abbrev N__law_number_good : List Str := ["_law_number", "_law_text_here", "_law_figures", "_law_left", "_law_due"]
theorem sc__law_number_good : FnScope N__law_number_good ["_law_number"] (defScope s__law_number_good) := ⟨rfl, rfl, rfl, by decide +kernel, rfl, by decide +kernel, by decide +kernel⟩
theorem ok__law_number_good (T : Txt K mg) (F : Fun K "_law_number_good" "_law_number_good" s__law_number_good f fd) (G_number_text : Good P0 w K mg base cm "number_text" 1 1 m_number_text) (G__law_alike : Good P0 w K mg base cm "_law_alike" 2 1 m__law_alike) (G_number_of : Good P0 w K mg base cm "number_of" 1 2 m_number_of) : FnOk P0 w K mg base (L2.CX P0 w) 3 f fd ["_law_number"] (spP K cm 1 m__law_number_good) := by
  refine fn_pure F sc__law_number_good (by decide) fun cdv A outer s H E hr => ?_
  exact (sb_cons (ss_set (by rfl) (ps_set (i := 1) sc__law_number_good.nd rfl (by first | exact Or.inl rfl | exact Or.inr rfl) (s_callG (takes_of rfl rfl rfl rfl) G_number_text hr (by decide) (by rfl) (by rfl) (sa_cons (s_var (pv 0)) sa_nil))))
    (sb_cons (ss_set (by rfl) (ps_set (i := 2) sc__law_number_good.nd rfl (by first | exact Or.inl rfl | exact Or.inr rfl) (s_lst sa_nil)))
    (sb_cons (ss_set (by rfl) (ps_set (i := 3) sc__law_number_good.nd rfl (by first | exact Or.inl rfl | exact Or.inr rfl) (s_var (pv 0))))
    (sb_cons (ss_while (passes_of rfl) (st_w (sw_or (st_cmp op_gt ok_gt (s_var (pv 3)) s_int (nomark _)) (sw_or1 (st_cmp (op_eqQ hr.units) ok_eq (s_var (pv 2)) (s_lst sa_nil) (nomark _)))))
    (sb_cons (ss_mut PySem.F.slot_list_append PySem.F.type_list_append mt_append mut_append (sp_name (pv 2)) (sa_cons (s_ix (ix_4 (hu_of hr)) ok_ix s_str (s_op op_modD ok_mod (s_var (pv 3)) s_int)) sa_nil))
    (sb_one (ss_set (by rfl) (ps_set (i := 3) sc__law_number_good.nd rfl (by first | exact Or.inl rfl | exact Or.inr rfl) (s_op op_divD ok_div (s_var (pv 3)) s_int))))))
    (sb_cons (ss_set (by rfl) (ps_set (i := 4) sc__law_number_good.nd rfl (by first | exact Or.inl rfl | exact Or.inr rfl) (s_joinRev (by rfl) s_str rfl T.n_reversed (s_var (pv 2)))))
    (sb_one (ss_ret (s_and (s_isiT rfl T.n_isinstance (by decide +kernel) (s_var (pv 1)) (pe_bltn (v := .ty "str") rfl T.n_str (by decide +kernel) rfl)) (s_and (s_cmp (op_eqQ hr.units) ok_eq (s_var (pv 1)) (s_var (pv 4)) (nomark _)) (s_one (s_callG (takes_of rfl rfl rfl rfl) G__law_alike hr (by decide) (by rfl) (by rfl) (sa_cons (s_callG (takes_of rfl rfl rfl rfl) G_number_of hr (by decide) (by rfl) (by rfl) (sa_cons (s_var (pv 1)) sa_nil)) (sa_cons (s_var (pv 0)) sa_nil)))))))))))))
abbrev s_law : Stmt := top 26
abbrev N_law : List Str := ["_law_script", "_law_k", "_law_cell", "_law_number", "_law_some", "_law_thing", "_law_least", "_law_most", "_law_turn", "_law_word"]
theorem sc_law : FnScope N_law ["_law_script"] (defScope s_law) := ⟨rfl, rfl, rfl, by decide +kernel, rfl, by decide +kernel, by decide +kernel⟩
theorem ok_law (T : Txt K mg) (F : Fun K "law" "law" s_law f fd) (G__law_line_good : Good P0 w K mg base cm "_law_line_good" 1 2 m__law_line_good) (G__law_line : Good P0 w K mg base cm "_law_line" 1 3 m__law_line) (G_words_of : Good P0 w K mg base cm "words_of" 1 1 m_words_of) (G__law_odd : Good P0 w K mg base cm "_law_odd" 1 1 m__law_odd) (G__law_cell_at : Good P0 w K mg base cm "_law_cell_at" 2 1 m__law_cell_at) (G_number_of : Good P0 w K mg base cm "number_of" 1 2 m_number_of) (G_is_name : Good P0 w K mg base cm "is_name" 1 2 m_is_name) (G__law_mixed : Good P0 w K mg base cm "_law_mixed" 2 1 m__law_mixed) (G__law_great : Good P0 w K mg base cm "_law_great" 2 2 m__law_great) (G__law_text : Good P0 w K mg base cm "_law_text" 1 2 m__law_text) (G__law_asked : Good P0 w K mg base cm "_law_asked" 4 3 m__law_asked) (G__law_number_good : Good P0 w K mg base cm "_law_number_good" 1 3 m__law_number_good) : FnOk P0 w K mg base (L2.CX P0 w) 4 f fd ["_law_script"] (spP K cm 1 m_law) := by
  refine fn_pure F sc_law (by decide) fun cdv A outer s H E hr => ?_
  exact (sb_cons (ss_if (st_w (sw_or (st_not (st_val (s_callG (takes_of rfl rfl rfl rfl) G__law_line_good hr (by decide) (by rfl) (by rfl) (sa_cons (s_callG (takes_of rfl rfl rfl rfl) G__law_line hr (by decide) (by rfl) (by rfl) (sa_cons (s_var (pv 0)) sa_nil)) sa_nil)))) (sw_or1 (st_cmp op_isNQ ok_isN (s_callG (takes_of rfl rfl rfl rfl) G_words_of hr (by decide) (by rfl) (by rfl) (sa_cons (s_callG (takes_of rfl rfl rfl rfl) G__law_odd hr (by decide) (by rfl) (by rfl) (sa_cons (s_callG (takes_of rfl rfl rfl rfl) G__law_cell_at hr (by decide) (by rfl) (by rfl) (sa_cons (s_var (pv 0)) (sa_cons s_int sa_nil))) sa_nil)) sa_nil)) s_non (nomark _)))))
    (sb_one (ss_ret s_bl))
    sb_nil)
    (sb_cons (ss_if (st_cmp (op_neQ hr.units) ok_ne (s_comp (own := [("_law_word", 9)]) (by rfl) sc_law.nd (si_val (s_tup (sa_cons (s_op op_mul3 ok_mul s_str s_int) (sa_cons (s_op op_mul3 ok_mul s_str s_int) (sa_cons (s_op op_mul3 ok_mul s_str s_int) sa_nil))))) (blkOk_by (N := N_law) (sc := defScope s_law) (own := [("_law_word", 9)]) (by decide +kernel)) (by rfl) okTg_name (fun _ _ _ _ _ => (pg_name (i := 9) sc_law.nd rfl (by first | exact Or.inl rfl | exact Or.inr rfl))) (fun _ _ _ _ _ => (pts_one (st_w (sw_or (st_cmp op_isNQ ok_isN (s_callG takes0 G_number_of hr (by decide) (by rfl) (by rfl) (sa_cons (s_var (pv 9)) sa_nil)) s_non (nomark _)) (sw_or1 (st_val (s_callG takes0 G_is_name hr (by decide) (by rfl) (by rfl) (sa_cons (s_var (pv 9)) sa_nil)))))))) (fun _ _ _ h => h) (fun _ _ _ _ _ => (s_var (pv 9)))) (s_lst sa_nil) (nomark _))
    (sb_one (ss_ret s_bl))
    sb_nil)
    (sb_cons (ss_for (S := [1]) (passes_of rfl) rfl (si_r2 rfl T.n_range (sa_cons s_int (sa_cons (s_callB (call_max2 (by rfl)) ok_max rfl T.n_max (by decide +kernel) (sa_cons s_int (sa_cons (s_callB (call_min2 (by rfl)) ok_min rfl T.n_min (by decide +kernel) (sa_cons (s_callB call_len2 ok_len rfl T.n_len (by decide +kernel) (sa_cons (s_var (pv 0)) sa_nil)) (sa_cons s_int sa_nil))) sa_nil))) sa_nil))) (pg_name (i := 1) sc_law.nd rfl (by first | exact Or.inl rfl | exact Or.inr rfl)) okTg_name (by rfl)
    (sb_cons (ss_set (by rfl) (ps_set (i := 2) sc_law.nd rfl (by first | exact Or.inl rfl | exact Or.inr rfl) (s_callG (takes_of rfl rfl rfl rfl) G__law_mixed hr (by decide) (by rfl) (by rfl) (sa_cons (s_callG (takes_of rfl rfl rfl rfl) G__law_cell_at hr (by decide) (by rfl) (by rfl) (sa_cons (s_var (pv 0)) (sa_cons (s_var (pv 1)) sa_nil))) (sa_cons (s_var (pv 1)) sa_nil)))))
    (sb_cons (ss_set (by rfl) (ps_set (i := 3) sc_law.nd rfl (by first | exact Or.inl rfl | exact Or.inr rfl) (s_op op_sub ok_sub (s_op op_modD ok_mod (s_var (pv 2)) s_int) s_int)))
    (sb_cons (ss_if (st_cmp (op_eqQ hr.units) ok_eq (s_op op_modD ok_mod (s_op op_divD ok_div (s_var (pv 2)) s_int) s_int) s_int (nomark _))
    (sb_one (ss_set (by rfl) (ps_set (i := 3) sc_law.nd rfl (by first | exact Or.inl rfl | exact Or.inr rfl) (s_op op_mul3 ok_mul (s_op op_modD ok_mod (s_op op_sub ok_sub (s_callG (takes_of rfl rfl rfl rfl) G__law_great hr (by decide) (by rfl) (by rfl) (sa_cons (s_var (pv 2)) (sa_cons s_int sa_nil))) (s_callG (takes_of rfl rfl rfl rfl) G__law_great hr (by decide) (by rfl) (by rfl) (sa_cons (s_var (pv 2)) (sa_cons s_int sa_nil)))) (s_op op_powD ok_pow s_int s_int)) (s_ix (ix_4 (hu_of hr)) ok_ix (s_lst (sa_cons s_int (sa_cons (s_un un_neg ok_neg s_int) sa_nil))) (s_op op_modD ok_mod (s_op op_divD ok_div (s_var (pv 2)) s_int) s_int))))))
    sb_nil)
    (sb_cons (ss_set (by rfl) (ps_set (i := 4) sc_law.nd rfl (by first | exact Or.inl rfl | exact Or.inr rfl) (s_lst (sa_cons (s_tup (sa_cons (s_var (pv 3)) (sa_cons (s_op op_add4 ok_add (s_var (pv 3)) (s_op op_modD ok_mod (s_var (pv 2)) s_int)) sa_nil))) (sa_cons (s_tup (sa_cons (s_op op_add4 ok_add (s_var (pv 3)) s_int) (sa_cons (s_op op_add4 ok_add (s_var (pv 3)) s_int) sa_nil))) (sa_cons (s_tup (sa_cons (s_un un_neg ok_neg s_int) (sa_cons s_int sa_nil))) (sa_cons (s_tup (sa_cons s_int (sa_cons s_int sa_nil))) sa_nil)))))))
    (sb_cons (ss_tgt (S := [6, 7]) (by rfl) (s_ix (ix_4 (hu_of hr)) ok_ix (s_var (pv 4)) (s_op op_modD ok_mod (s_op op_divD ok_div (s_var (pv 2)) s_int) s_int)) (pg_tup (by rfl) (pgs_cons (pg_name (i := 6) sc_law.nd rfl (by first | exact Or.inl rfl | exact Or.inr rfl)) (pgs_cons (pg_name (i := 7) sc_law.nd rfl (by first | exact Or.inl rfl | exact Or.inr rfl)) pgs_nil))) (okTg_tup (n := 2) rfl (okTgs_cons okTg_name (okTgs_cons okTg_name okTgs_nil))))
    (sb_cons (ss_for (S := [5]) (passes_of rfl) rfl (si_val (s_lst (sa_cons (s_callG (takes_of rfl rfl rfl rfl) G__law_text hr (by decide) (by rfl) (by rfl) (sa_cons (s_var (pv 2)) sa_nil)) (sa_cons (s_var (pv 3)) (sa_cons (s_callG (takes_of rfl rfl rfl rfl) G__law_odd hr (by decide) (by rfl) (by rfl) (sa_cons (s_op op_divD ok_div (s_var (pv 2)) s_int) sa_nil)) sa_nil))))) (pg_name (i := 5) sc_law.nd rfl (by first | exact Or.inl rfl | exact Or.inr rfl)) okTg_name (by rfl)
    (sb_one (ss_for (S := [8]) (passes_of rfl) rfl (si_r1 rfl T.n_range (sa_cons s_int sa_nil)) (pg_name (i := 8) sc_law.nd rfl (by first | exact Or.inl rfl | exact Or.inr rfl)) okTg_name (by rfl)
    (sb_one (ss_if (st_not (st_val (s_callG (takes_of rfl rfl rfl rfl) G__law_asked hr (by decide) (by rfl) (by rfl) (sa_cons (s_op op_modD ok_mod (s_op op_add4 ok_add (s_op op_mul3 ok_mul (s_var (pv 8)) (s_ix (ix_4 (hu_of hr)) ok_ix (s_lst (sa_cons s_int (sa_cons s_int sa_nil))) (s_op op_modD ok_mod (s_op op_divD ok_div (s_var (pv 2)) s_int) s_int))) (s_var (pv 2))) s_int) (sa_cons (s_var (pv 5)) (sa_cons (s_var (pv 6)) (sa_cons (s_var (pv 7)) sa_nil)))))))
    (sb_one (ss_ret s_bl))
    sb_nil)))))
    (sb_one (ss_if (st_not (st_val (s_callG (takes_of rfl rfl rfl rfl) G__law_number_good hr (by decide) (by rfl) (by rfl) (sa_cons (s_callB call_abs ok_abs rfl T.n_abs (by decide +kernel) (sa_cons (s_var (pv 3)) sa_nil)) sa_nil))))
    (sb_one (ss_ret s_bl))
    sb_nil)))))))))
    (sb_one (ss_ret s_bl)))))
end
end OB

namespace OB
open PySem PySem.Spec PyProof.Rows L2
theorem compL_filter {tg : D → En → Option En} {c : En → Ot Bool} {f : En → Ot D} {ρ : En} (b : D → Bool) (y : D → D) : ∀ ds : List D, (∀ d ∈ ds, ∃ ρ1, tg d ρ = some ρ1 ∧ c ρ1 = .ok (b d) ∧ (b d = true → f ρ1 = .ok (y d))) → compL tg c f ρ ds = some ((ds.filter b).map y)
  | [], _ => rfl
  | d :: ds, h => by
    obtain ⟨ρ1, e1, e2, e3⟩ := h d List.mem_cons_self
    have ih := compL_filter b y ds fun d hd => h d (List.mem_cons_of_mem _ hd)
    unfold compL
    rw [e1, Option.bind_some, e2]
    cases hb : b d with
    | true =>
      rw [e3 hb, ih, List.filter_cons_of_pos hb]; rfl
    | false =>
      rw [List.filter_cons_of_neg (by rw [hb]; exact Bool.false_ne_true)]
      exact ih
theorem compL_map {tg : D → En → Option En} {f : En → Ot D} {ρ : En} (y : D → D) (ds : List D) (h : ∀ d ∈ ds, ∃ ρ1, tg d ρ = some ρ1 ∧ f ρ1 = .ok (y d)) : compL tg cYes f ρ ds = some (ds.map y) := by
  have := compL_filter (c := cYes) (fun _ => true) y ds fun d hd => by
    obtain ⟨ρ1, a, b⟩ := h d hd
    exact ⟨ρ1, a, rfl, fun _ => b⟩
  rwa [List.filter_eq_self.mpr (fun _ _ => rfl)] at this
theorem eComp_ok {it : En → Ot Its'} {tg : D → En → Option En} {c : En → Ot Bool} {f : En → Ot D} {vs : List Nat} {ρ : En} {p : Its'} {ys : List D} (e1 : it ρ = .ok p) (e2 : compL tg c f (wipeE ρ vs) p.1 = some ys) (hl : ys.length ≤ sizeLine) : eComp it tg c f vs ρ = .ok (.nd (.lst .own) ys) := by
  unfold eComp
  rw [e1, Ot.bind_ok, e2]
  exact if_pos hl
theorem forL_inv {tg : D → En → Option En} {b : Mst} (Inv : Nat → En → Prop) : ∀ (ds : List D) (i : Nat) (ρ : En), (∀ j d ρ, ds[j]? = some d → Inv (i + j) ρ → ∃ ρ1 ρ2, tg d ρ = some ρ1 ∧ b ρ1 = some (.nx, ρ2) ∧ Inv (i + j + 1) ρ2) → Inv i ρ → ∃ ρ', forL tg b ds ρ = some (.nx, ρ') ∧ Inv (i + ds.length) ρ'
  | [], i, ρ, _, h0 => ⟨ρ, rfl, h0⟩
  | d :: ds, i, ρ, h, h0 => by
    obtain ⟨ρ1, ρ2, e1, e2, h1⟩ := h 0 d ρ rfl h0
    obtain ⟨ρ', e3, h3⟩ := forL_inv Inv ds (i + 1) ρ2 (fun j d ρ hd hi => by
      have := h (j + 1) d ρ (by simpa using hd) (by rw [show i + (j + 1) = i + 1 + j by omega]; exact hi)
      rwa [show i + (j + 1) + 1 = i + 1 + j + 1 by omega] at this) h1
    refine ⟨ρ', ?_, by rw [List.length_cons, show i + (ds.length + 1) = i + 1 + ds.length by omega]; exact h3⟩
    unfold forL
    rw [e1]
    dsimp only
    rw [e2]
    exact e3
theorem sFor_ok {it : En → Ot Its'} {tg : D → En → Option En} {b : Mst} {ρ : En} {ds : List D} (e : it ρ = .ok (ds, true)) (Inv : Nat → En → Prop) (h0 : Inv 0 ρ)
    (h : ∀ j d ρ, ds[j]? = some d → Inv j ρ → ∃ ρ1 ρ2, tg d ρ = some ρ1 ∧ b ρ1 = some (.nx, ρ2) ∧ Inv (j + 1) ρ2) : ∃ ρ', sFor it tg b ρ = some (.nx, ρ') ∧ Inv ds.length ρ' := by
  obtain ⟨ρ', e1, e2⟩ := forL_inv (tg := tg) (b := b) Inv ds 0 ρ (by simpa using h) h0
  refine ⟨ρ', ?_, by simpa using e2⟩
  unfold sFor
  rw [e]
  exact e1
/-- a text of fitting signs -/
structure OkS (s : Str) (n : Nat) : Prop where
  len : s.length ≤ n
  ok : ∀ c ∈ s.cps.toList, c < 0x110000
theorem OkS.str {s : Str} {n : Nat} (h : OkS s n) : PyData.strOk s = true := by
  unfold PyData.strOk
  rw [Array.all_eq_true_iff_forall_mem]
  intro c hc
  exact decide_eq_true (h.ok c (by simpa using hc))
theorem toPyL_strs : ∀ ss : List Str, toPyL (ss.map .str) = some (ss.map .str)
  | [] => rfl
  | s :: ss => by
    rw [List.map_cons, toPyL, toPyL_strs ss]; rfl
theorem shaped_strs {n : Nat} {ss : List Str} (h : ∀ s ∈ ss, OkS s n) : SeqAt.shaped (.list (ss.map .str)) = true := by
  have h1 : ∀ ss : List Str, (∀ s ∈ ss, OkS s n) → PyData.canLayAll0 (ss.map .str) = true := by
    intro ss
    induction ss with
    | nil => exact fun _ => rfl
    | cons s ss ih =>
      intro h
      rw [List.map_cons, PyData.canLayAll0, ih fun s hs => h s (List.mem_cons_of_mem _ hs), Bool.and_true, PyData.canLay0]
      exact (h s List.mem_cons_self).str
  have h2 : ∀ ss : List Str, PyData.depthAll (ss.map .str) = 0 := by
    intro ss
    induction ss with
    | nil => rfl
    | cons s ss ih => rw [List.map_cons, PyData.depthAll, ih, PyData.depth]; rfl
  unfold SeqAt.shaped
  rw [PyData.canLay0, h1 ss h, PyData.depth, h2]
  rfl
theorem eqvAll_refl : ∀ ss : List Str, PyData.eqvAll (ss.map .str) (ss.map .str) = true
  | [] => by simp [PyData.eqvAll]
  | s :: ss => by
    rw [List.map_cons, PyData.eqvAll, eqvAll_refl ss, PyData.eqv]; simp
theorem deepEq_strs {f g : Fl} {n : Nat} {ss tt : List Str} (h : ∀ s ∈ ss, OkS s n) (h' : ∀ s ∈ tt, OkS s n) : deepEq (.nd (.lst f) (ss.map .str)) (.nd (.lst g) (tt.map .str)) = some (PyData.eqvAll (ss.map .str) (tt.map .str)) := by
  unfold deepEq
  rw [toPy, toPy, toPyL_strs, toPyL_strs]
  simp only [Option.map_some, Option.bind_some, shaped_strs h, shaped_strs h', Bool.and_self, if_true, PyData.eqv]
theorem pEq_nil {f g : Fl} {n : Nat} {ss : List Str} (h : ∀ s ∈ ss, OkS s n) : pEq [.nd (.lst f) (ss.map .str), .nd (.lst g) []] = some (.bl ss.isEmpty) := by
  have := deepEq_strs (f := f) (g := g) h (tt := []) fun _ h => nomatch h
  unfold pEq
  simp only [atEq, Option.none_or]
  rw [show ([] : List D) = ([] : List Str).map .str from rfl, this]
  cases ss <;> simp [PyData.eqvAll]
theorem pNe_nil {f g : Fl} {n : Nat} {ss : List Str} (h : ∀ s ∈ ss, OkS s n) : pNe [.nd (.lst f) (ss.map .str), .nd (.lst g) []] = some (.bl (!ss.isEmpty)) := by
  have := deepEq_strs (f := f) (g := g) h (tt := []) fun _ h => nomatch h
  unfold pNe
  simp only [atEq, Option.none_or]
  rw [show ([] : List D) = ([] : List Str).map .str from rfl, this]
  cases ss <;> simp [PyData.eqvAll]
theorem pNe_refl {f g : Fl} {n : Nat} {ss : List Str} (h : ∀ s ∈ ss, OkS s n) : pNe [.nd (.lst f) (ss.map .str), .nd (.lst g) (ss.map .str)] = some (.bl false) := by
  unfold pNe
  simp only [atEq, Option.none_or]
  rw [deepEq_strs h h, eqvAll_refl]; rfl
def sg (c : Nat) : Str := ⟨#[c]⟩
def sgs (s : Str) : List Nat := s.cps.toList
theorem sgs_len {s : Str} : (sgs s).length = s.length := Array.length_toList
theorem items_str {s : Str} : itemsD (.str s) = some ((sgs s).map fun c => D.str (sg c), true) := rfl
theorem in_sg {c : Nat} {z : Str} : pIn [.str (sg c), .str z] = some (.bl (decide (c ∈ sgs z))) := rfl
theorem notIn_sg {c : Nat} {z : Str} : pNotIn [.str (sg c), .str z] = some (.bl (!decide (c ∈ sgs z))) := rfl
theorem blsD_map (bs : List Bool) : blsD (bs.map .bl) = some bs := by
  induction bs with
  | nil => rfl
  | cons b bs ih => rw [List.map_cons, blsD, ih]; rfl

/-! ### the program's -/
theorem is_whole_eq (d : D) (h : tyN d ≠ none) : m_is_whole [d] = .ok (.bl (match d with | .int _ => true | _ => false)) := by
  unfold m_is_whole g_is_whole
  cases d with
  | nd k ds =>
    cases k <;> first | (simp [isiD, tyN, nbTy]; done) | exact absurd rfl h
  | _ => simp [isiD, tyN, nbTy]
theorem are_signs_eq {s z : Str} (h : s.length ≤ 16777216) : m_are_signs [.str s, .str z] = .ok (.bl ((sgs s).all fun c => decide (c ∈ sgs z))) := by
  have hl : (sgs s).length ≤ sizeLine := by rw [sgs_len]; exact h
  have e2 : compL (tgName 2) cYes (ePr pIn [eVar 2, eVar 1]) (wipeE [some (.str s), some (.str z), none] [2]) ((sgs s).map fun c => D.str (sg c)) = some ((sgs s).map fun c => D.bl (decide (c ∈ sgs z))) := by
    have := compL_map (tg := tgName 2) (f := ePr pIn [eVar 2, eVar 1]) (ρ := wipeE [some (.str s), some (.str z), none] [2]) (fun d => match d with | .str a => .bl (match sgs a with | [c] => decide (c ∈ sgs z) | _ => false) | _ => .non) ((sgs s).map fun c => D.str (sg c)) fun d hd => by
      obtain ⟨c, hc, rfl⟩ := List.mem_map.mp hd
      refine ⟨[some (.str s), some (.str z), some (.str (sg c))], rfl, ?_⟩
      simp [in_sg]
      rfl
    rw [this, List.map_map]
    rfl
  have e1 := eComp_ok (it := itV (eVar 0)) (tg := tgName 2) (c := cYes) (f := ePr pIn [eVar 2, eVar 1]) (vs := [2]) (ρ := [some (.str s), some (.str z), none]) (p := ((sgs s).map fun c => D.str (sg c), true)) rfl e2 (by simpa using hl)
  have e3 : pAll [.nd (.lst .own) ((sgs s).map fun c => D.bl (decide (c ∈ sgs z)))] = some (.bl ((sgs s).all fun c => decide (c ∈ sgs z))) := by
    have := blsD_map ((sgs s).map fun c => decide (c ∈ sgs z))
    rw [List.map_map] at this
    show Option.map _ (blsD _) = _
    rw [show (fun c => D.bl (decide (c ∈ sgs z))) = D.bl ∘ fun c => decide (c ∈ sgs z) from rfl, this]
    simp
  unfold m_are_signs g_are_signs
  simp [e1, e3]
theorem len_str {s : Str} (h : s.length ≤ 16777216) : pLen [.str s] = some (.int s.length) := by
  show (if s.length ≤ sizeLine then _ else _) = _
  exact if_pos h
theorem le_int {i j : Int} : pLe [.int i, .int j] = some (.bl (decide (i ≤ j))) := rfl
def lets : Str := "abcdefghijklmnopqrstuvwxyz"
def figs : Str := "0123456789"
def among (s z : Str) : Bool := (sgs s).all fun c => decide (c ∈ sgs z)
def nameB (s : Str) : Bool := decide ((1 : Int) ≤ s.length) && (decide ((s.length : Int) ≤ 12) && among s lets)
theorem is_name_eq {s : Str} (h : s.length ≤ 16777216) : m_is_name [.str s] = .ok (.bl (nameB s)) := by
  have := are_signs_eq (s := s) (z := lets) h
  change _ = Ot.ok (D.bl (among s lets)) at this
  unfold m_is_name g_is_name nameB
  unfold lets at this ⊢
  by_cases h1 : (1 : Int) ≤ s.length <;> by_cases h2 : (s.length : Int) ≤ 12 <;> simp [isiD, tyN, nbTy, len_str h, le_int, this, h1, h2]
theorem odd_sgs {cs : List Nat} {z : List Nat} : (cs.filter fun c => !decide (c ∈ z)).isEmpty = cs.all fun c => decide (c ∈ z) := by
  induction cs with
  | nil => rfl
  | cons c cs ih =>
    by_cases h : c ∈ z <;> simp_all
/-- the signs that are none of z's -/
theorem comp_notIn {i : Nat} {s z : Str} {ρ : En} {fz : En → Ot D} (h : s.length ≤ 16777216) (hi : i < ρ.length) (e1 : eVar 0 ρ = .ok (.str s)) (hz : ∀ d, fz ((wipeE ρ [i]).set i (some d)) = .ok (.str z)) :
    eComp (itV (eVar 0)) (tgName i) (eT (ePr pNotIn [eVar i, fz])) (eVar i) [i] ρ = .ok (.nd (.lst .own) (((sgs s).filter fun c => !decide (c ∈ sgs z)).map fun c => .str (sg c))) := by
  have hl : (sgs s).length ≤ sizeLine := by rw [sgs_len]; exact h
  refine eComp_ok (p := ((sgs s).map fun c => D.str (sg c), true)) (by rw [itV_eq, e1]; rfl) ?_ ?_ (ys := ((sgs s).filter fun c => !decide (c ∈ sgs z)).map fun c => .str (sg c))
  · have := compL_filter (tg := tgName i) (c := eT (ePr pNotIn [eVar i, fz])) (f := eVar i) (ρ := wipeE ρ [i]) (fun d => match d with | .str a => (match sgs a with | [c] => !decide (c ∈ sgs z) | _ => false) | _ => false) id ((sgs s).map fun c => D.str (sg c)) fun d hd => by
      obtain ⟨c, hc, rfl⟩ := List.mem_map.mp hd
      have ei : (((wipeE ρ [i]).set i (some (D.str (sg c))))[i]?).join = some (.str (sg c)) := by
        rw [List.getElem?_set_self (by unfold wipeE wipeE; simpa using hi)]; rfl
      refine ⟨_, rfl, ?_, fun _ => ?_⟩
      · simp only [eT_eq, ePr_eq, eL_cons, eL_nil, eVar_eq, getV_eq, ei, hz, Option.map_some, mapF_str, Ot.of_some, Ot.bind_ok, notIn_sg, asB_bl]
        rfl
      · simp only [eVar_eq, getV_eq, ei, Option.map_some, mapF_str, Ot.of_some]; rfl
    rw [this, List.map_id, List.filter_map]
    rfl
  · rw [List.length_map]
    exact Nat.le_trans (List.length_filter_le _ _) hl
theorem sg_ok {s : Str} {n : Nat} (h : OkS s n) {c : Nat} (hc : c ∈ sgs s) : OkS (sg c) 1 := ⟨Nat.le_refl _, fun d hd => by
  have : d = c := by simpa [sg] using hd
  subst this
  exact h.ok d hc⟩
theorem law_is_name_eq {s : Str} {n : Nat} (hn : n ≤ 16777216) (o : OkS s n) : m__law_is_name [.str s] = .ok (.bl (nameB s)) := by
  have h : s.length ≤ 16777216 := Nat.le_trans o.len hn
  have e := comp_notIn (i := 1) (s := s) (z := lets) (ρ := [some (.str s), none]) (fz := eC (.str lets)) h (by simp) (by simp) (fun d => rfl)
  have e2 := pEq_nil (f := .own) (g := .own) (n := 1) (ss := ((sgs s).filter fun c => !decide (c ∈ sgs lets)).map sg) fun t ht => by
    obtain ⟨c, hc, rfl⟩ := List.mem_map.mp ht
    exact sg_ok o ((List.mem_filter.mp hc).1)
  rw [List.map_map] at e2
  have e3 : (((sgs s).filter fun c => !decide (c ∈ sgs lets)).map sg).isEmpty = among s lets := by
    rw [List.isEmpty_map]
    exact odd_sgs
  rw [e3] at e2
  have e2 : pEq [.nd (.lst .own) (((sgs s).filter fun c => !decide (c ∈ sgs lets)).map fun c => .str (sg c)), .nd (.lst .own) []] = some (.bl (among s lets)) := e2
  unfold m__law_is_name g__law_is_name nameB
  unfold lets at e e2 ⊢
  by_cases h1 : (1 : Int) ≤ s.length <;> by_cases h2 : (s.length : Int) ≤ 12 <;> simp [isiD, tyN, nbTy, len_str h, le_int, h1, h2, e, e2, pLst, sizeLine]
end OB

namespace OB
open PySem PySem.Spec PyProof.Rows L2 PySem.NumText
theorem bits_le {x : Int} {k : Nat} (h : x.natAbs < 2 ^ k) : Builtin.Int.intBits x ≤ k := by
  unfold Builtin.Int.intBits
  split
  · exact Nat.zero_le _
  · rename_i h0
    have h0 : x.natAbs ≠ 0 := by
      intro e
      exact h0 (by simpa using Int.natAbs_eq_zero.mp e)
    exact (Nat.log2_lt h0).mpr h
theorem bits_ge {x : Int} {k : Nat} (h : Builtin.Int.intBits x ≤ k) : x.natAbs < 2 ^ k := by
  unfold Builtin.Int.intBits at h
  split at h
  · rename_i e
    have e : x = 0 := by simpa using e
    subst e
    exact Nat.pow_pos (by decide)
  · rename_i h0
    have h0 : x.natAbs ≠ 0 := by
      intro e
      exact h0 (by simpa using Int.natAbs_eq_zero.mp e)
    exact (Nat.log2_lt h0).mp h
theorem mul_int {i j : Int} {k l : Nat} (h1 : i.natAbs < 2 ^ k) (h2 : j.natAbs < 2 ^ l) (h : k + l ≤ 134217728) : pMul [.int i, .int j] = some (.int (i * j)) := by
  have : mulOk i j = true := decide_eq_true (Nat.le_trans (Nat.add_le_add (bits_le h1) (bits_le h2)) h)
  show (if mulOk i j = true then _ else _) = _
  exact if_pos this
theorem add_int {i j : Int} : pAdd [.int i, .int j] = some (.int (i + j)) := rfl
theorem sub_int {i j : Int} : pSub [.int i, .int j] = some (.int (i - j)) := rfl
theorem eq_int {i j : Int} : pEq [.int i, .int j] = some (.bl (i == j)) := rfl
theorem eq_str {i j : Str} : pEq [.str i, .str j] = some (.bl (i == j)) := rfl
theorem ne_str {i j : Str} : pNe [.str i, .str j] = some (.bl (!(i == j))) := rfl
theorem eq_bl {i j : Bool} : pEq [.bl i, .bl j] = some (.bl (i == j)) := rfl
theorem ne_bl {i j : Bool} : pNe [.bl i, .bl j] = some (.bl (!(i == j))) := rfl
theorem mod_int {i j : Int} (h : 0 < j) : pMod [.int i, .int j] = some (.int (i % j)) := by
  show (if j ≠ 0 then some (D.int (modV i j)) else none) = _
  rw [if_pos (by omega)]
  unfold modV
  rw [if_pos h]
theorem div_int {i j : Int} (h : 0 < j) (h2 : j < 2 ^ 62) : pDiv [.int i, .int j] = some (.int (i / j)) := by
  have : divOk j = true := by
    unfold divOk
    rw [Bool.and_eq_true]
    refine ⟨decide_eq_true (by omega), decide_eq_true ?_⟩
    have h0 : j.natAbs ≠ 0 := by omega
    exact Nat.lt_trans ((Nat.log2_lt h0 (k := 62)).mpr (by omega)) (by decide)
  show (if divOk j = true then _ else _) = _
  rw [if_pos this]
  unfold divV
  rw [if_pos h]
theorem ix0_str {s : Str} {c : Nat} {r : List Nat} (h : s.length ≤ 16777216) (e : sgs s = c :: r) : pIx [.str s, .int 0] = some (.str (sg c)) := by
  show (if s.length ≤ sizeLine then (atI s.cps.toList 0).map (fun c => D.str ⟨#[c]⟩) else none) = _
  rw [if_pos (show s.length ≤ sizeLine from h), show s.cps.toList = c :: r from e]
  simp [atI, ixN]
  rfl
theorem figs_sgs : sgs figs = [48, 49, 50, 51, 52, 53, 54, 55, 56, 57] := by decide +kernel
theorem among_figs {s : Str} (h : among s figs = true) : AllDigits (sgs s) := fun c hc => by
  have := List.all_eq_true.mp h c hc
  have := of_decide_eq_true this
  rw [figs_sgs] at this
  simp at this
  omega
theorem sidx {k : Nat} (h : k < 10) : pSIdx [.str figs, .str (sg (48 + k))] = some (.int k) := by
  have : ∀ k : Fin 10, Builtin.Str.occurrences figs (sg (48 + k.val)) 0 figs.length 1 = [k.val] := by decide +kernel
  show (match Builtin.Str.occurrences figs (sg (48 + k)) 0 figs.length 1 with
    | i :: _ => some (D.int (i : Nat))
    | [] => none) = _
  rw [this ⟨k, h⟩]
theorem dv_snoc (cs : List Nat) (c : Nat) : digitsVal (cs ++ [c]) = digitsVal cs * 10 + (c - 48) := by
  unfold digitsVal
  rw [List.foldl_append]
  rfl
theorem dv_lt (cs : List Nat) (h : AllDigits cs) : digitsVal cs < 10 ^ cs.length := by
  have key : ∀ rs : List Nat, AllDigits rs → digitsVal rs.reverse < 10 ^ rs.length := by
    intro rs
    induction rs with
    | nil => intro _; decide
    | cons c rs ih =>
      intro h
      have h1 := ih fun d hd => h d (List.mem_cons_of_mem _ hd)
      have h2 := h c List.mem_cons_self
      rw [List.reverse_cons, dv_snoc, List.length_cons, Nat.pow_succ]
      omega
  have := key cs.reverse fun d hd => h d (List.mem_reverse.mp hd)
  rwa [List.reverse_reverse, List.length_reverse] at this
def numD (s : Str) : D := if decide ((1 : Int) ≤ s.length) && (decide ((s.length : Int) ≤ 1000) && among s figs) then (if sg ((sgs s).headD 0) == sg 48 && !(s == sg 48) then .non else .int (digitsVal (sgs s))) else .non
theorem zero_sg : (Str.ofString "0") = sg 48 := by decide +kernel
theorem number_of_eq {s : Str} (h : s.length ≤ 16777216) : m_number_of [.str s] = .ok (numD s) := by
  have e : m_are_signs [.str s, .str "0123456789"] = Ot.ok (D.bl (among s figs)) := are_signs_eq (s := s) (z := figs) h
  unfold m_number_of g_number_of numD
  rw [zero_sg]
  by_cases h1 : (1 : Int) ≤ s.length
  · by_cases h2 : (s.length : Int) ≤ 1000
    · cases ha : among s figs with
      | false =>
        rw [ha] at e
        simp [isiD, tyN, nbTy, len_str h, le_int, h1, h2, e]
      | true =>
        rw [ha] at e
        cases hs : sgs s with
        | nil =>
          have := sgs_len (s := s)
          rw [hs] at this
          simp at this
          omega
        | cons c r =>
          have i0 := ix0_str h hs
          have hd := among_figs ha
          have it := intText_digits (x := s) hd (by show sgs s ≠ []; rw [hs]; simp) (by omega)
          have i4 : pInt4 [.str s] = some (.int (digitsVal (sgs s))) := by
            show (if s.length ≤ 4300 then (PySem.intText? s).map D.int else none) = _
            rw [if_pos (by omega), it]; rfl
          rw [hs] at i4
          obtain ⟨b1, hb1⟩ : ∃ b, (sg c == sg 48) = b := ⟨_, rfl⟩
          obtain ⟨b2, hb2⟩ : ∃ b, (s == sg 48) = b := ⟨_, rfl⟩
          have q1 := eq_str (i := sg c) (j := sg 48)
          have q2 := ne_str (i := s) (j := sg 48)
          rw [hb1] at q1
          rw [hb2] at q2
          rw [List.headD_cons, hb1, hb2]
          clear hb1 hb2
          cases b1 <;> cases b2 <;> simp [isiD, tyN, nbTy, len_str h, le_int, h1, h2, e, i0, q1, q2, i4]
    · simp [isiD, tyN, nbTy, len_str h, le_int, h1, h2, e]
  · simp [isiD, tyN, nbTy, len_str h, le_int, h1, e]
/-- the law's own reading -/
theorem law_num_loop {s : Str} (ha : AllDigits (sgs s)) (hl : s.length ≤ 1000) (x : Option D) : ∃ x', sFz 0 (sFor (itV (eVar 0)) (tgName 2)
    (sSet 1 (ePr pAdd [ePr pMul [eC (.int 10), eVar 1], eM "str" pSIdx (eC (.str "0123456789")) [eVar 2]]))) [some (.str s), some (.int 0), x] = some (.nx, [some (.str s), some (.int (digitsVal (sgs s))), x']) := by
  have hf : fzE 0 [some (.str s), some (.int 0), x] = [some (.str s), some (.int 0), x] := rfl
  obtain ⟨ρ', e, x', rfl⟩ := sFor_ok (it := itV (eVar 0)) (tg := tgName 2) (b := sSet 1 (ePr pAdd [ePr pMul [eC (.int 10), eVar 1], eM "str" pSIdx (eC (.str "0123456789")) [eVar 2]])) (ρ := [some (.str s), some (.int 0), x]) (ds := (sgs s).map fun c => D.str (sg c)) rfl
    (fun j ρ => ∃ x', ρ = [some (.str s), some (.int (digitsVal ((sgs s).take j))), x']) ⟨x, rfl⟩ (fun j d ρ hd ⟨x', hρ⟩ => by
      subst hρ
      rw [List.getElem?_map] at hd
      cases hc : (sgs s)[j]? with
      | none => rw [hc] at hd; cases hd
      | some c =>
        rw [hc] at hd
        cases hd
        have hm := List.mem_of_getElem? hc
        have hr := ha c hm
        obtain ⟨k, rfl⟩ : ∃ k, c = 48 + k := ⟨c - 48, by omega⟩
        have hk : k < 10 := by omega
        refine ⟨[some (.str s), some (.int (digitsVal ((sgs s).take j))), some (.str (sg (48 + k)))], _, rfl, ?_, some (.str (sg (48 + k))), rfl⟩
        have lt := dv_lt ((sgs s).take j) fun d hd => ha d (List.mem_of_mem_take hd)
        have len : ((sgs s).take j).length ≤ 1000 := by rw [List.length_take, sgs_len]; omega
        have lt2 : digitsVal ((sgs s).take j) < 2 ^ 4000 := Nat.lt_of_lt_of_le lt (Nat.le_trans (Nat.pow_le_pow_right (by decide) len) (by decide +kernel))
        have em := mul_int (i := 10) (j := (digitsVal ((sgs s).take j) : Nat)) (k := 4) (l := 4000) (by decide) (by simpa using lt2) (by decide)
        have es := sidx hk
        unfold figs at es
        have et : (sgs s).take (j + 1) = (sgs s).take j ++ [48 + k] := by rw [List.take_add_one, hc]; rfl
        have ev : (digitsVal ((sgs s).take (j + 1)) : Int) = 10 * (digitsVal ((sgs s).take j) : Int) + k := by
          rw [et, dv_snoc]
          push_cast
          omega
        rw [ev]
        simp [em, es, add_int, tyB]) 
  refine ⟨x', ?_⟩
  unfold sFz
  rw [hf, e]
  rw [List.length_map, List.take_length]
theorem law_number_of_eq {s : Str} {n : Nat} (hn : n ≤ 16777216) (o : OkS s n) : m__law_number_of [.str s] = .ok (numD s) := by
  have h : s.length ≤ 16777216 := Nat.le_trans o.len hn
  have e := comp_notIn (i := 2) (s := s) (z := figs) (ρ := [some (.str s), none, none]) (fz := eC (.str figs)) h (by simp) (by simp) (fun d => rfl)
  have e2 := pNe_nil (f := .own) (g := .own) (n := 1) (ss := ((sgs s).filter fun c => !decide (c ∈ sgs figs)).map sg) fun t ht => by
    obtain ⟨c, hc, rfl⟩ := List.mem_map.mp ht
    exact sg_ok o (List.mem_filter.mp hc).1
  rw [List.map_map] at e2
  have e3 : (((sgs s).filter fun c => !decide (c ∈ sgs figs)).map sg).isEmpty = among s figs := by
    rw [List.isEmpty_map]
    exact odd_sgs
  rw [e3] at e2
  have e2 : pNe [.nd (.lst .own) (((sgs s).filter fun c => !decide (c ∈ sgs figs)).map fun c => .str (sg c)), .nd (.lst .own) []] = some (.bl (!among s figs)) := e2
  have e : eComp (itV (eVar 0)) (tgName 2) (eT (ePr pNotIn [eVar 2, eC (.str "0123456789")])) (eVar 2) [2] [some (.str s), none, none] = .ok (.nd (.lst .own) (((sgs s).filter fun c => !decide (c ∈ sgs figs)).map fun c => .str (sg c))) := e
  unfold m__law_number_of g__law_number_of numD
  by_cases h1 : (1 : Int) ≤ s.length
  · by_cases h2 : (s.length : Int) ≤ 1000
    · cases ha : among s figs with
      | false =>
        rw [ha] at e2
        simp [isiD, tyN, nbTy, len_str h, le_int, h1, h2, e, e2, pLst, sizeLine]
      | true =>
        rw [ha] at e2
        cases hs : sgs s with
        | nil =>
          have := sgs_len (s := s)
          rw [hs] at this
          simp at this
          omega
        | cons c r =>
          have i0 := ix0_str h hs
          have hd := among_figs ha
          obtain ⟨x', el⟩ := law_num_loop hd (by omega) none
          rw [hs] at el e e2
          rw [zero_sg]
          obtain ⟨b1, hb1⟩ : ∃ b, (sg c == sg 48) = b := ⟨_, rfl⟩
          obtain ⟨b2, hb2⟩ : ∃ b, (s == sg 48) = b := ⟨_, rfl⟩
          have q1 := eq_str (i := sg c) (j := sg 48)
          have q2 := ne_str (i := s) (j := sg 48)
          rw [hb1] at q1
          rw [hb2] at q2
          rw [List.headD_cons, hb1, hb2]
          clear hb1 hb2
          cases b1 <;> cases b2 <;> simp [isiD, tyN, nbTy, len_str h, le_int, h1, h2, e, e2, i0, q1, q2, pLst, sizeLine, el]
    · simp [isiD, tyN, nbTy, len_str h, le_int, h1, h2, e]
  · simp [isiD, tyN, nbTy, len_str h, le_int, h1]
end OB

namespace OB
open PySem PySem.Spec PyProof.Rows L2 PySem.NumText
theorem alike_bl (b : Bool) : m__law_alike [.bl b, .bl b] = .ok (.bl true) := by
  unfold m__law_alike g__law_alike
  simp [isiD, tyN, nbTy, ne_bl, eq_bl]
theorem alike_int (i : Int) : m__law_alike [.int i, .int i] = .ok (.bl true) := by
  unfold m__law_alike g__law_alike
  simp [isiD, tyN, nbTy, ne_bl, eq_int]
theorem alike_non : m__law_alike [.non, .non] = .ok (.bl true) := by
  unfold m__law_alike g__law_alike
  simp [isiD, tyN, nbTy, ne_bl, pEq, atEq]
theorem alike_numD (s : Str) : m__law_alike [numD s, numD s] = .ok (.bl true) := by
  unfold numD
  split
  · split
    · exact alike_non
    · exact alike_int _
  · exact alike_non
theorem numD_arg (s : Str) : mapF Fl.toArg (numD s) = numD s ∧ noB (numD s) = true ∧ noT (numD s) = true := by
  unfold numD
  split
  · split <;> exact ⟨rfl, rfl, rfl⟩
  · exact ⟨rfl, rfl, rfl⟩
/-- the odd things that are no numbers, no truths -/
def conts : List D := [.non, .nd .tup [], .nd (.lst .frz) [.str "a"], .nd .tup [.str "a"], .nd (.dct .frz []) [], .nd (.lst .frz) []]
theorem asked_str {w : Int} (hw : w = 0 ∨ w = 1 ∨ w = 2 ∨ w = 3) {s : Str} {n : Nat} (hn : n ≤ 16777216) (o : OkS s n) (l m : Int) : m__law_asked [.int w, .str s, .int l, .int m] = .ok (.bl true) := by
  have h : s.length ≤ 16777216 := Nat.le_trans o.len hn
  obtain ⟨a1, a2, a3⟩ := numD_arg s
  have e1 := is_name_eq h
  have e2 := law_is_name_eq hn o
  have e3 := number_of_eq h
  have e4 := law_number_of_eq hn o
  have e5 := is_whole_eq (.str s) (by simp [tyN])
  have e6 : m_is_among [.str s, .int l, .int m] = .ok (.bl false) := by
    unfold m_is_among g_is_among
    simp [e5]
  have e5 : m_is_whole [.str s] = .ok (.bl false) := e5
  unfold m__law_asked g__law_asked
  rcases hw with rfl | rfl | rfl | rfl <;> simp [isiD, tyN, nbTy, eq_int, e1, e2, e3, e4, e5, e6, a1, a2, a3, alike_bl, alike_numD]
theorem asked_int {w : Int} (hw : w = 0 ∨ w = 1 ∨ w = 2 ∨ w = 3) (i l m : Int) : m__law_asked [.int w, .int i, .int l, .int m] = .ok (.bl true) := by
  have e1 : m_is_name [.int i] = .ok (.bl false) := by unfold m_is_name g_is_name; simp [isiD, tyN, nbTy]
  have e2 : m__law_is_name [.int i] = .ok (.bl false) := by unfold m__law_is_name g__law_is_name; simp [isiD, tyN, nbTy]
  have e3 : m_number_of [.int i] = .ok .non := by unfold m_number_of g_number_of; simp [isiD, tyN, nbTy]
  have e4 : m__law_number_of [.int i] = .ok .non := by unfold m__law_number_of g__law_number_of; simp [isiD, tyN, nbTy]
  have e5 : m_is_whole [.int i] = .ok (.bl true) := is_whole_eq (.int i) (by simp [tyN])
  have e6 : m_is_among [.int i, .int l, .int m] = .ok (.bl (decide (l ≤ i) && decide (i ≤ m))) := by
    unfold m_is_among g_is_among
    by_cases h : l ≤ i <;> simp [e5, le_int, h]
  unfold m__law_asked g__law_asked
  rcases hw with rfl | rfl | rfl | rfl
  · simp [isiD, tyN, nbTy, eq_int, e1, e2, alike_bl]
  · simp [isiD, tyN, nbTy, eq_int, e3, e4, alike_non]
  · simp [isiD, tyN, nbTy, eq_int, e5, alike_bl]
  · have a1 := alike_bl true
    have a2 := alike_bl false
    by_cases h1 : l ≤ i <;> by_cases h2 : i ≤ m <;> simp [isiD, tyN, nbTy, eq_int, e6, le_int, h1, h2, a1, a2]
theorem asked_bl {w : Int} (hw : w = 0 ∨ w = 1 ∨ w = 2 ∨ w = 3) (b : Bool) (l m : Int) : m__law_asked [.int w, .bl b, .int l, .int m] = .ok (.bl true) := by
  have e1 : m_is_name [.bl b] = .ok (.bl false) := by unfold m_is_name g_is_name; simp [isiD, tyN, nbTy]
  have e2 : m__law_is_name [.bl b] = .ok (.bl false) := by unfold m__law_is_name g__law_is_name; simp [isiD, tyN, nbTy]
  have e3 : m_number_of [.bl b] = .ok .non := by unfold m_number_of g_number_of; simp [isiD, tyN, nbTy]
  have e4 : m__law_number_of [.bl b] = .ok .non := by unfold m__law_number_of g__law_number_of; simp [isiD, tyN, nbTy]
  have e5 : m_is_whole [.bl b] = .ok (.bl false) := is_whole_eq (.bl b) (by simp [tyN])
  have e6 : m_is_among [.bl b, .int l, .int m] = .ok (.bl false) := by
    unfold m_is_among g_is_among
    simp [e5]
  have a2 := alike_bl false
  unfold m__law_asked g__law_asked
  rcases hw with rfl | rfl | rfl | rfl <;> simp [isiD, tyN, nbTy, eq_int, e1, e2, e3, e4, e5, e6, a2, alike_non]
theorem asked_cont {w : Int} (hw : w = 0 ∨ w = 1 ∨ w = 2 ∨ w = 3) {d : D} (hd : d ∈ conts) (l m : Int) : m__law_asked [.int w, d, .int l, .int m] = .ok (.bl true) := by
  have key : m_is_name [d] = .ok (.bl false) ∧ m__law_is_name [d] = .ok (.bl false) ∧ m_number_of [d] = .ok .non ∧ m__law_number_of [d] = .ok .non ∧ m_is_whole [d] = .ok (.bl false) ∧ mapF Fl.toTmp d = d ∧ mapF Fl.toArg d = d ∧ isiD (nbTy "int") (fun _ => none) d = some false := by
    unfold conts at hd
    simp only [List.mem_cons, List.not_mem_nil, or_false] at hd
    rcases hd with rfl | rfl | rfl | rfl | rfl | rfl <;>
      exact ⟨by unfold m_is_name g_is_name; simp [isiD, tyN, nbTy], by unfold m__law_is_name g__law_is_name; simp [isiD, tyN, nbTy], by unfold m_number_of g_number_of; simp [isiD, tyN, nbTy], by unfold m__law_number_of g__law_number_of; simp [isiD, tyN, nbTy], by unfold m_is_whole g_is_whole; simp [isiD, tyN, nbTy], by simp, by simp, by simp [isiD, tyN, nbTy]⟩
  obtain ⟨e1, e2, e3, e4, e5, b1, b2, b3⟩ := key
  have e6 : m_is_among [d, .int l, .int m] = .ok (.bl false) := by
    unfold m_is_among g_is_among
    simp [e5, b1, b2]
  have a2 := alike_bl false
  unfold m__law_asked g__law_asked
  rcases hw with rfl | rfl | rfl | rfl <;> simp [eq_int, e1, e2, e3, e4, e5, e6, b1, b2, b3, a2, alike_non]
/-- mixed -/
def mx (c k : Int) : Int := ((c + 7919 * k + 1) ^ 3 * 48271) % 2147483647
theorem mx_range (c k : Int) : 0 ≤ mx c k ∧ mx c k < 2147483647 := ⟨Int.emod_nonneg _ (by decide), Int.emod_lt_of_pos _ (by decide)⟩
theorem mixed_eq {c k : Int} {n : Nat} (hn : n ≤ 1048580) (hc : c.natAbs < 2 ^ n) (hk : k.natAbs ≤ 1000) : m__law_mixed [.int c, .int k] = .ok (.int (mx c k)) := by
  have e1 := mul_int (i := 7919) (j := k) (k := 13) (l := 10) (by decide) (by omega) (by decide)
  have hx : (c + 7919 * k + 1).natAbs < 2 ^ (n + 24) := by
    rw [Nat.pow_add]
    generalize 2 ^ n = p at hc ⊢
    omega
  have e2 : pPow [.int (c + 7919 * k + 1), .int 3] = some (.int ((c + 7919 * k + 1) ^ 3)) := by
    have : powOk (c + 7919 * k + 1) 3 = true := by
      unfold powOk
      rw [Bool.and_eq_true]
      refine ⟨by decide, decide_eq_true ?_⟩
      have := bits_le hx
      have h2 : (2 : Int) ^ 27 = 134217728 := by decide
      rw [h2]
      omega
    show (if powOk (c + 7919 * k + 1) 3 = true then _ else _) = _
    exact if_pos this
  have e3 := mul_int (i := (c + 7919 * k + 1) ^ 3) (j := 48271) (k := (n + 24) * 3) (l := 16) (by
    rw [Int.natAbs_pow, Nat.pow_mul]
    exact Nat.pow_lt_pow_left hx (by decide)) (by decide) (by omega)
  have e4 := mod_int (i := (c + 7919 * k + 1) ^ 3 * 48271) (j := 2147483647) (by decide)
  unfold m__law_mixed g__law_mixed mx
  simp [e1, add_int, e2, e3, e4]
end OB

namespace OB
open PySem PySem.Spec PyProof.Rows L2 PySem.NumText
theorem range8 {n : Nat} {j : Nat} {d : D} (h : (rngD 0 (n : Nat))[j]? = some d) : j < n ∧ d = .int j := by
  unfold rngD at h
  rw [List.getElem?_map] at h
  cases e : (List.range ((n : Int) - 0).toNat)[j]? with
  | none => rw [e] at h; cases h
  | some i =>
    rw [e] at h
    cases h
    obtain ⟨h1, h2⟩ := List.getElem?_eq_some_iff.mp e
    simp at h1 h2
    subst h2
    exact ⟨by omega, by simp⟩
theorem ipow {n : Nat} (hn : 0 < n) {j k : Nat} (h : j ≤ k) : ((n : Nat) : Int) ^ j ≤ ((n : Nat) : Int) ^ k := by
  rw [← Int.natCast_pow, ← Int.natCast_pow]
  exact Int.ofNat_le.mpr (Nat.pow_le_pow_right hn h)
theorem great_eq {c k : Int} (hc : 0 ≤ c ∧ c < 2147483647) (hk : k = 1 ∨ k = 2) : ∃ v : Int, m__law_great [.int c, .int k] = .ok (.int v) ∧ 0 ≤ v ∧ v < 2147483648 ^ 8 := by
  have step : ∀ (j : Nat) (v : Int), j < 8 → 0 ≤ v → v < 2147483648 ^ j → 0 ≤ v * 2147483648 + mx c (8 * k + j) ∧ v * 2147483648 + mx c (8 * k + j) < 2147483648 ^ (j + 1) := fun j v hj h0 h1 => by
    obtain ⟨a, b⟩ := mx_range c (8 * k + j)
    rw [Int.pow_succ]
    generalize (2147483648 : Int) ^ j = p at h1 ⊢
    omega
  obtain ⟨ρ', e, v, x, rfl, h0, h1⟩ := sFor_ok (it := itR1 [eC (.int 8)]) (tg := tgName 3) (b := sSet 2 (ePr pAdd [ePr pMul [eVar 2, eC (.int 2147483648)], eCall m__law_mixed [] [eVar 0, ePr pAdd [ePr pMul [eC (.int 8), eVar 1], eVar 3]]]))
    (ρ := [some (.int c), some (.int k), some (.int 0), none]) (ds := rngD 0 8) rfl (fun j ρ => ∃ (v : Int) (x : Option D), ρ = [some (.int c), some (.int k), some (.int v), x] ∧ 0 ≤ v ∧ v < 2147483648 ^ j) ⟨0, none, rfl, by decide, by decide⟩ (fun j d ρ hd ⟨v, x, hρ, h0, h1⟩ => by
      obtain ⟨hj, rfl⟩ := range8 (n := 8) hd
      subst hρ
      obtain ⟨s0, s1⟩ := step j v hj h0 h1
      refine ⟨[some (.int c), some (.int k), some (.int v), some (.int j)], _, rfl, ?_, v * 2147483648 + mx c (8 * k + j), some (.int j), rfl, s0, s1⟩
      have hv : v.natAbs < 2 ^ 248 := by
        have : v < 2147483648 ^ 8 := Int.lt_of_lt_of_le h1 (ipow (n := 2147483648) (by decide) (by omega))
        have e8 : (2147483648 : Int) ^ 8 = 2 ^ 248 := by decide
        rw [e8] at this
        have e9 : ((2 ^ 248 : Nat) : Int) = 2 ^ 248 := by decide
        omega
      have e1 := mul_int (i := v) (j := 2147483648) (k := 248) (l := 32) hv (by decide) (by decide)
      have e2 := mul_int (i := 8) (j := k) (k := 4) (l := 4) (by decide) (by rcases hk with rfl | rfl <;> decide) (by decide)
      have e3 := mixed_eq (c := c) (k := 8 * k + j) (n := 31) (by decide) (by omega) (by rcases hk with rfl | rfl <;> omega)
      simp [e1, e2, add_int, e3])
  refine ⟨v, ?_, h0, h1⟩
  unfold m__law_great g__law_great
  simp only [bodyM_eq, initE_eq, sSeq_eq, sSet_eq, eC_eq, noT_int, if_true, List.map_cons, List.map_nil, List.length_cons, List.length_nil]
  simp [e]
/-! ### the figures of a number -/
def dgs (n : Nat) : List Nat := (Nat.toDigits 10 n).map Char.toNat
theorem dgs_lt {m : Nat} (h : m < 10) : dgs m = [48 + m] := by
  unfold dgs
  rw [Nat.toDigits_of_lt_base h]
  have : ∀ k : Fin 10, (Nat.digitChar k.val).toNat = 48 + k.val := by decide +kernel
  simp [this ⟨m, h⟩]
theorem dgs_ge {m : Nat} (h : 10 ≤ m) : dgs m = dgs (m / 10) ++ [48 + m % 10] := by
  have hm : m % 10 < 10 := Nat.mod_lt m (by decide)
  have t : Nat.toDigits 10 (m / 10) ++ Nat.toDigits 10 (m % 10) = Nat.toDigits 10 (10 * (m / 10) + m % 10) := Nat.toDigits_append_toDigits (by decide) (by omega) hm
  rw [Nat.div_add_mod] at t
  have e := dgs_lt hm
  unfold dgs at e ⊢
  rw [← t, List.map_append, e]
theorem dgs_all : ∀ (m : Nat), (∀ c ∈ dgs m, 48 ≤ c ∧ c ≤ 57) ∧ digitsVal (dgs m) = m ∧ (0 < m → ∃ c r, dgs m = c :: r ∧ c ≠ 48) := fun m => by
  induction m using Nat.strongRecOn with
  | _ m ih =>
    by_cases h : m < 10
    · rw [dgs_lt h]
      refine ⟨fun c hc => ?_, ?_, fun h0 => ⟨_, _, rfl, by omega⟩⟩
      · have : c = 48 + m := by simpa using hc
        omega
      · show 0 * 10 + (48 + m - 48) = m
        omega
    · rw [dgs_ge (by omega)]
      obtain ⟨i1, i2, i3⟩ := ih (m / 10) (by omega)
      refine ⟨fun c hc => ?_, ?_, fun _ => ?_⟩
      · rcases List.mem_append.mp hc with q | q
        · exact i1 c q
        · have : c = 48 + m % 10 := by simpa using q
          omega
      · rw [dv_snoc, i2]
        omega
      · obtain ⟨c, r, e, hc⟩ := i3 (by omega)
        exact ⟨c, r ++ [48 + m % 10], by rw [e]; rfl, hc⟩
theorem dgs_len : ∀ (k m : Nat), m < 10 ^ (k + 1) → (dgs m).length ≤ k + 1
  | 0, m, h => by rw [dgs_lt (by simpa using h)]; simp
  | k + 1, m, h => by
    by_cases h2 : m < 10
    · rw [dgs_lt h2]; simp
    · rw [dgs_ge (by omega), List.length_append]
      have := dgs_len k (m / 10) (by rw [Nat.pow_succ] at h; omega)
      simp; omega
/-- its text -/
def num (m : Nat) : Str := ⟨(dgs m).toArray⟩
theorem num_eq (m : Nat) : Str.ofString (toString ((m : Nat) : Int)) = num m := by
  have := PySem.W.KIN.signs_num m
  have e : (Str.ofString (toString ((m : Nat) : Int))).cps = (dgs m).toArray := by
    rw [← Array.toArray_toList (xs := (Str.ofString (toString ((m : Nat) : Int))).cps), this]
    rfl
  cases h : Str.ofString (toString ((m : Nat) : Int)) with
  | mk a =>
    rw [h] at e
    unfold num
    rw [← e]
theorem sgs_num (m : Nat) : sgs (num m) = dgs m := by unfold sgs num; simp
theorem numD_num {m : Nat} (h : (dgs m).length ≤ 1000) : numD (num m) = .int m := by
  obtain ⟨a1, a2, a3⟩ := dgs_all m
  have hl : (num m).length = (dgs m).length := by rw [← sgs_len, sgs_num]
  have h0 : 1 ≤ (dgs m).length := by
    by_cases h : m < 10
    · rw [dgs_lt h]; simp
    · rw [dgs_ge (by omega)]; simp
  have ha : among (num m) figs = true := by
    unfold among
    rw [sgs_num, List.all_eq_true]
    intro c hc
    obtain ⟨b1, b2⟩ := a1 c hc
    rw [figs_sgs]
    have : c = 48 ∨ c = 49 ∨ c = 50 ∨ c = 51 ∨ c = 52 ∨ c = 53 ∨ c = 54 ∨ c = 55 ∨ c = 56 ∨ c = 57 := by omega
    exact decide_eq_true (by simpa using this)
  unfold numD
  rw [ha, hl, decide_eq_true (by omega), decide_eq_true (by omega), sgs_num, a2]
  simp only [Bool.and_self, if_true]
  rw [if_neg]
  rw [Bool.and_eq_true, not_and]
  intro e1 e2
  have e1 : sg ((dgs m).headD 0) = sg 48 := by simpa using e1
  by_cases hm : 0 < m
  · obtain ⟨c, r, e, hc⟩ := a3 hm
    rw [e] at e1
    unfold sg at e1
    simp at e1
    exact hc e1
  · have : m = 0 := by omega
    subst this
    have : num 0 = sg 48 := by decide +kernel
    rw [this] at e2
    simp at e2
end OB

namespace OB
open PySem PySem.Spec PyProof.Rows L2 PySem.NumText
@[simp] theorem mapF_comp_str {k : Fl → Fl} : mapF k ∘ D.str = D.str := rfl
@[simp] theorem mapF_comp_str2 {α : Type} {k : Fl → Fl} {g : α → Str} : mapF k ∘ D.str ∘ g = D.str ∘ g := rfl
@[simp] theorem map_mapF_str {k : Fl → Fl} {F : List Str} : List.map (mapF k) (F.map D.str) = F.map D.str := by rw [List.map_map]; rfl
@[simp] theorem all_noT_str {F : List Str} : (F.map D.str).all noT = true := by rw [List.all_map]; exact List.all_eq_true.mpr fun _ _ => rfl
@[simp] theorem all_noB_str {F : List Str} : (F.map D.str).all noB = true := by rw [List.all_map]; exact List.all_eq_true.mpr fun _ _ => rfl
theorem ixfig {k : Nat} (h : k < 10) : pIx [.str figs, .int (k : Nat)] = some (.str (sg (48 + k))) := by
  have : ∀ k : Fin 10, atI figs.cps.toList ((k.val : Nat) : Int) = some (48 + k.val) := by decide +kernel
  show (if figs.length ≤ sizeLine then (atI figs.cps.toList (k : Nat)).map (fun c => D.str ⟨#[c]⟩) else none) = _
  rw [if_pos (by decide +kernel), this ⟨k, h⟩]
  rfl
theorem gt_int {i j : Int} : pGt [.int i, .int j] = some (.bl (decide (j < i))) := rfl
def tW : En → Ot Bool := bOr (eT (ePr pGt [eVar 3, eC (.int 0)])) (eT (ePr pEq [eVar 2, ePr pLst []]))
def bW : Mst := sSeq (sMut 2 pHere mApp (eL [ePr pIx [eC (.str "0123456789"), ePr pMod [eVar 3, eC (.int 10)]]])) (sSet 3 (ePr pDiv [eVar 3, eC (.int 10)]))
def stW (n : Int) (t : Str) (F : List Str) (m : Nat) : En := [some (.int n), some (.str t), some (.nd (.lst .own) (F.map .str)), some (.int m), none]
theorem tW_eq {n : Int} {t : Str} {F : List Str} {m : Nat} (hF : ∀ s ∈ F, OkS s 1) : tW (stW n t F m) = .ok (decide (0 < m) || F.isEmpty) := by
  have e := pEq_nil (f := .tmp) (g := .own) hF
  unfold tW stW
  by_cases h : 0 < m
  · have : (0 : Int) < m := by omega
    simp [gt_int, h]
  · have h2 : ¬ (0 : Int) < m := by omega
    simp [gt_int, h, pLst, sizeLine, e]
theorem bW_eq {n : Int} {t : Str} {F : List Str} {m : Nat} (hl : F.length < 16777216) : bW (stW n t F m) = some (.nx, stW n t (F ++ [sg (48 + m % 10)]) (m / 10)) := by
  have e0 : placeOf 2 pHere (stW n t F m) = some (.nd (.lst .own) (F.map .str), [], .lst .own, F.map .str) := rfl
  have h10 : m % 10 < 10 := Nat.mod_lt m (by decide)
  have e1 := mod_int (i := m) (j := 10) (by decide)
  have e2 := ixfig h10
  rw [show ((m % 10 : Nat) : Int) = (m : Int) % 10 by omega] at e2
  unfold figs at e2
  have e3 : mApp (F.map .str) [.str (sg (48 + m % 10))] = some (F.map .str ++ [.str (sg (48 + m % 10))]) := if_pos (show (F.map D.str).length < sizeLine by rw [List.length_map]; exact hl)
  have e4 := div_int (i := m) (j := 10) (by decide) (by decide)
  unfold bW
  rw [sSeq_eq]
  unfold sMut
  rw [e0]
  unfold stW sOnL
  simp [e1, e2, e3, e4, putAt, putP]
theorem loopW (n : Int) (t : Str) : ∀ (k m : Nat) (F : List Str), m < 10 ^ (k + 1) → F.length + k + 1 ≤ 1000 → (∀ s ∈ F, OkS s 1) → (0 < m ∨ F = []) → ∃ N, whileL tW bW N (stW n t F m) = some (.nx, stW n t (F ++ (dgs m).reverse.map sg) 0) := by
  have sgo : ∀ m : Nat, OkS (sg (48 + m % 10)) 1 := fun m => ⟨Nat.le_refl _, fun d hd => by
    have : d = 48 + m % 10 := by simpa [sg] using hd
    omega⟩
  have one : ∀ (m : Nat) (F : List Str), F.length + 1 ≤ 1000 → (∀ s ∈ F, OkS s 1) → (0 < m ∨ F = []) → ∀ N r, whileL tW bW N (stW n t (F ++ [sg (48 + m % 10)]) (m / 10)) = r → whileL tW bW (N + 1) (stW n t F m) = r := fun m F hl hF h N r hr => by
    have e1 := tW_eq (n := n) (t := t) (m := m) hF
    have e2 : (decide (0 < m) || F.isEmpty) = true := by
      rcases h with h | h
      · rw [decide_eq_true h]; rfl
      · subst h; simp
    rw [e2] at e1
    have e3 := bW_eq (n := n) (t := t) (F := F) (m := m) (by omega)
    rw [whileL, e1]
    dsimp only
    rw [if_pos rfl, e3]
    exact hr
  have hF2 : ∀ (F : List Str) (m : Nat), (∀ s ∈ F, OkS s 1) → ∀ s ∈ F ++ [sg (48 + m % 10)], OkS s 1 := fun F m hF s hs => by
    rcases List.mem_append.mp hs with q | q
    · exact hF s q
    · have : s = sg (48 + m % 10) := by simpa using q
      subst this
      exact sgo m
  have base : ∀ (m : Nat) (F : List Str), m < 10 → F.length + 1 ≤ 1000 → (∀ s ∈ F, OkS s 1) → (0 < m ∨ F = []) → ∃ N, whileL tW bW N (stW n t F m) = some (.nx, stW n t (F ++ (dgs m).reverse.map sg) 0) := fun m F hm hl hF h => by
    refine ⟨2, one m F hl hF h 1 _ ?_⟩
    have e1 := tW_eq (n := n) (t := t) (F := F ++ [sg (48 + m % 10)]) (m := 0) (hF2 F m hF)
    rw [show (decide (0 < 0) || (F ++ [sg (48 + m % 10)]).isEmpty) = false by simp] at e1
    rw [show m / 10 = 0 by omega, dgs_lt hm, show m % 10 = m by omega]
    rw [show m % 10 = m by omega] at e1
    rw [whileL, e1]
    rfl
  intro k
  induction k with
  | zero => exact fun m F h1 h2 h3 h4 => base m F (by simpa using h1) h2 h3 h4
  | succ k ih =>
    intro m F h1 h2 h3 h4
    by_cases hm : m < 10
    · exact base m F hm (by omega) h3 h4
    · obtain ⟨N, e⟩ := ih (m / 10) (F ++ [sg (48 + m % 10)]) (by rw [Nat.pow_succ] at h1; omega) (by rw [List.length_append, List.length_singleton]; omega) (hF2 F m h3) (.inl (by omega))
      refine ⟨N + 1, one m F (by omega) h3 h4 N _ ?_⟩
      rw [e, dgs_ge (by omega : 10 ≤ m)]
      simp
theorem join_sg (cs : List Nat) : Txt.join "" (cs.map sg) = ⟨cs.toArray⟩ := by
  have key : ∀ cs : List Nat, (Str.join "" (cs.map sg)) = ⟨cs.toArray⟩ := by
    intro cs
    induction cs with
    | nil => rfl
    | cons c cs ih =>
      cases cs with
      | nil => rfl
      | cons d ds =>
        show sg c ++ "" ++ Str.join "" ((d :: ds).map sg) = _
        rw [ih]
        have : sg c ++ (Str.ofString "") = sg c := by
          show (⟨#[c] ++ (Str.ofString "").cps⟩ : Str) = ⟨#[c]⟩
          have : (Str.ofString "").cps = #[] := by decide +kernel
          rw [this]; simp
        rw [this]
        show (⟨#[c] ++ (d :: ds).toArray⟩ : Str) = _
        simp
  rw [TL.join_eq]
  exact key cs
theorem number_good_eq {m : Nat} (h : m < 10 ^ 61) : m__law_number_good [.int m] = .ok (.bl true) := by
  have hd := dgs_len 60 m h
  obtain ⟨N, e⟩ := loopW m (num m) 60 m [] h (by simp) (fun _ h => nomatch h) (.inr rfl)
  have ew := sWhile_of e
  rw [List.nil_append] at ew
  unfold tW bW stW at ew
  have hlog : (m : Int).natAbs.log2 < 1920 := by
    by_cases h0 : m = 0
    · subst h0; decide
    · refine (Nat.log2_lt (by simpa using h0)).mpr (Nat.lt_trans ?_ (by decide +kernel : 10 ^ 61 < 2 ^ 1920))
      simpa using h
  have e1 : pStr [.int m] = some (.str (num m)) := by
    show (if (m : Int).natAbs.log2 < 1920 then some (D.str (Str.ofString (toString (m : Int)))) else none) = _
    rw [if_pos hlog, num_eq]
  have e2 : m_number_text [.int m] = .ok (.str (num m)) := by
    unfold m_number_text g_number_text
    simp [e1]
  have e3 : pJoinRev [.str "", .nd (.lst .tmp) (((dgs m).reverse.map sg).map .str)] = some (.str (num m)) := by
    have hs : strsD (((dgs m).reverse.map sg).map .str) = some ((dgs m).reverse.map sg) := by
      generalize (dgs m).reverse.map sg = ys
      induction ys with
      | nil => rfl
      | cons y ys ih => rw [List.map_cons, strsD, ih]; rfl
    show (match strsD (((dgs m).reverse.map sg).map .str) with
      | some ys => if (ys.map Str.length).sum + ys.length * (Str.ofString "").length ≤ 16777216 then some (D.str (Txt.join "" ys.reverse)) else none
      | none => none) = _
    rw [hs]
    dsimp only
    have sums : ∀ cs : List Nat, ((cs.map sg).map Str.length).sum = cs.length := by
      intro cs
      induction cs with
      | nil => rfl
      | cons c cs ih => rw [List.map_cons, List.map_cons, List.sum_cons, ih, List.length_cons]; show 1 + _ = _; omega
    rw [if_pos (by rw [sums, List.length_reverse, show (Str.ofString "").length = 0 by decide +kernel]; omega)]
    rw [← List.map_reverse, List.reverse_reverse, join_sg]
    rfl
  have e4 : m_number_of [.str (num m)] = .ok (.int m) := by
    rw [number_of_eq (by rw [← sgs_len, sgs_num]; omega), numD_num (by omega)]
  have e5 := alike_int m
  have e6 := eq_str (i := num m) (j := num m)
  rw [beq_self_eq_true] at e6
  unfold m__law_number_good g__law_number_good
  simp [e2, pLst, sizeLine]
  simp at ew
  simp [ew]
  simp at e3
  simp [e3, isiD, tyN, nbTy, tyB, e6, e4, e5]
end OB

namespace OB
open PySem PySem.Spec PyProof.Rows L2 PySem.NumText
theorem odd_eq (c : Int) : ∃ d, m__law_odd [.int c] = .ok d ∧ ((∃ b, d = .bl b) ∨ (∃ i, d = .int i) ∨ d ∈ conts) := by
  have e1 := mod_int (i := c) (j := 10) (by decide)
  have h0 := Int.emod_nonneg c (show (10 : Int) ≠ 0 by decide)
  have h1 := Int.emod_lt_of_pos c (show (0 : Int) < 10 by decide)
  have hc : c % 10 = 0 ∨ c % 10 = 1 ∨ c % 10 = 2 ∨ c % 10 = 3 ∨ c % 10 = 4 ∨ c % 10 = 5 ∨ c % 10 = 6 ∨ c % 10 = 7 ∨ c % 10 = 8 ∨ c % 10 = 9 := by omega
  have key : ∀ k : Nat, c % 10 = (k : Int) → ∀ d, [D.non, .bl true, .bl false, .int 5, .nd .tup [], .nd (.lst .own) [.str "a"], .nd .tup [.str "a"], .nd (.dct .own []) [], .nd (.lst .own) [], .int (-3)][k]? = some d → m__law_odd [.int c] = .ok (mapF Fl.tmpFrz d) := fun k hk d hd => by
    rw [hk] at e1
    have hlt : k < 10 := (List.getElem?_eq_some_iff.mp hd).1
    have e2 : pIx [.nd (.lst .own) [D.non, .bl true, .bl false, .int 5, .nd .tup [], .nd (.lst .own) [.str "a"], .nd .tup [.str "a"], .nd (.dct .own []) [], .nd (.lst .own) [], .int (-3)], .int k] = some d := by
      show atI _ _ = _
      unfold atI ixN
      rw [if_pos (by omega), if_pos (by simp; omega)]
      simpa using hd
    unfold m__law_odd g__law_odd
    simp [pLst, pTup, sizeLine, pNeg, e1, e2]
  rcases hc with h | h | h | h | h | h | h | h | h | h
  · exact ⟨_, key 0 h _ rfl, .inr (.inr (by simp [conts]))⟩
  · exact ⟨_, key 1 h _ rfl, .inl ⟨_, rfl⟩⟩
  · exact ⟨_, key 2 h _ rfl, .inl ⟨_, rfl⟩⟩
  · exact ⟨_, key 3 h _ rfl, .inr (.inl ⟨_, rfl⟩)⟩
  · exact ⟨_, key 4 h _ rfl, .inr (.inr (by simp [conts]))⟩
  · exact ⟨_, key 5 h _ rfl, .inr (.inr (by simp [conts]))⟩
  · exact ⟨_, key 6 h _ rfl, .inr (.inr (by simp [conts]))⟩
  · exact ⟨_, key 7 h _ rfl, .inr (.inr (by simp [conts]))⟩
  · exact ⟨_, key 8 h _ rfl, .inr (.inr (by simp [conts]))⟩
  · exact ⟨_, key 9 h _ rfl, .inr (.inl ⟨_, rfl⟩)⟩
theorem at_str {z : Str} (hz : OkS z 200) {k : Int} (h0 : 0 ≤ k) (h1 : k < z.length) : ∃ w, pIx [.str z, .int k] = some (.str w) ∧ OkS w 1 := by
  have hl : k.toNat < (sgs z).length := by rw [sgs_len]; omega
  have e : atI z.cps.toList k = some ((sgs z)[k.toNat]) := by
    unfold atI ixN
    rw [if_pos h0, if_pos (by rw [show z.cps.toList = sgs z from rfl, sgs_len]; exact h1)]
    exact List.getElem?_eq_getElem hl
  refine ⟨sg ((sgs z)[k.toNat]), ?_, sg_ok hz (List.getElem_mem hl)⟩
  show (if z.length ≤ sizeLine then (atI z.cps.toList k).map (fun c => D.str ⟨#[c]⟩) else none) = _
  rw [if_pos (show z.length ≤ sizeLine from Nat.le_trans hz.len (by decide)), e]
  rfl
theorem okS_of {z : Str} {n : Nat} (h1 : z.length ≤ n) (h : z.cps.toList.all (fun c => decide (c < 0x110000)) = true) : OkS z n := ⟨h1, fun c hc => of_decide_eq_true (List.all_eq_true.mp h c hc)⟩
def signsS : Str := (" !\"#$&'()*+,-./0123456789:;<=>?@ABCDEFGHIJKLMNOPQRSTUVWXYZ[\\]^_`" : Str) ++ ("abcdefghijklmnopqrstuvwxyz{|}~" : Str)
theorem signs_ok : OkS signsS 200 := okS_of (by decide +kernel) (by decide +kernel)
theorem signs_len : signsS.length = 94 := by decide +kernel
theorem lets_ok : OkS lets 200 := okS_of (by decide +kernel) (by decide +kernel)
theorem lets_len : lets.length = 26 := by decide +kernel
theorem signs_eq : m__law_signs [] = .ok (.str signsS) := by
  have : pAdd [.str " !\"#$&'()*+,-./0123456789:;<=>?@ABCDEFGHIJKLMNOPQRSTUVWXYZ[\\]^_`", .str "abcdefghijklmnopqrstuvwxyz{|}~"] = some (.str signsS) := by
    unfold pAdd
    exact if_pos (by decide +kernel)
  unfold m__law_signs g__law_signs
  simp [this]
theorem str_fig {k : Int} (h0 : 0 ≤ k) (h1 : k < 10) : ∃ w, pStr [.int k] = some (.str w) ∧ OkS w 1 := by
  obtain ⟨m, rfl⟩ := Int.eq_ofNat_of_zero_le h0
  have hm : m < 10 := by omega
  refine ⟨num m, ?_, ?_, fun c hc => ?_⟩
  · unfold pStr
    have hlog : (m : Int).natAbs.log2 < 1920 := by
      by_cases h0 : m = 0
      · subst h0; decide
      · exact Nat.lt_trans ((Nat.log2_lt (k := 4) (by simpa using h0)).mpr (by simp; omega)) (by decide)
    dsimp only
    rw [if_pos hlog, num_eq]
  · rw [← sgs_len, sgs_num, dgs_lt hm]; simp
  · have hc : c ∈ sgs (num m) := hc
    rw [sgs_num, dgs_lt hm] at hc
    have : c = 48 + m := by simpa using hc
    omega
theorem rng_nat {n : Nat} (hn : n ≤ 2000) : rngOk (n : Int) = true := by
  have h1 : -(2 ^ 62 : Int) ≤ (n : Int) := by
    have : (0 : Int) ≤ 2 ^ 62 := by decide
    omega
  have h2 : (n : Int) < 2 ^ 62 := Int.lt_of_le_of_lt (b := 2000) (by omega) (by decide)
  unfold rngOk
  rw [decide_eq_true h1, decide_eq_true h2]
  rfl
theorem itR1_eq {ρ : En} {i n : Nat} (hr : rngOk (n : Int) = true) (ei : eVar i ρ = .ok (.int n)) : itR1 [eVar i] ρ = .ok (rngD 0 n, true) := by
  have e : eL [eVar i] ρ = .ok [.int n] := by rw [eL_cons, ei, eL_nil]; rfl
  unfold itR1
  rw [e, Ot.bind_ok]
  dsimp only
  rw [if_pos hr]
theorem compL_rng {f : En → Ot D} {ρ : En} {n : Nat} (hf : ∀ j : Nat, j < n → ∃ w, f (ρ.set 6 (some (.int j))) = .ok (.str w) ∧ OkS w 1) : ∀ l : List Nat, (∀ j ∈ l, j < n) → ∃ ws : List Str, compL (tgName 6) cYes f ρ (l.map fun j : Nat => D.int (0 + (j : Int))) = some (ws.map .str) ∧ ws.length = l.length ∧ ∀ w ∈ ws, OkS w 1 := by
  intro l
  induction l with
  | nil => exact fun _ => ⟨[], rfl, rfl, fun _ h => nomatch h⟩
  | cons j l ih =>
    intro h
    obtain ⟨ws, e1, e2, e3⟩ := ih fun j hj => h j (List.mem_cons_of_mem _ hj)
    obtain ⟨w, f1, f2⟩ := hf j (h j List.mem_cons_self)
    have ht : tgName 6 (.int (0 + (j : Int))) ρ = some (ρ.set 6 (some (.int j))) := by unfold tgName; rw [Int.zero_add]
    refine ⟨w :: ws, ?_, by simp [e2], fun v hv => ?_⟩
    · rw [List.map_cons]
      unfold compL
      rw [ht, Option.bind_some]
      unfold cYes
      dsimp only
      rw [f1]
      dsimp only
      unfold cYes at e1
      rw [e1]
      rfl
    · rcases List.mem_cons.mp hv with q | q
      · subst q; exact f2
      · exact e3 v q
theorem rng_len (n : Nat) : ((n : Int) - 0).toNat = n := by simp
theorem comp_rng {f : En → Ot D} {ρ : En} {i n : Nat} (hr : rngOk (n : Int) = true) (hs : n ≤ sizeLine) (ei : eVar i ρ = .ok (.int n)) (hf : ∀ j : Nat, j < n → ∃ w, f ((wipeE ρ [6]).set 6 (some (.int j))) = .ok (.str w) ∧ OkS w 1) :
    ∃ ws : List Str, eComp (itR1 [eVar i]) (tgName 6) cYes f [6] ρ = .ok (.nd (.lst .own) (ws.map .str)) ∧ ws.length = n ∧ ∀ w ∈ ws, OkS w 1 := by
  obtain ⟨ws, e1, e2, e3⟩ := compL_rng hf (List.range n) fun j hj => List.mem_range.mp hj
  rw [List.length_range] at e2
  refine ⟨ws, eComp_ok (itR1_eq hr ei) ?_ ?_, e2, e3⟩
  · unfold rngD
    rw [rng_len]
    exact e1
  · rw [List.length_map, e2]; exact hs
theorem join_ok {f : Fl} {ws : List Str} (h : ∀ w ∈ ws, OkS w 2) (hl : ws.length ≤ 1100) : ∃ t, pJoin [.str "", .nd (.lst f) (ws.map .str)] = some (.str t) ∧ OkS t 2200 := by
  have hs : strsD (ws.map .str) = some ws := by
    clear h hl
    induction ws with
    | nil => rfl
    | cons y ys ih => rw [List.map_cons, strsD, ih]; rfl
  have e0 : (Str.ofString "").length = 0 := by decide +kernel
  have sum : (ws.map Str.length).sum ≤ 2 * ws.length := by
    clear hl hs
    induction ws with
    | nil => simp
    | cons y ys ih =>
      have h1 := (h y List.mem_cons_self).len
      have h2 := ih fun w hw => h w (List.mem_cons_of_mem _ hw)
      rw [List.map_cons, List.sum_cons, List.length_cons]
      omega
  have ec : ∀ ws : List Str, (∀ w ∈ ws, OkS w 2) → ∀ c ∈ (Str.join "" ws).cps.toList, c < 0x110000 := by
    intro ws
    induction ws with
    | nil =>
      intro _ c hc
      have : c ∈ (#[] : Array Nat).toList := hc
      simp at this
    | cons y ys ih =>
      intro h
      cases ys with
      | nil => exact (h y List.mem_cons_self).ok
      | cons z zs =>
        intro c hc
        have hc : c ∈ (y.cps ++ (Str.ofString "").cps ++ (Str.join "" (z :: zs)).cps).toList := hc
        have : (Str.ofString "").cps = #[] := by decide +kernel
        rw [this] at hc
        simp only [Array.toList_append, List.mem_append] at hc
        rcases hc with (hc | hc) | hc
        · exact (h y List.mem_cons_self).ok c hc
        · simp at hc
        · exact ih (fun w hw => h w (List.mem_cons_of_mem _ hw)) c hc
  refine ⟨Txt.join "" ws, ?_, ?_, ?_⟩
  · show (strsD (ws.map .str)).bind (fun ys => if (ys.map Str.length).sum + ys.length * (Str.ofString "").length ≤ 16777216 then some (D.str (Txt.join "" ys)) else none) = _
    rw [hs, Option.bind_some, e0, if_pos (by omega)]
  · rw [TL.join_eq]
    have := StrLaws.join_length_le (Str.ofString "") ws
    rw [e0] at this
    change _ ≤ (ws.map Str.length).sum + _ at this
    omega
  · rw [TL.join_eq]
    exact ec ws h
end OB

namespace OB
open PySem PySem.Spec PyProof.Rows L2 PySem.NumText
theorem at_lst {f : Fl} {ds : List D} {k : Int} (h0 : 0 ≤ k) (h1 : k < ds.length) : ∃ d ∈ ds, pIx [.nd (.lst f) ds, .int k] = some d := by
  have hl : k.toNat < ds.length := by omega
  refine ⟨ds[k.toNat], List.getElem_mem hl, ?_⟩
  show atI ds k = _
  unfold atI ixN
  rw [if_pos h0, if_pos h1]
  exact List.getElem?_eq_getElem hl
theorem modr (c : Int) {j : Int} (h : 0 < j) : 0 ≤ c % j ∧ c % j < j := ⟨Int.emod_nonneg _ (by omega), Int.emod_lt_of_pos _ h⟩
def tailT : Mst := (sSeq ((sIf ((bAnd ((eT (ePr pEq [(ePr pMod [(ePr pDiv [eVar 0, eC (.int 450)]), eC (.int 4)]), eC (.int 1)]))) ((eT (ePr pNe [eVar 5, (ePr pLst [])])))))
  ((sPut 5 pHere ((ePr pIx [eC (.str "0-A _\t\n9az+."), (ePr pMod [(ePr pDiv [eVar 0, eC (.int 1800)]), eC (.int 12)])])) ((ePr pMod [(ePr pDiv [eVar 0, eC (.int 1800)]), (ePr pLen [eVar 5])]))))
  (sNil)))
  ((sSeq ((sIf ((eT (ePr pEq [(ePr pMod [(ePr pDiv [eVar 0, eC (.int 450)]), eC (.int 4)]), eC (.int 2)])))
  ((sSet 5 ((ePr pAdd [(eSl pSl ((eSl pSl ((ePr pLst [eC (.str "0"), eC (.str "-"), eC (.str "00"), eC (.str "-0")])) ((oSome ((ePr pMod [(ePr pDiv [eVar 0, eC (.int 1800)]), eC (.int 4)])))) (oNone))) (oNone) ((oSome (eC (.int 1))))), eVar 5]))))
  (sNil)))
  ((sRet ((eM "str" pJoin (eC (.str "")) [eVar 5])))))))
theorem len_lst {f : Fl} {ds : List D} : pLen [.nd (.lst f) ds] = some (.int ds.length) := rfl
theorem tail_eq {c : Int} {a b d e : Option D} {ws : List Str} (hws : ∀ w ∈ ws, OkS w 2) (hl : ws.length ≤ 1003) : ∃ t ρ', tailT [some (.int c), a, b, d, e, some (.nd (.lst .own) (ws.map .str)), none] = some (.ret (.str t), ρ') ∧ OkS t 2200 := by
  have fin : ∀ (ws : List Str), (∀ w ∈ ws, OkS w 2) → ws.length ≤ 1100 → ∃ t ρ', sRet (eM "str" pJoin (eC (.str "")) [eVar 5]) [some (.int c), a, b, d, e, some (.nd (.lst .own) (ws.map .str)), none] = some (.ret (.str t), ρ') ∧ OkS t 2200 := fun ws h hl => by
    obtain ⟨t, e1, e2⟩ := join_ok (f := .tmp) h hl
    exact ⟨t, _, by simp [tyB, e1]; rfl, e2⟩
  have m1 := mod_int (i := c / 450) (j := 4) (by decide)
  have d1 := div_int (i := c) (j := 450) (by decide) (by decide)
  have d2 := div_int (i := c) (j := 1800) (by decide) (by decide)
  have m2 := mod_int (i := c / 1800) (j := 12) (by decide)
  have m4 := mod_int (i := c / 1800) (j := 4) (by decide)
  have en := pNe_nil (f := .tmp) (g := .own) hws
  unfold tailT
  by_cases hA : c / 450 % 4 = 1
  · cases ws with
    | nil =>
      obtain ⟨t, ρ', e1, e2⟩ := fin [] hws (by simp)
      refine ⟨t, ρ', ?_, e2⟩
      rw [sSeq_nx (ρ1 := [some (.int c), a, b, d, e, some (.nd (.lst .own) (([] : List Str).map .str)), none])]
      · rw [sSeq_nx (ρ1 := [some (.int c), a, b, d, e, some (.nd (.lst .own) (([] : List Str).map .str)), none])]
        · exact e1
        · simp [d1, m1, hA, eq_int]
      · have en : pNe [.nd (.lst .tmp) [], .nd (.lst .own) []] = some (.bl false) := en
        simp [d1, m1, hA, eq_int, pLst, sizeLine, en]
    | cons w0 wr =>
      have hpos : (0 : Int) < ((w0 :: wr).length : Nat) := by simp
      have m3 := mod_int (i := c / 1800) (j := ((w0 :: wr).length : Nat)) hpos
      obtain ⟨r0, r1⟩ := modr (c / 1800) hpos
      obtain ⟨s0, s1⟩ := modr (c / 1800) (show (0 : Int) < 12 by decide)
      have zl : (Str.ofString "0-A _\t\n9az+.").length = 12 := by decide +kernel
      obtain ⟨v, ev, ov⟩ := at_str (z := "0-A _\t\n9az+.") (okS_of (by decide +kernel) (by decide +kernel)) s0 (by rw [zl]; exact s1)
      have ix : ixN (w0 :: wr).length (c / 1800 % ((w0 :: wr).length : Nat)) = some (c / 1800 % ((w0 :: wr).length : Nat)).toNat := by
        unfold ixN
        rw [if_pos r0, if_pos r1]
      obtain ⟨t, ρ', e1, e2⟩ := fin ((w0 :: wr).set (c / 1800 % ((w0 :: wr).length : Nat)).toNat v) (fun w hw => (List.mem_or_eq_of_mem_set hw).elim (hws w) fun q => q ▸ ⟨Nat.le_trans ov.len (by decide), ov.ok⟩) (by rw [List.length_set]; omega)
      refine ⟨t, ρ', ?_, e2⟩
      rw [sSeq_nx (ρ1 := [some (.int c), a, b, d, e, some (.nd (.lst .own) (((w0 :: wr).set (c / 1800 % ((w0 :: wr).length : Nat)).toNat v).map .str)), none])]
      · rw [sSeq_nx (ρ1 := [some (.int c), a, b, d, e, some (.nd (.lst .own) (((w0 :: wr).set (c / 1800 % ((w0 :: wr).length : Nat)).toNat v).map .str)), none])]
        · exact e1
        · simp [d1, m1, hA, eq_int]
      · rw [sIf_t]
        · have e0 : placeOf 5 pHere [some (.int c), a, b, d, e, some (.nd (.lst .own) ((w0 :: wr).map .str)), none] = some (.nd (.lst .own) ((w0 :: wr).map .str), [], .lst .own, (w0 :: wr).map .str) := rfl
          have ep : putD (.lst .own) ((w0 :: wr).map .str) (.int (c / 1800 % ((w0 :: wr).length : Nat))) (.str v) = some (.lst .own, ((w0 :: wr).set (c / 1800 % ((w0 :: wr).length : Nat)).toNat v).map .str) := by
            unfold putD
            dsimp only
            rw [List.length_map, ix]
            dsimp only
            rw [List.map_set]
          have eL1 : eL [ePr pIx [eC (.str "0-A _\t\n9az+."), ePr pMod [ePr pDiv [eVar 0, eC (.int 1800)], eC (.int 12)]], ePr pMod [ePr pDiv [eVar 0, eC (.int 1800)], ePr pLen [eVar 5]]] [some (.int c), a, b, d, e, some (.nd (.lst .own) ((w0 :: wr).map .str)), none] = .ok [.str v, .int (c / 1800 % ((w0 :: wr).length : Nat))] := by
            generalize w0 :: wr = ws at m3
            simp [d2, m2, ev, len_lst, m3]
          unfold sPut
          rw [e0]
          dsimp only
          unfold sOnL
          rw [eL1]
          dsimp only
          rw [if_pos (by rfl), ep]
          rfl
        · have en : pNe [.nd (.lst .tmp) ((w0 :: wr).map .str), .nd (.lst .own) []] = some (.bl true) := en
          generalize w0 :: wr = ws at en
          simp [d1, m1, hA, eq_int, pLst, sizeLine, en]
  · by_cases hB : c / 450 % 4 = 2
    · obtain ⟨s0, s1⟩ := modr (c / 1800) (show (0 : Int) < 4 by decide)
      have cut : ∀ k : Int, k = 0 ∨ k = 1 ∨ k = 2 ∨ k = 3 → ∃ v, cutD (cutD [.str "0", .str "-", .str "00", .str "-0"] (some k) none) none (some 1) = [.str v] ∧ OkS v 2 := by
        rintro k (rfl | rfl | rfl | rfl)
        · exact ⟨"0", rfl, okS_of (by decide +kernel) (by decide +kernel)⟩
        · exact ⟨"-", rfl, okS_of (by decide +kernel) (by decide +kernel)⟩
        · exact ⟨"00", rfl, okS_of (by decide +kernel) (by decide +kernel)⟩
        · exact ⟨"-0", rfl, okS_of (by decide +kernel) (by decide +kernel)⟩
      obtain ⟨v, ev, ov⟩ := cut (c / 1800 % 4) (by omega)
      obtain ⟨t, ρ', e1, e2⟩ := fin (v :: ws) (fun w hw => (List.mem_cons.mp hw).elim (fun q => q ▸ ov) (hws w)) (by simp; omega)
      refine ⟨t, ρ', ?_, e2⟩
      rw [sSeq_nx (ρ1 := [some (.int c), a, b, d, e, some (.nd (.lst .own) (ws.map .str)), none])]
      · rw [sSeq_nx (ρ1 := [some (.int c), a, b, d, e, some (.nd (.lst .own) ((v :: ws).map .str)), none])]
        · exact e1
        · have ea : pAdd [.nd (.lst .own) [.str v], .nd (.lst .tmp) (ws.map .str)] = some (.nd (.lst .own) ((v :: ws).map .str)) := by
            show (if [D.str v].length + (ws.map D.str).length ≤ sizeLine then some (D.nd (.lst .own) ([D.str v] ++ ws.map D.str)) else none) = _
            rw [if_pos]
            · rfl
            · rw [List.length_map]; exact Nat.le_trans (m := 2000) (by simp; omega) (by decide)
          have es1 : ∀ ds lo hi, pSl (.nd (.lst .own) ds) lo hi = some (.nd (.lst .own) (cutD ds lo hi)) := fun _ _ _ => rfl
          simp [d1, m1, hB, eq_int, d2, m4, pLst, sizeLine, es1, ev, ea]
      · simp [d1, m1, hB, eq_int]
    · obtain ⟨t, ρ', e1, e2⟩ := fin ws hws (by omega)
      refine ⟨t, ρ', ?_, e2⟩
      rw [sSeq_nx (ρ1 := [some (.int c), a, b, d, e, some (.nd (.lst .own) (ws.map .str)), none])]
      · rw [sSeq_nx (ρ1 := [some (.int c), a, b, d, e, some (.nd (.lst .own) (ws.map .str)), none])]
        · exact e1
        · simp [d1, m1, hB, eq_int]
      · simp [d1, m1, hA, eq_int]
theorem lt_int {i j : Int} : pLt [.int i, .int j] = some (.bl (decide (i < j))) := rfl
theorem size_eq (c : Int) : ∃ n : Nat, n ≤ 15 ∧ pIx [.nd (.lst .own) [.int (c / 5 % 15), .int (11 + c / 5 % 3), .int (1 + c / 5 % 3)], .int (c / 75 % 3)] = some (.int n) := by
  obtain ⟨a0, a1⟩ := modr (c / 5) (show (0 : Int) < 15 by decide)
  obtain ⟨b0, b1⟩ := modr (c / 5) (show (0 : Int) < 3 by decide)
  obtain ⟨c0, c1⟩ := modr (c / 75) (show (0 : Int) < 3 by decide)
  obtain ⟨d, hd, e⟩ := at_lst (f := .own) (ds := [.int (c / 5 % 15), .int (11 + c / 5 % 3), .int (1 + c / 5 % 3)]) c0 (by simp; omega)
  simp only [List.mem_cons, List.not_mem_nil, or_false] at hd
  rcases hd with rfl | rfl | rfl
  · exact ⟨(c / 5 % 15).toNat, by omega, by rw [e, Int.toNat_of_nonneg a0]⟩
  · exact ⟨(11 + c / 5 % 3).toNat, by omega, by rw [e, Int.toNat_of_nonneg (by omega)]⟩
  · exact ⟨(1 + c / 5 % 3).toNat, by omega, by rw [e, Int.toNat_of_nonneg (by omega)]⟩
theorem long_eq (c : Int) {size : Nat} (hs : size ≤ 15) : ∃ n : Nat, n ≤ 1001 ∧ pIx [.nd (.lst .own) [.int size, .int size, .int size, .int (998 + c / 5 % 4)], .int (c / 225 % 4)] = some (.int n) := by
  obtain ⟨d0, d1⟩ := modr (c / 225) (show (0 : Int) < 4 by decide)
  obtain ⟨e0, e1⟩ := modr (c / 5) (show (0 : Int) < 4 by decide)
  obtain ⟨d, hd, e⟩ := at_lst (f := .own) (ds := [.int size, .int size, .int size, .int (998 + c / 5 % 4)]) d0 (by simp; omega)
  simp only [List.mem_cons, List.not_mem_nil, or_false] at hd
  rcases hd with rfl | rfl | rfl | rfl
  · exact ⟨size, by omega, e⟩
  · exact ⟨size, by omega, e⟩
  · exact ⟨size, by omega, e⟩
  · exact ⟨(998 + c / 5 % 4).toNat, by omega, by rw [e, Int.toNat_of_nonneg (by omega)]⟩
def st5 (c : Int) (size long : Nat) (x : Option D) : En := [some (.int c), some (.str lets), some (.int (c % 5)), some (.int size), some (.int long), x, none]
def fA : En → Ot D := ePr pIx [eVar 1, ePr pMod [eCall m__law_mixed [] [eVar 0, eVar 6], eC (.int 26)]]
def fB : En → Ot D := ePr pStr [ePr pMod [eCall m__law_mixed [] [eVar 0, eVar 6], eC (.int 10)]]
def fC : En → Ot D := ePr pIx [eCall0 m__law_signs [], ePr pMod [eCall m__law_mixed [] [eVar 0, eVar 6], eC (.int 94)]]
theorem mixed_small {c : Int} (hc : 0 ≤ c ∧ c < 2147483647) {j : Nat} (h : j ≤ 1000) : m__law_mixed [.int c, .int j] = .ok (.int (mx c j)) := mixed_eq (n := 31) (by decide) (by omega) (by omega)
theorem fA_eq {c : Int} (hc : 0 ≤ c ∧ c < 2147483647) {size long j : Nat} (h : j ≤ 1000) : ∃ w, fA ((wipeE (st5 c size long none) [6]).set 6 (some (.int j))) = .ok (.str w) ∧ OkS w 1 := by
  obtain ⟨r0, r1⟩ := modr (mx c j) (show (0 : Int) < 26 by decide)
  obtain ⟨w, ew, ow⟩ := at_str lets_ok r0 (by rw [lets_len]; exact r1)
  have e := mixed_small hc h
  exact ⟨w, by unfold fA st5; simp [wipeE, e, mod_int, ew], ow⟩
theorem fB_eq {c : Int} (hc : 0 ≤ c ∧ c < 2147483647) {size long j : Nat} (h : j ≤ 1000) : ∃ w, fB ((wipeE (st5 c size long none) [6]).set 6 (some (.int j))) = .ok (.str w) ∧ OkS w 1 := by
  obtain ⟨r0, r1⟩ := modr (mx c j) (show (0 : Int) < 10 by decide)
  obtain ⟨w, ew, ow⟩ := str_fig r0 r1
  have e := mixed_small hc h
  exact ⟨w, by unfold fB st5; simp [wipeE, e, mod_int, ew], ow⟩
theorem fC_eq {c : Int} (hc : 0 ≤ c ∧ c < 2147483647) {size long j : Nat} (h : j ≤ 1000) : ∃ w, fC ((wipeE (st5 c size long none) [6]).set 6 (some (.int j))) = .ok (.str w) ∧ OkS w 1 := by
  obtain ⟨r0, r1⟩ := modr (mx c j) (show (0 : Int) < 94 by decide)
  obtain ⟨w, ew, ow⟩ := at_str signs_ok r0 (by rw [signs_len]; exact r1)
  have e := mixed_small hc h
  exact ⟨w, by unfold fC st5; simp [wipeE, signs_eq, e, mod_int, ew], ow⟩
theorem size_line {n : Nat} (h : n ≤ 1001) : n ≤ sizeLine := by
  have : (1001 : Nat) ≤ sizeLine := by decide
  omega
theorem wA {c : Int} (hc : 0 ≤ c ∧ c < 2147483647) {size long : Nat} (hs : size ≤ 1001) : ∃ ws : List Str, eComp (itR1 [eVar 3]) (tgName 6) cYes fA [6] (st5 c size long none) = .ok (.nd (.lst .own) (ws.map .str)) ∧ ws.length = size ∧ ∀ w ∈ ws, OkS w 1 :=
  comp_rng (rng_nat (by omega)) (size_line hs) rfl fun j hj => fA_eq hc (by omega)
theorem wB {c : Int} (hc : 0 ≤ c ∧ c < 2147483647) {size long : Nat} (hs : long ≤ 1001) : ∃ ws : List Str, eComp (itR1 [eVar 4]) (tgName 6) cYes fB [6] (st5 c size long none) = .ok (.nd (.lst .own) (ws.map .str)) ∧ ws.length = long ∧ ∀ w ∈ ws, OkS w 1 :=
  comp_rng (rng_nat (by omega)) (size_line hs) rfl fun j hj => fB_eq hc (by omega)
theorem wC {c : Int} (hc : 0 ≤ c ∧ c < 2147483647) {size long : Nat} (hs : size ≤ 1001) : ∃ ws : List Str, eComp (itR1 [eVar 3]) (tgName 6) cYes fC [6] (st5 c size long none) = .ok (.nd (.lst .own) (ws.map .str)) ∧ ws.length = size ∧ ∀ w ∈ ws, OkS w 1 :=
  comp_rng (rng_nat (by omega)) (size_line hs) rfl fun j hj => fC_eq hc (by omega)
def wordT : Mst := sIf (eT (ePr pLt [eVar 2, eC (.int 2)])) (sSet 5 (eComp (itR1 [eVar 3]) (tgName 6) cYes fA [6]))
  (sIf (eT (ePr pEq [eVar 2, eC (.int 2)])) (sSet 5 (eComp (itR1 [eVar 4]) (tgName 6) cYes fB [6]))
  (sIf (eT (ePr pEq [eVar 2, eC (.int 3)])) (sSet 5 (ePr pAdd [ePr pLst [eC (.str "-")], eComp (itR1 [eVar 4]) (tgName 6) cYes fB [6]]))
  (sSet 5 (eComp (itR1 [eVar 3]) (tgName 6) cYes fC [6]))))
theorem up1 {ws : List Str} (h : ∀ w ∈ ws, OkS w 1) : ∀ w ∈ ws, OkS w 2 := fun w hw => ⟨Nat.le_trans (h w hw).len (by decide), (h w hw).ok⟩
theorem word_eq {c : Int} (hc : 0 ≤ c ∧ c < 2147483647) {size long : Nat} (hs : size ≤ 15) (hg : long ≤ 1001) : ∃ ws : List Str, wordT (st5 c size long none) = some (.nx, st5 c size long (some (.nd (.lst .own) (ws.map .str)))) ∧ (∀ w ∈ ws, OkS w 2) ∧ ws.length ≤ 1003 := by
  have e2 : eVar 2 (st5 c size long none) = .ok (.int (c % 5)) := rfl
  have t : ∀ f : En → Ot D, ∀ ws : List Str, f (st5 c size long none) = .ok (.nd (.lst .own) (ws.map .str)) → sSet 5 f (st5 c size long none) = some (.nx, st5 c size long (some (.nd (.lst .own) (ws.map .str)))) := fun f ws h => by
    rw [sSet_ok h (by simp)]
    rfl
  have q1 : eT (ePr pLt [eVar 2, eC (.int 2)]) (st5 c size long none) = .ok (decide (c % 5 < 2)) := by rw [eT_eq, ePr_eq, eL_cons, e2]; rfl
  have q2 : eT (ePr pEq [eVar 2, eC (.int 2)]) (st5 c size long none) = .ok (c % 5 == 2) := by rw [eT_eq, ePr_eq, eL_cons, e2]; rfl
  have q3 : eT (ePr pEq [eVar 2, eC (.int 3)]) (st5 c size long none) = .ok (c % 5 == 3) := by rw [eT_eq, ePr_eq, eL_cons, e2]; rfl
  unfold wordT
  by_cases h1 : c % 5 < 2
  · obtain ⟨ws, x, y, z⟩ := wA hc (long := long) (show size ≤ 1001 by omega)
    rw [decide_eq_true h1] at q1
    exact ⟨ws, by rw [sIf_t q1, t _ ws x], up1 z, by omega⟩
  · rw [decide_eq_false h1] at q1
    by_cases h2 : c % 5 = 2
    · obtain ⟨ws, x, y, z⟩ := wB hc (size := size) hg
      rw [show (c % 5 == 2) = true by simpa using h2] at q2
      exact ⟨ws, by rw [sIf_f q1, sIf_t q2, t _ ws x], up1 z, by omega⟩
    · rw [show (c % 5 == 2) = false by simpa using h2] at q2
      by_cases h3 : c % 5 = 3
      · obtain ⟨ws, x, y, z⟩ := wB hc (size := size) hg
        rw [show (c % 5 == 3) = true by simpa using h3] at q3
        have ea : pAdd [.nd (.lst .own) [.str "-"], .nd (.lst .own) (ws.map .str)] = some (.nd (.lst .own) ((("-" : Str) :: ws).map .str)) := by
          show (if [D.str "-"].length + (ws.map D.str).length ≤ sizeLine then some (D.nd (.lst .own) ([D.str "-"] ++ ws.map D.str)) else none) = _
          rw [if_pos]
          · rfl
          · rw [List.length_map]; exact Nat.le_trans (m := 2000) (by simp; omega) (by decide)
        refine ⟨("-" : Str) :: ws, ?_, fun w hw => (List.mem_cons.mp hw).elim (fun q => q ▸ okS_of (by decide +kernel) (by decide +kernel)) (up1 z w), by simp; omega⟩
        rw [sIf_f q1, sIf_f q2, sIf_t q3]
        refine t _ (("-" : Str) :: ws) ?_
        rw [ePr_eq, eL_cons, eL_cons, x]
        simp [pLst, sizeLine, ea]
      · rw [show (c % 5 == 3) = false by simpa using h3] at q3
        obtain ⟨ws, x, y, z⟩ := wC hc (long := long) (show size ≤ 1001 by omega)
        exact ⟨ws, by rw [sIf_f q1, sIf_f q2, sIf_f q3, t _ ws x], up1 z, by omega⟩
theorem text_eq {c : Int} (hc : 0 ≤ c ∧ c < 2147483647) : ∃ t, m__law_text [.int c] = .ok (.str t) ∧ OkS t 2200 := by
  have m1 := mod_int (i := c) (j := 5) (by decide)
  have d5 := div_int (i := c) (j := 5) (by decide) (by decide)
  have d75 := div_int (i := c) (j := 75) (by decide) (by decide)
  have d225 := div_int (i := c) (j := 225) (by decide) (by decide)
  have m15 := mod_int (i := c / 5) (j := 15) (by decide)
  have m3 := mod_int (i := c / 5) (j := 3) (by decide)
  have m4 := mod_int (i := c / 5) (j := 4) (by decide)
  have m753 := mod_int (i := c / 75) (j := 3) (by decide)
  have m2254 := mod_int (i := c / 225) (j := 4) (by decide)
  obtain ⟨size, hs, es⟩ := size_eq c
  obtain ⟨long, hg, eg⟩ := long_eq c hs
  obtain ⟨ws, hw5, ok5, l5⟩ := word_eq hc hs hg
  obtain ⟨t, ρ', et, ot⟩ := tail_eq (c := c) (a := some (.str lets)) (b := some (.int (c % 5))) (d := some (.int size)) (e := some (.int long)) ok5 l5
  refine ⟨t, ?_, ot⟩
  unfold m__law_text g__law_text
  rw [bodyM_eq]
  rw [sSeq_nx (ρ1 := [some (.int c), some (.str lets), none, none, none, none, none]) (by rfl)]
  rw [sSeq_nx (ρ1 := [some (.int c), some (.str lets), some (.int (c % 5)), none, none, none, none]) (by simp [m1])]
  rw [sSeq_nx (ρ1 := [some (.int c), some (.str lets), some (.int (c % 5)), some (.int size), none, none, none]) (by simp [d5, d75, m15, m3, m753, add_int, pLst, sizeLine, es])]
  rw [sSeq_nx (ρ1 := st5 c size long none) (by unfold st5; simp [d5, d225, m4, m2254, add_int, pLst, sizeLine, eg])]
  unfold wordT fA fB fC at hw5
  rw [sSeq_nx hw5]
  unfold tailT at et
  unfold st5
  rw [et]
end OB

namespace OB
open PySem PySem.Spec PyProof.Rows L2 PySem.NumText
@[simp] theorem mapF_comp_int {k : Fl → Fl} : mapF k ∘ D.int = D.int := rfl
theorem cell_at_eq {ns : List Int} {k : Nat} (hk : k ≤ 100) : m__law_cell_at [.nd (.lst .bor) (ns.map .int), .int k] = .ok (.int (ns.getD k 0)) := by
  have ec : (ns.map D.int).map (mapF Fl.toTmp) = ns.map D.int := by rw [List.map_map]; rfl
  unfold m__law_cell_at g__law_cell_at
  by_cases h : k < ns.length
  · have e : pIx [.nd (.lst .bor) (ns.map .int), .int k] = some (.int ns[k]) := by
      show atI (ns.map D.int) (k : Nat) = _
      unfold atI ixN
      rw [if_pos (by omega), if_pos (by rw [List.length_map]; omega)]
      simp [h]
    have h2 : (k : Int) < ns.length := by omega
    simp [len_lst, lt_int, h, e, List.getElem?_eq_getElem h]
  · simp [len_lst, lt_int, h, List.getElem?_eq_none (Nat.le_of_not_lt h)]
theorem split_ok {s y : Str} {n : Nat} (o : OkS s n) : ∀ p ∈ Txt.split s y, OkS p n := by
  have sub : ∀ i j, OkS (Builtin.Str.strSub s i j) n := fun i j => by
    refine ⟨?_, fun c hc => ?_⟩
    · have : (Builtin.Str.strSub s i j).length ≤ s.length := by
        show (s.cps.extract i j).size ≤ s.cps.size
        simp; omega
      exact Nat.le_trans this o.len
    · have hc : c ∈ (s.cps.extract i j).toList := hc
      rw [Array.toList_extract] at hc
      exact o.ok c (List.mem_of_mem_drop (List.mem_of_mem_take (by simpa using hc)))
  intro p hp
  unfold Txt.split at hp
  split at hp
  · rw [List.mem_singleton.mp hp]; exact o
  · split at hp
    · rw [List.mem_singleton.mp hp]; exact o
    · unfold Builtin.Str.partsBetween at hp
      obtain ⟨⟨i, j⟩, _, rfl⟩ := List.mem_map.mp hp
      exact sub i j
theorem in_strs {f : Fl} {ss : List Str} : pIn [.str "", .nd (.lst f) (ss.map .str)] = some (.bl (ss.any fun y => y == "")) := by
  have h1 : (ss.map D.str).all isAt = true := by rw [List.all_map]; exact List.all_eq_true.mpr fun _ _ => rfl
  show ((if isAt (.str "") && (ss.map D.str).all isAt then some ((ss.map D.str).any fun y => eqA y (.str "")) else none).map D.bl) = _
  rw [h1, List.any_map]
  rfl
theorem words_of_eq {s : Str} {n : Nat} (hn : n ≤ 1000000) (o : OkS s n) : m_words_of [.str s] = .ok (if (Txt.split s " ").any (fun y => y == "") then .non else .nd (.lst .own) ((Txt.split s " ").map .str)) := by
  have e1 : pSplit [.str s, .str " "] = some (.nd (.lst .own) ((Txt.split s " ").map .str)) := if_pos ⟨by decide +kernel, Nat.le_trans (m := 1000002) (by have := o.len; omega) (by decide)⟩
  have e2 := in_strs (f := .tmp) (ss := Txt.split s " ")
  unfold m_words_of g_words_of
  cases hb : (Txt.split s " ").any (fun y => y == "") <;> rw [hb] at e2 <;> simp [isiD, tyN, nbTy, tyB, e1, e2]
theorem words_of_cont {d : D} (h : (∃ b, d = .bl b) ∨ (∃ i, d = .int i) ∨ d ∈ conts) : m_words_of [d] = .ok .non := by
  unfold m_words_of g_words_of
  rcases h with ⟨b, rfl⟩ | ⟨i, rfl⟩ | h
  · simp [isiD, tyN, nbTy]
  · simp [isiD, tyN, nbTy]
  · unfold conts at h
    simp only [List.mem_cons, List.not_mem_nil, or_false] at h
    rcases h with rfl | rfl | rfl | rfl | rfl | rfl <;> simp [isiD, tyN, nbTy]
theorem line_good_eq {s : Str} {n : Nat} (hn : n ≤ 1000000) (o : OkS s n) : m__law_line_good [.str s] = .ok (.bl true) := by
  have e1 : pSplit [.str s, .str " "] = some (.nd (.lst .own) ((Txt.split s " ").map .str)) := if_pos ⟨by decide +kernel, Nat.le_trans (m := 1000002) (by have := o.len; omega) (by decide)⟩
  have e2 := in_strs (f := .tmp) (ss := Txt.split s " ")
  have e3 := words_of_eq hn o
  have op := split_ok (y := " ") o
  have hl : (Txt.split s " ").length < 16777216 := Nat.lt_of_le_of_lt (PyProof.Rows.split_le s " ") (by have := o.len; omega)
  generalize hss : Txt.split s " " = ss at e1 e2 e3 op hl
  cases hb : ss.any (fun y => y == "") with
  | true =>
    rw [hb] at e2 e3
    have ei : pIs [.non, .non] = some (.bl true) := rfl
    unfold m__law_line_good g__law_line_good
    simp [tyB, e1, e2, e3, ei]
  | false =>
    rw [hb] at e2 e3
    have en := pNe_refl (f := .tmp) (g := .tmp) op
    obtain ⟨ρ', e, x2, x3, rfl⟩ := sFor_ok (it := itR1 [eC (.int 2)]) (tg := tgName 2) (b := sSeq (sSet 3 (eCall m_words_of [] [eVar 0])) (sSeq (sIf (bOr (bNot (eT (eIsi (nbTy "list") (fun _ => none) (eVar 3)))) (eT (ePr pNe [eVar 3, eVar 1]))) (sRet (eC (.bl false))) sNil) (sMut 3 pHere mApp (eL [eC (.str "more")]))))
      (ρ := [some (.str s), some (.nd (.lst .own) (ss.map .str)), none, none]) (ds := rngD 0 2) rfl (fun j ρ => ∃ x2 x3, ρ = [some (.str s), some (.nd (.lst .own) (ss.map .str)), x2, x3]) ⟨none, none, rfl⟩ (fun j d ρ hd ⟨x2, x3, hρ⟩ => by
        subst hρ
        refine ⟨[some (.str s), some (.nd (.lst .own) (ss.map .str)), some d, x3], _, rfl, ?_, some d, some (.nd (.lst .own) (ss.map .str ++ [.str "more"])), rfl⟩
        have e0 : placeOf 3 pHere [some (.str s), some (.nd (.lst .own) (ss.map .str)), some d, some (.nd (.lst .own) (ss.map .str))] = some (.nd (.lst .own) (ss.map .str), [], .lst .own, ss.map .str) := rfl
        have ea : mApp (ss.map .str) [.str "more"] = some (ss.map .str ++ [.str "more"]) := if_pos (show (ss.map D.str).length < sizeLine by rw [List.length_map]; exact hl)
        rw [sSeq_nx (ρ1 := [some (.str s), some (.nd (.lst .own) (ss.map .str)), some d, some (.nd (.lst .own) (ss.map .str))]) (by simp [e3])]
        rw [sSeq_nx (ρ1 := [some (.str s), some (.nd (.lst .own) (ss.map .str)), some d, some (.nd (.lst .own) (ss.map .str))]) (by simp [isiD, tyN, nbTy, en])]
        unfold sMut
        rw [e0]
        unfold sOnL
        simp [ea, putAt, putP])
    unfold m__law_line_good g__law_line_good
    rw [bodyM_eq]
    rw [sSeq_nx (ρ1 := [some (.str s), some (.nd (.lst .own) (ss.map .str)), none, none]) (by simp [tyB, e1])]
    rw [sSeq_nx (ρ1 := [some (.str s), some (.nd (.lst .own) (ss.map .str)), none, none]) (by simp [e2])]
    rw [sSeq_nx e]
    simp
end OB

namespace OB
open PySem PySem.Spec PyProof.Rows L2 PySem.NumText
theorem compL_ints {f : En → Ot D} {ρ : En} {i n : Nat} : ∀ l : List Int, (∀ z ∈ l, ∃ w, f (ρ.set i (some (.int z))) = .ok (.str w) ∧ OkS w n) → ∃ ws : List Str, compL (tgName i) cYes f ρ (l.map D.int) = some (ws.map .str) ∧ ws.length = l.length ∧ ∀ w ∈ ws, OkS w n
  | [], _ => ⟨[], rfl, rfl, fun _ h => nomatch h⟩
  | z :: l, h => by
    obtain ⟨ws, e1, e2, e3⟩ := compL_ints l fun j hj => h j (List.mem_cons_of_mem _ hj)
    obtain ⟨w, f1, f2⟩ := h z List.mem_cons_self
    refine ⟨w :: ws, ?_, by simp [e2], fun v hv => ?_⟩
    · rw [List.map_cons]
      unfold compL
      have ht : tgName i (.int z) ρ = some (ρ.set i (some (.int z))) := rfl
      rw [ht, Option.bind_some]
      unfold cYes
      dsimp only
      rw [f1]
      dsimp only
      unfold cYes at e1
      rw [e1]
      rfl
    · rcases List.mem_cons.mp hv with q | q
      · subst q; exact f2
      · exact e3 v q
theorem add_str {a b : Str} {n m : Nat} (ha : OkS a n) (hb : OkS b m) (h : n + m ≤ 1000000) : pAdd [.str a, .str b] = some (.str (a ++ b)) ∧ OkS (a ++ b) (n + m) := by
  have hl : (a ++ b).length = a.length + b.length := Str.length_append a b
  refine ⟨?_, ?_, fun c hc => ?_⟩
  · show (if a.length + b.length ≤ sizeLine then _ else _) = _
    exact if_pos (Nat.le_trans (m := 1000000) (by have := ha.len; have := hb.len; omega) (by decide))
  · rw [hl]; have := ha.len; have := hb.len; omega
  · have hc : c ∈ (a.cps ++ b.cps).toList := hc
    rw [Array.toList_append, List.mem_append] at hc
    exact hc.elim (ha.ok c) (hb.ok c)
def bLine : Mst := sSet 4 (ePr pAdd [ePr pAdd [eVar 4, eIf (eT (ePr pNe [eVar 4, eC (.str "")])) (eVar 6) (eC (.str ""))], eVar 5])
theorem empty_ok : OkS ("" : Str) 2 := okS_of (by decide +kernel) (by decide +kernel)
theorem lineLoop {a b : Option D} {ws bs : List Str} (hw : ∀ w ∈ ws, OkS w 2200) (hb : ∀ w ∈ bs, OkS w 2) (hl : ws.length ≤ 7) (x5 x6 x7 : Option D) :
    ∃ t ρ', sFz 3 (sFz 2 (sFor (itZip [eVar 2, eVar 3]) (tgTup [tgName 5, tgName 6]) bLine)) [a, b, some (.nd (.lst .own) (ws.map .str)), some (.nd (.lst .own) (bs.map .str)), some (.str ""), x5, x6, x7] = some (.nx, ρ') ∧ ρ'[1]? = some b ∧ ρ'[4]? = some (some (.str t)) ∧ OkS t 20000 := by
  have hf : fzE 2 (fzE 3 [a, b, some (.nd (.lst .own) (ws.map .str)), some (.nd (.lst .own) (bs.map .str)), some (.str ""), x5, x6, x7]) = [a, b, some (.nd (.lst .frz) (ws.map .str)), some (.nd (.lst .frz) (bs.map .str)), some (.str ""), x5, x6, x7] := by
    unfold fzE
    simp
  have ez : itZip [eVar 2, eVar 3] [a, b, some (.nd (.lst .frz) (ws.map .str)), some (.nd (.lst .frz) (bs.map .str)), some (.str ""), x5, x6, x7] = .ok (zipD (ws.map .str) (bs.map .str), true) := by
    unfold itZip
    simp
    rfl
  obtain ⟨ρ', e, t, y5, y6, hρ, ot⟩ := sFor_ok (tg := tgTup [tgName 5, tgName 6]) (b := bLine) ez (fun j ρ => ∃ t y5 y6, ρ = [a, b, some (.nd (.lst .frz) (ws.map .str)), some (.nd (.lst .frz) (bs.map .str)), some (.str t), y5, y6, x7] ∧ OkS t (j * 2202 + 2)) ⟨"", x5, x6, rfl, by simpa using empty_ok⟩ (fun j d ρ hd ⟨t, y5, y6, hρ, ot⟩ => by
    subst hρ
    obtain ⟨d1, d2, h1, h2, rfl⟩ := zipD_get hd
    rw [List.getElem?_map] at h1 h2
    cases e1 : ws[j]? with
    | none => rw [e1] at h1; cases h1
    | some w =>
      cases e2 : bs[j]? with
      | none => rw [e2] at h2; cases h2
      | some bl =>
        rw [e1] at h1; rw [e2] at h2
        cases h1; cases h2
        have ow := hw w (List.mem_of_getElem? e1)
        have ob := hb bl (List.mem_of_getElem? e2)
        have hj : j < ws.length := (List.getElem?_eq_some_iff.mp e1).1
        have key : ∀ q : Str, OkS q 2 → (pAdd [.str t, .str q] = some (.str (t ++ q)) ∧ pAdd [.str (t ++ q), .str w] = some (.str (t ++ q ++ w)) ∧ OkS (t ++ q ++ w) ((j + 1) * 2202 + 2)) := fun q oq => by
          obtain ⟨a1, a2⟩ := add_str ot oq (by omega)
          obtain ⟨a3, a4⟩ := add_str a2 ow (by omega)
          exact ⟨a1, a3, ⟨Nat.le_trans a4.len (by omega), a4.ok⟩⟩
        cases hb2 : (t == ("" : Str)) with
        | false =>
          obtain ⟨k1, k2, k3⟩ := key bl ob
          have hn := ne_str (i := t) (j := "")
          rw [hb2] at hn
          refine ⟨[a, b, some (.nd (.lst .frz) (ws.map .str)), some (.nd (.lst .frz) (bs.map .str)), some (.str t), some (.str w), some (.str bl), x7], _, rfl, ?_, t ++ bl ++ w, some (.str w), some (.str bl), rfl, k3⟩
          unfold bLine
          simp [hn, k1, k2]
        | true =>
          obtain ⟨k1, k2, k3⟩ := key "" empty_ok
          have hn := ne_str (i := t) (j := "")
          rw [hb2] at hn
          refine ⟨[a, b, some (.nd (.lst .frz) (ws.map .str)), some (.nd (.lst .frz) (bs.map .str)), some (.str t), some (.str w), some (.str bl), x7], _, rfl, ?_, t ++ "" ++ w, some (.str w), some (.str bl), rfl, k3⟩
          unfold bLine
          simp [hn, k1, k2])
  refine ⟨t, ρ', ?_, by rw [hρ]; rfl, by rw [hρ]; rfl, Nat.le_trans ot.len ?_, ot.ok⟩
  · unfold sFz
    rw [hf]
    exact e
  · have : (zipD (ws.map D.str) (bs.map D.str)).length ≤ ws.length := by unfold zipD; rw [List.length_zipWith, List.length_map]; omega
    omega
end OB

namespace OB
open PySem PySem.Spec PyProof.Rows L2 PySem.NumText
def Cells (ns : List Int) : Prop := ∀ z ∈ ns, z.natAbs < 2 ^ 1048576
theorem cell_bits {ns : List Int} (h : Cells ns) (k : Nat) : (ns.getD k 0).natAbs < 2 ^ 1048576 := by
  rw [List.getD_eq_getElem?_getD]
  cases e : ns[k]? with
  | none => exact Nat.pow_pos (by decide)
  | some z => exact h z (List.mem_of_getElem? e)
theorem mixed_cell {ns : List Int} (h : Cells ns) (k j : Nat) (hj : j ≤ 1000) : m__law_mixed [.int (ns.getD k 0), .int j] = .ok (.int (mx (ns.getD k 0) j)) := mixed_eq (n := 1048576) (by decide) (cell_bits h k) (by omega)
theorem mixed_mem {ns : List Int} (h : Cells ns) {z : Int} (hz : z ∈ ns) {j : Nat} (hj : j ≤ 1000) : m__law_mixed [.int z, .int j] = .ok (.int (mx z j)) := mixed_eq (n := 1048576) (by decide) (h z hz) (by omega)
theorem cut_ints (ns : List Int) (r : Int) (h0 : 0 ≤ r) (h1 : r < 7) : ∃ l : List Int, cutD (ns.map D.int) (some 2) (some (2 + r)) = l.map D.int ∧ l.length ≤ 7 ∧ ∀ z ∈ l, z ∈ ns := by
  have e1 : HT.sIx (ns.map D.int).length 0 (some 2) = min 2 (ns.map D.int).length := rfl
  have e2 : HT.sIx (ns.map D.int).length (ns.map D.int).length (some (2 + r)) = min (2 + r).toNat (ns.map D.int).length := by
    show (if 2 + r < 0 then _ else _) = _
    rw [if_neg (by omega)]
  refine ⟨(ns.drop (min 2 (ns.map D.int).length)).take (min (2 + r).toNat (ns.map D.int).length - min 2 (ns.map D.int).length), ?_, ?_, fun z hz => List.mem_of_mem_drop (List.mem_of_mem_take hz)⟩
  · unfold cutD
    rw [e1, e2, List.map_take, List.map_drop]
  · rw [List.length_take]; omega
def fW : En → Ot D := eCall m__law_text [] [eCall m__law_mixed [] [eVar 7, eC (.int 50)]]
theorem words_eq {ns : List Int} (h : Cells ns) (c1 : Int) : ∃ ws : List Str, eComp (itV (eSl pSl (eVar 0) (oSome (eC (.int 2))) (oSome (ePr pAdd [eC (.int 2), ePr pMod [eVar 1, eC (.int 7)]])))) (tgName 7) cYes fW [7] [some (.nd (.lst .bor) (ns.map .int)), some (.int c1), none, none, none, none, none, none] = .ok (.nd (.lst .own) (ws.map .str)) ∧ ws.length ≤ 7 ∧ ∀ w ∈ ws, OkS w 2200 := by
  obtain ⟨r0, r1⟩ := modr c1 (show (0 : Int) < 7 by decide)
  obtain ⟨l, el, ll, lm⟩ := cut_ints ns (c1 % 7) r0 r1
  have m7 := mod_int (i := c1) (j := 7) (by decide)
  have es : pSl (.nd (.lst .bor) (ns.map .int)) (some 2) (some (2 + c1 % 7)) = some (.nd (.lst .own) (l.map .int)) := by
    show some (D.nd (.lst .own) (cutD (ns.map D.int) (some 2) (some (2 + c1 % 7)))) = _
    rw [el]
  have ei : itemsD (.nd (.lst .own) (l.map .int)) = some (l.map .int, true) := by
    have a1 : (l.map D.int).map toFrz = l.map D.int := by rw [List.map_map]; rfl
    have a2 : (l.map D.int).all noT = true := by rw [List.all_map]; exact List.all_eq_true.mpr fun _ _ => rfl
    show some ((l.map D.int).map toFrz, _ && (l.map D.int).all noT) = _
    rw [a1, a2]
    rfl
  obtain ⟨ws, e1, e2, e3⟩ := compL_ints (f := fW) (ρ := wipeE [some (.nd (.lst .bor) (ns.map .int)), some (.int c1), none, none, none, none, none, none] [7]) (i := 7) (n := 2200) l fun z hz => by
    have em := mixed_mem h (lm z hz) (j := 50) (by decide)
    obtain ⟨t, et, ot⟩ := text_eq (mx_range z 50)
    have em : m__law_mixed [.int z, .int 50] = .ok (.int (mx z 50)) := em
    exact ⟨t, by unfold fW; simp [wipeE, em, et], ot⟩
  refine ⟨ws, eComp_ok (p := (l.map .int, true)) ?_ e1 ?_, by omega, e3⟩
  · rw [itV_eq, eSl_eq]
    simp [m7, add_int, es, ei]
  · rw [List.length_map, e2]; exact Nat.le_trans ll (by decide)
theorem line_eq {ns : List Int} (h : Cells ns) : ∃ t, m__law_line [.nd (.lst .bor) (ns.map .int)] = .ok (.str t) ∧ OkS t 100000 := by
  have ec := cell_at_eq (ns := ns) (k := 1) (by decide)
  have ec : m__law_cell_at [.nd (.lst .bor) (ns.map .int), .int 1] = .ok (.int (ns.getD 1 0)) := ec
  have em := mixed_cell h 1 3 (by decide)
  have em : m__law_mixed [.int (ns.getD 1 0), .int 3] = .ok (.int (mx (ns.getD 1 0) 3)) := em
  generalize mx (ns.getD 1 0) 3 = c1 at em
  obtain ⟨ws, ew, lw, ow⟩ := words_eq h c1
  have erep : pMul [.nd (.lst .own) [.str " "], .int (ws.length : Nat)] = some (.nd (.lst .own) ((List.replicate ws.length (" " : Str)).map .str)) := by
    show (if (ws.length : Int).toNat ≤ sizeLine ∧ 0 ≤ (ws.length : Int) ∧ (ws.length : Int) < 2 ^ 62 then some (D.nd (.lst .own) (List.replicate (ws.length : Int).toNat (.str " "))) else none) = _
    have h62 : (ws.length : Int) < 2 ^ 62 := Int.lt_of_le_of_lt (b := 7) (by omega) (by decide)
    rw [if_pos ⟨Nat.le_trans (m := 7) (by omega) (by decide), by omega, h62⟩, List.map_replicate]
    rfl
  have ob1 : OkS (" " : Str) 2 := okS_of (by decide +kernel) (by decide +kernel)
  have en := pNe_nil (f := .tmp) (g := .own) ow
  -- the blanks
  obtain ⟨bs, eb, ob⟩ : ∃ bs : List Str, sIf (eT (ePr pNe [eVar 2, ePr pLst []]))
      (sPut 3 pHere (ePr pIx [ePr pLst [eC (.str " "), eC (.str "  "), eC (.str ""), eC (.str "\t"), eC (.str "\n"), eC (.str " ")], ePr pMod [ePr pDiv [eVar 1, eC (.int 42)], eC (.int 6)]]) (ePr pMod [ePr pDiv [eVar 1, eC (.int 7)], ePr pLen [eVar 2]])) sNil
      [some (.nd (.lst .bor) (ns.map .int)), some (.int c1), some (.nd (.lst .own) (ws.map .str)), some (.nd (.lst .own) ((List.replicate ws.length (" " : Str)).map .str)), none, none, none, none] =
      some (.nx, [some (.nd (.lst .bor) (ns.map .int)), some (.int c1), some (.nd (.lst .own) (ws.map .str)), some (.nd (.lst .own) (bs.map .str)), none, none, none, none]) ∧ ∀ w ∈ bs, OkS w 2 := by
    have obr : ∀ w ∈ List.replicate ws.length (" " : Str), OkS w 2 := fun w hw => by rw [List.eq_of_mem_replicate hw]; exact ob1
    have d42 := div_int (i := c1) (j := 42) (by decide) (by decide)
    have d7 := div_int (i := c1) (j := 7) (by decide) (by decide)
    have m6 := mod_int (i := c1 / 42) (j := 6) (by decide)
    by_cases hz : ws.length = 0
    · have hw : ws = [] := List.eq_nil_of_length_eq_zero hz
      subst hw
      refine ⟨_, ?_, obr⟩
      have en : pNe [.nd (.lst .tmp) [], .nd (.lst .own) []] = some (.bl false) := en
      rw [sIf_f (by simp [pLst, sizeLine, en])]
      rfl
    · have hpos : (0 : Int) < (ws.length : Nat) := by omega
      have m3 := mod_int (i := c1 / 7) (j := (ws.length : Nat)) hpos
      obtain ⟨r0, r1⟩ := modr (c1 / 7) hpos
      obtain ⟨s0, s1⟩ := modr (c1 / 42) (show (0 : Int) < 6 by decide)
      obtain ⟨dv, hd, ev⟩ := at_lst (f := .own) (ds := [.str " ", .str "  ", .str "", .str "\t", .str "\n", .str " "]) s0 (by simpa using s1)
      obtain ⟨v, rfl, ov⟩ : ∃ v : Str, dv = .str v ∧ OkS v 2 := by
        simp only [List.mem_cons, List.not_mem_nil, or_false] at hd
        rcases hd with rfl | rfl | rfl | rfl | rfl | rfl
        · exact ⟨_, rfl, ob1⟩
        · exact ⟨_, rfl, okS_of (by decide +kernel) (by decide +kernel)⟩
        · exact ⟨_, rfl, empty_ok⟩
        · exact ⟨_, rfl, okS_of (by decide +kernel) (by decide +kernel)⟩
        · exact ⟨_, rfl, okS_of (by decide +kernel) (by decide +kernel)⟩
        · exact ⟨_, rfl, ob1⟩
      have hne : ws.isEmpty = false := by cases ws with | nil => exact absurd rfl hz | cons _ _ => rfl
      rw [hne] at en
      generalize hbs : List.replicate ws.length (" " : Str) = bs at obr
      have hbl : bs.length = ws.length := by rw [← hbs, List.length_replicate]
      have ix : ixN bs.length (c1 / 7 % (ws.length : Nat)) = some (c1 / 7 % (ws.length : Nat)).toNat := by
        rw [hbl]
        unfold ixN
        rw [if_pos r0, if_pos r1]
      refine ⟨bs.set (c1 / 7 % (ws.length : Nat)).toNat v, ?_, fun w hw => (List.mem_or_eq_of_mem_set hw).elim (obr w) fun q => q ▸ ov⟩
      rw [sIf_t (by simp [pLst, sizeLine, en])]
      have e0 : placeOf 3 pHere [some (.nd (.lst .bor) (ns.map .int)), some (.int c1), some (.nd (.lst .own) (ws.map .str)), some (.nd (.lst .own) (bs.map .str)), none, none, none, none] = some (.nd (.lst .own) (bs.map .str), [], .lst .own, bs.map .str) := rfl
      have ep : putD (.lst .own) (bs.map .str) (.int (c1 / 7 % (ws.length : Nat))) (.str v) = some (.lst .own, (bs.set (c1 / 7 % (ws.length : Nat)).toNat v).map .str) := by
        unfold putD
        dsimp only
        rw [List.length_map, ix]
        dsimp only
        rw [List.map_set]
      have eL1 : eL [ePr pIx [ePr pLst [eC (.str " "), eC (.str "  "), eC (.str ""), eC (.str "\t"), eC (.str "\n"), eC (.str " ")], ePr pMod [ePr pDiv [eVar 1, eC (.int 42)], eC (.int 6)]], ePr pMod [ePr pDiv [eVar 1, eC (.int 7)], ePr pLen [eVar 2]]] [some (.nd (.lst .bor) (ns.map .int)), some (.int c1), some (.nd (.lst .own) (ws.map .str)), some (.nd (.lst .own) (bs.map .str)), none, none, none, none] = .ok [.str v, .int (c1 / 7 % (ws.length : Nat))] := by
        simp [d42, m6, pLst, sizeLine, ev, len_lst, d7, m3]
      unfold sPut
      rw [e0]
      dsimp only
      unfold sOnL
      rw [eL1]
      dsimp only
      rw [if_pos (by rfl), ep]
      rfl
  obtain ⟨t, ρ', el, e1, e4, ot⟩ := lineLoop (a := some (.nd (.lst .bor) (ns.map .int))) (b := some (.int c1)) ow ob lw none none none
  have m9 := mod_int (i := c1 / 252) (j := 9) (by decide)
  have d252 := div_int (i := c1) (j := 252) (by decide) (by decide)
  obtain ⟨q, eq1, oq⟩ : ∃ q : Str, pIx [.nd (.lst .own) [.str "", .str " "], .int (if (c1 / 252 % 9 == 1) = true then 1 else 0)] = some (.str q) ∧ OkS q 2 := by
    cases (c1 / 252 % 9 == 1)
    · exact ⟨"", rfl, empty_ok⟩
    · exact ⟨" ", rfl, ob1⟩
  obtain ⟨ea, oa⟩ := add_str ot oq (by decide)
  refine ⟨t ++ q, ?_, ⟨Nat.le_trans oa.len (by decide), oa.ok⟩⟩
  unfold m__law_line g__law_line
  rw [bodyM_eq]
  rw [sSeq_nx (ρ1 := [some (.nd (.lst .bor) (ns.map .int)), some (.int c1), none, none, none, none, none, none]) (by simp at ec em ⊢; simp [ec, em])]
  unfold fW at ew
  rw [sSeq_nx (ρ1 := [some (.nd (.lst .bor) (ns.map .int)), some (.int c1), some (.nd (.lst .own) (ws.map .str)), none, none, none, none, none]) (by rw [sSet_ok ew (by simp)]; rfl)]
  rw [sSeq_nx (ρ1 := [some (.nd (.lst .bor) (ns.map .int)), some (.int c1), some (.nd (.lst .own) (ws.map .str)), some (.nd (.lst .own) ((List.replicate ws.length (" " : Str)).map .str)), none, none, none, none]) (by
    refine (sSet_ok (d := .nd (.lst .own) ((List.replicate ws.length (" " : Str)).map .str)) ?_ (by simp)).trans rfl
    simp only [ePr_eq, eL_cons, eL_nil, eC_eq, eVar_eq, getV_eq]
    simp [len_lst, pLst, sizeLine]
    simp at erep
    rw [erep]; rfl)]
  rw [sSeq_nx eb]
  rw [sSeq_nx (ρ1 := [some (.nd (.lst .bor) (ns.map .int)), some (.int c1), some (.nd (.lst .own) (ws.map .str)), some (.nd (.lst .own) (bs.map .str)), some (.str ""), none, none, none]) (by rfl)]
  unfold bLine at el
  rw [sSeq_nx el]
  have g4 : eVar 4 ρ' = .ok (.str t) := by rw [eVar_eq, getV_eq, e4]; rfl
  have g1 : eVar 1 ρ' = .ok (.int c1) := by rw [eVar_eq, getV_eq, e1]; rfl
  have ei : pInt4 [.bl (c1 / 252 % 9 == 1)] = some (.int (if (c1 / 252 % 9 == 1) = true then 1 else 0)) := rfl
  rw [sRet_ok (d := .str (t ++ q)) ?_ rfl]
  simp [g4, g1, d252, m9, eq_int, pLst, sizeLine, -eVar_eq]
  simp at ei eq1
  simp [ei, eq1, ea]
end OB

namespace OB
open PySem PySem.Spec PyProof.Rows L2 PySem.NumText
def Things (d : D) : Prop := (∃ b, d = .bl b) ∨ (∃ i, d = .int i) ∨ d ∈ conts
theorem things {d : D} (h : Things d) : mapF Fl.toArg d = d ∧ mapF Fl.toTmp d = d ∧ mapF Fl.toFrz d = d ∧ noB d = true ∧ noT d = true := by
  rcases h with ⟨b, rfl⟩ | ⟨i, rfl⟩ | h
  · exact ⟨rfl, rfl, rfl, rfl, rfl⟩
  · exact ⟨rfl, rfl, rfl, rfl, rfl⟩
  · unfold conts at h
    simp only [List.mem_cons, List.not_mem_nil, or_false] at h
    rcases h with rfl | rfl | rfl | rfl | rfl | rfl <;> simp
theorem asked_any {w : Int} (hw : w = 0 ∨ w = 1 ∨ w = 2 ∨ w = 3) {d : D} (h : Things d) (l m : Int) : m__law_asked [.int w, d, .int l, .int m] = .ok (.bl true) := by
  rcases h with ⟨b, rfl⟩ | ⟨i, rfl⟩ | h
  · exact asked_bl hw b l m
  · exact asked_int hw i l m
  · exact asked_cont hw h l m
/-- a text of many signs tells nothing -/
theorem long_none {s : Str} (h : s.length ≤ 16777216) (h2 : 1000 < s.length) : m_number_of [.str s] = .ok .non ∧ m_is_name [.str s] = .ok (.bl false) := by
  refine ⟨?_, ?_⟩
  · rw [number_of_eq h]
    unfold numD
    rw [decide_eq_false (p := (s.length : Int) ≤ 1000) (by omega)]
    simp
  · rw [is_name_eq h]
    unfold nameB
    rw [decide_eq_false (p := (s.length : Int) ≤ 12) (by omega)]
    simp
def rep (z : Str) (k : Nat) : Str := ⟨(List.replicate k z.cps.toList).flatten.toArray⟩
theorem rep_len {z : Str} {k : Nat} (h : z.length = 1) : (rep z k).length = k := by
  show ((List.replicate k z.cps.toList).flatten.toArray).size = k
  have : z.cps.toList.length = 1 := by rw [Array.length_toList]; exact h
  rw [List.size_toArray, List.length_flatten, List.map_replicate, List.sum_replicate_nat, this]
  omega
theorem mul_rep {z : Str} {k : Nat} (h : z.length = 1) (hk : 2 ≤ k) (hk2 : k ≤ 10000) : pMul [.str z, .int k] = some (.str (rep z k)) := by
  have h30 : (k : Int) < 2 ^ 30 := Int.lt_of_le_of_lt (b := 10000) (by omega) (by decide)
  show (if z.length * (k : Int).toNat ≤ sizeLine ∧ 2 ≤ (k : Int) ∧ (k : Int) < 2 ^ 30 ∧ 1 ≤ z.length then some (D.str ⟨(List.replicate (k : Int).toNat z.cps.toList).flatten.toArray⟩) else none) = _
  rw [if_pos ⟨by rw [h]; exact Nat.le_trans (m := 10000) (by simp; omega) (by decide), by omega, h30, by omega⟩]
  rfl
theorem first_ok {ns : List Int} (h : Cells ns) : (bOr (bNot (eT (eCall m__law_line_good [] [eCall m__law_line [] [eVar 0]]))) (eT (ePr pIsN [eCall m_words_of [] [eCall m__law_odd [] [eCall m__law_cell_at [] [eVar 0, eC (.int 0)]]], eC .non]))) (some (.nd (.lst .bor) (ns.map .int)) :: List.replicate 9 none) = .ok false := by
  obtain ⟨t, et, ot⟩ := line_eq h
  have eg := line_good_eq (by decide) ot
  have ec : m__law_cell_at [.nd (.lst .bor) (ns.map .int), .int 0] = .ok (.int (ns.getD 0 0)) := cell_at_eq (k := 0) (by decide)
  obtain ⟨d, ed, hd⟩ := odd_eq (ns.getD 0 0)
  obtain ⟨t1, t2, t3, t4, t5⟩ := things hd
  have ew := words_of_cont hd
  have ei : pIsN [.non, .non] = some (.bl false) := rfl
  simp at ec ed
  simp [et, eg, ec, ed, t1, t4, ew, ei]
end OB

namespace OB
open PySem PySem.Spec PyProof.Rows L2 PySem.NumText
theorem second_ok (ρ : En) (hρ : 9 < ρ.length) : eComp (itV (ePr pTup [ePr pMul [eC (.str "9"), eC (.int 1001)], ePr pMul [eC (.str "9"), eC (.int 5000)], ePr pMul [eC (.str "0"), eC (.int 5000)]])) (tgName 9) (bOr (eT (ePr pIsN [eCall m_number_of [] [eVar 9], eC .non])) (eT (eCall m_is_name [] [eVar 9]))) (eVar 9) [9] ρ = .ok (.nd (.lst .own) []) := by
  have l9 : (Str.ofString "9").length = 1 := by decide +kernel
  have l0 : (Str.ofString "0").length = 1 := by decide +kernel
  have e1 := mul_rep (z := "9") (k := 1001) l9 (by decide) (by decide)
  have e2 := mul_rep (z := "9") (k := 5000) l9 (by decide) (by decide)
  have e3 := mul_rep (z := "0") (k := 5000) l0 (by decide) (by decide)
  have k1 := rep_len (z := "9") (k := 1001) l9
  have k2 := rep_len (z := "9") (k := 5000) l9
  have k3 := rep_len (z := "0") (k := 5000) l0
  generalize rep "9" 1001 = a at e1 k1
  generalize rep "9" 5000 = b at e2 k2
  generalize rep "0" 5000 = c at e3 k3
  have e1 : pMul [.str "9", .int 1001] = some (.str a) := e1
  have e2 : pMul [.str "9", .int 5000] = some (.str b) := e2
  have e3 : pMul [.str "0", .int 5000] = some (.str c) := e3
  have ei : pIsN [.non, .non] = some (.bl false) := rfl
  refine eComp_ok (p := ([.str a, .str b, .str c], true)) ?_ ?_ (by decide) (ys := [])
  · simp [e1, e2, e3, pTup, sizeLine]; rfl
  · have one : ∀ s : Str, s.length = 1001 ∨ s.length = 5000 → ∃ ρ1, tgName 9 (.str s) (wipeE ρ [9]) = some ρ1 ∧ (bOr (eT (ePr pIsN [eCall m_number_of [] [eVar 9], eC .non])) (eT (eCall m_is_name [] [eVar 9]))) ρ1 = .ok false := fun s hs => by
      have hl : s.length ≤ 16777216 := by omega
      obtain ⟨n1, n2⟩ := long_none hl (by omega)
      have e9 : (((wipeE ρ [9]).set 9 (some (D.str s)))[9]?).join = some (.str s) := by
        rw [List.getElem?_set_self (by unfold wipeE wipeE; simpa using hρ)]; rfl
      refine ⟨_, rfl, ?_⟩
      simp only [bOr_eq, eT_eq, ePr_eq, eL_cons, eL_nil, eCall_eq, eVar_eq, getV_eq, e9]
      simp [n1, n2, ei]
    have := compL_filter (tg := tgName 9) (c := bOr (eT (ePr pIsN [eCall m_number_of [] [eVar 9], eC .non])) (eT (eCall m_is_name [] [eVar 9]))) (f := eVar 9) (ρ := wipeE ρ [9]) (fun _ => false) id [.str a, .str b, .str c] fun d hd => by
      simp only [List.mem_cons, List.not_mem_nil, or_false] at hd
      rcases hd with rfl | rfl | rfl
      · obtain ⟨ρ1, x, y⟩ := one a (.inl k1); exact ⟨ρ1, x, y, fun h => nomatch h⟩
      · obtain ⟨ρ1, x, y⟩ := one b (.inr k2); exact ⟨ρ1, x, y, fun h => nomatch h⟩
      · obtain ⟨ρ1, x, y⟩ := one c (.inr k3); exact ⟨ρ1, x, y, fun h => nomatch h⟩
    simpa using this
/-! one turn of the law's loop -/
theorem number_eq {c : Int} (hc : 0 ≤ c ∧ c < 2147483647) {a b x4 x5 x6 x7 x8 x9 : Option D} : ∃ n : Int, n.natAbs < 10 ^ 61 ∧
    sSeq (sSet 3 (ePr pSub [ePr pMod [eVar 2, eC (.int 41)], eC (.int 20)])) (sIf (eT (ePr pEq [ePr pMod [ePr pDiv [eVar 2, eC (.int 41)], eC (.int 2)], eC (.int 1)]))
      (sSet 3 (ePr pMul [ePr pMod [ePr pSub [eCall m__law_great [] [eVar 2, eC (.int 1)], eCall m__law_great [] [eVar 2, eC (.int 2)]], ePr pPow [eC (.int 10), eC (.int 61)]], ePr pIx [ePr pLst [eC (.int 1), ePr pNeg [eC (.int 1)]], ePr pMod [ePr pDiv [eVar 2, eC (.int 500)], eC (.int 2)]]])) sNil)
      [a, b, some (.int c), x4, x5, x6, x7, x8, x9, none] = some (.nx, [a, b, some (.int c), some (.int n), x5, x6, x7, x8, x9, none]) := by
  have m41 := mod_int (i := c) (j := 41) (by decide)
  have d41 := div_int (i := c) (j := 41) (by decide) (by decide)
  have m2 := mod_int (i := c / 41) (j := 2) (by decide)
  obtain ⟨r0, r1⟩ := modr c (show (0 : Int) < 41 by decide)
  by_cases h : c / 41 % 2 = 1
  · obtain ⟨g1, e1, _, _⟩ := great_eq hc (.inl rfl)
    obtain ⟨g2, e2, _, _⟩ := great_eq hc (.inr rfl)
    have e3 : pPow [.int 10, .int 61] = some (.int (10 ^ 61)) := by
      have : powOk 10 61 = true := by decide +kernel
      show (if powOk 10 61 = true then some (D.int (10 ^ (61 : Int).toNat)) else none) = _
      rw [if_pos this]
      rfl
    have e4 := mod_int (i := g1 - g2) (j := 10 ^ 61) (by decide)
    obtain ⟨q0, q1⟩ := modr (g1 - g2) (show (0 : Int) < 10 ^ 61 by decide)
    have d5 := div_int (i := c) (j := 500) (by decide) (by decide)
    have m5 := mod_int (i := c / 500) (j := 2) (by decide)
    obtain ⟨s0, s1⟩ := modr (c / 500) (show (0 : Int) < 2 by decide)
    obtain ⟨dv, hd, ev⟩ := at_lst (f := .own) (ds := [.int 1, .int (-1)]) s0 (by simpa using s1)
    obtain ⟨v, rfl, hv⟩ : ∃ v : Int, dv = .int v ∧ (v = 1 ∨ v = -1) := by
      simp only [List.mem_cons, List.not_mem_nil, or_false] at hd
      rcases hd with rfl | rfl
      · exact ⟨1, rfl, .inl rfl⟩
      · exact ⟨-1, rfl, .inr rfl⟩
    generalize hP : (10 : Int) ^ 61 = P at e3 e4 q0 q1
    have hP2 : P = ((10 ^ 61 : Nat) : Int) := by rw [← hP]; decide +kernel
    have hn : ((g1 - g2) % P).natAbs < 10 ^ 61 := by omega
    have e5 := mul_int (i := (g1 - g2) % P) (j := v) (k := 203) (l := 1) (Nat.lt_of_lt_of_le hn (by decide +kernel)) (by rcases hv with rfl | rfl <;> decide) (by decide)
    have eng : pNeg [.int 1] = some (.int (-1)) := rfl
    refine ⟨(g1 - g2) % P * v, by rw [Int.natAbs_mul]; rcases hv with rfl | rfl <;> simpa using hn, ?_⟩
    simp [m41, sub_int, d41, m2, h, eq_int, e1, e2, e3, e4, d5, m5, pLst, sizeLine, eng, ev, e5]
  · refine ⟨c % 41 - 20, Nat.lt_of_lt_of_le (m := 100) (by omega) (by decide +kernel), ?_⟩
    simp [m41, sub_int, d41, m2, h, eq_int]
end OB

namespace OB
open PySem PySem.Spec PyProof.Rows L2 PySem.NumText
theorem sSeq_assoc {a b r : Mst} {ρ : En} : sSeq a (sSeq b r) ρ = sSeq (sSeq a b) r ρ := by
  unfold sSeq
  cases a ρ with
  | none => rfl
  | some p =>
    obtain ⟨o, ρ1⟩ := p
    cases o <;> rfl
def askT : Mst := sIf (bNot (eT (eCall m__law_asked [] [ePr pMod [ePr pAdd [ePr pMul [eVar 8, ePr pIx [ePr pLst [eC (.int 1), eC (.int 3)], ePr pMod [ePr pDiv [eVar 2, eC (.int 9)], eC (.int 2)]]], eVar 2], eC (.int 4)], eVar 5, eVar 6, eVar 7]))) (sRet (eC (.bl false))) sNil
theorem ask_ok {c l m : Int} {j : Nat} (hj : j < 4) (hc : 0 ≤ c ∧ c < 2147483647) {d : D} (hd : ((∃ s, d = .str s ∧ OkS s 2200) ∨ Things d)) {a b x3 x4 x9 : Option D} :
    askT [a, b, some (.int c), x3, x4, some d, some (.int l), some (.int m), some (.int j), x9] = some (.nx, [a, b, some (.int c), x3, x4, some d, some (.int l), some (.int m), some (.int j), x9]) := by
  have d9 := div_int (i := c) (j := 9) (by decide) (by decide)
  have m2 := mod_int (i := c / 9) (j := 2) (by decide)
  obtain ⟨s0, s1⟩ := modr (c / 9) (show (0 : Int) < 2 by decide)
  obtain ⟨dv, hdv, ev⟩ := at_lst (f := .own) (ds := [.int 1, .int 3]) s0 (by simpa using s1)
  obtain ⟨v, rfl, hv⟩ : ∃ v : Int, dv = .int v ∧ (v = 1 ∨ v = 3) := by
    simp only [List.mem_cons, List.not_mem_nil, or_false] at hdv
    rcases hdv with rfl | rfl
    · exact ⟨1, rfl, .inl rfl⟩
    · exact ⟨3, rfl, .inr rfl⟩
  have mm := mul_int (i := j) (j := v) (k := 3) (l := 3) (by omega) (by rcases hv with rfl | rfl <;> decide) (by decide)
  have m4 := mod_int (i := j * v + c) (j := 4) (by decide)
  obtain ⟨w0, w1⟩ := modr (j * v + c) (show (0 : Int) < 4 by decide)
  have hw : (j * v + c) % 4 = 0 ∨ (j * v + c) % 4 = 1 ∨ (j * v + c) % 4 = 2 ∨ (j * v + c) % 4 = 3 := by omega
  have key : m__law_asked [.int ((j * v + c) % 4), d, .int l, .int m] = .ok (.bl true) ∧ mapF Fl.toArg d = d ∧ mapF Fl.toTmp d = d := by
    rcases hd with ⟨s, rfl, o⟩ | h
    · exact ⟨asked_str hw (by decide) o l m, rfl, rfl⟩
    · obtain ⟨t1, t2, _⟩ := things h
      exact ⟨asked_any hw h l m, t1, t2⟩
  obtain ⟨k1, k2, k3⟩ := key
  unfold askT
  simp [d9, m2, pLst, sizeLine, ev, mm, add_int, m4, k1, k2, k3]
theorem things_ok {c n l m : Int} (hc : 0 ≤ c ∧ c < 2147483647) {a b x4 x5 x8 : Option D} : ∃ y5 y8, sFor (itV (ePr pLst [eCall m__law_text [] [eVar 2], eVar 3, eCall m__law_odd [] [ePr pDiv [eVar 2, eC (.int 7)]]])) (tgName 5) (sFor (itR1 [eC (.int 4)]) (tgName 8) askT)
    [a, b, some (.int c), some (.int n), x4, x5, some (.int l), some (.int m), x8, none] = some (.nx, [a, b, some (.int c), some (.int n), x4, y5, some (.int l), some (.int m), y8, none]) := by
  obtain ⟨t, et, ot⟩ := text_eq hc
  obtain ⟨d, ed, hd⟩ := odd_eq (c / 7)
  have d7 := div_int (i := c) (j := 7) (by decide) (by decide)
  obtain ⟨t1, t2, t3, t4, t5⟩ := things hd
  have ei : itV (ePr pLst [eCall m__law_text [] [eVar 2], eVar 3, eCall m__law_odd [] [ePr pDiv [eVar 2, eC (.int 7)]]]) [a, b, some (.int c), some (.int n), x4, x5, some (.int l), some (.int m), x8, none] = .ok ([.str t, .int n, d], true) := by
    simp [et, d7, ed, t4, pLst, sizeLine, itemsD, t3, t5]
  obtain ⟨ρ', e, y5, y8, rfl⟩ := sFor_ok (tg := tgName 5) (b := sFor (itR1 [eC (.int 4)]) (tgName 8) askT) ei (fun j ρ => ∃ y5 y8, ρ = [a, b, some (.int c), some (.int n), x4, y5, some (.int l), some (.int m), y8, none]) ⟨x5, x8, rfl⟩ (fun j d' ρ hdj ⟨y5, y8, hρ⟩ => by
    subst hρ
    have hd' : (∃ s, d' = .str s ∧ OkS s 2200) ∨ Things d' := by
      have := List.mem_of_getElem? hdj
      simp only [List.mem_cons, List.not_mem_nil, or_false] at this
      rcases this with rfl | rfl | rfl
      · exact .inl ⟨t, rfl, ot⟩
      · exact .inr (.inr (.inl ⟨n, rfl⟩))
      · exact .inr hd
    obtain ⟨ρ2, e2, y8', rfl⟩ := sFor_ok (it := itR1 [eC (.int 4)]) (tg := tgName 8) (b := askT) (ρ := [a, b, some (.int c), some (.int n), x4, some d', some (.int l), some (.int m), y8, none]) (ds := rngD 0 4) rfl (fun j ρ => ∃ y8, ρ = [a, b, some (.int c), some (.int n), x4, some d', some (.int l), some (.int m), y8, none]) ⟨y8, rfl⟩ (fun j d2 ρ hd2 ⟨y8, hρ⟩ => by
      subst hρ
      obtain ⟨hj, rfl⟩ := range8 (n := 4) hd2
      exact ⟨_, _, rfl, ask_ok hj hc hd', some (.int j), rfl⟩)
    exact ⟨_, _, rfl, e2, some d', y8', rfl⟩)
  exact ⟨y5, y8, e⟩
theorem abs_good {n : Int} (hn : n.natAbs < 10 ^ 61) : ∃ m : Nat, pAbs [.int n] = some (.int m) ∧ m < 10 ^ 61 := by
  refine ⟨n.natAbs, ?_, hn⟩
  show some (D.int (if n < 0 then -n else n)) = _
  congr 2
  split <;> omega
end OB

namespace OB
open PySem PySem.Spec PyProof.Rows L2 PySem.NumText
def lst4 (n c : Int) : List D := [.nd .tup [.int n, .int (n + c % 3)], .nd .tup [.int (n + 1), .int (n + 5)], .nd .tup [.int (-5), .int 5], .nd .tup [.int 5, .int 4]]
theorem set4_ok {n c : Int} {a b x4 x5 x6 x7 x8 : Option D} : sSet 4 (ePr pLst [ePr pTup [eVar 3, ePr pAdd [eVar 3, ePr pMod [eVar 2, eC (.int 3)]]], ePr pTup [ePr pAdd [eVar 3, eC (.int 1)], ePr pAdd [eVar 3, eC (.int 5)]], ePr pTup [ePr pNeg [eC (.int 5)], eC (.int 5)], ePr pTup [eC (.int 5), eC (.int 4)]])
    [a, b, some (.int c), some (.int n), x4, x5, x6, x7, x8, none] = some (.nx, [a, b, some (.int c), some (.int n), some (.nd (.lst .own) (lst4 n c)), x5, x6, x7, x8, none]) := by
  have m3 := mod_int (i := c) (j := 3) (by decide)
  have eng : pNeg [.int 5] = some (.int (-5)) := rfl
  unfold lst4
  simp [m3, add_int, pTup, pLst, sizeLine, eng]
theorem tgt_ok {n c : Int} {a b x5 x6 x7 x8 : Option D} : ∃ l m : Int, sTgt (ePr pIx [eVar 4, ePr pMod [ePr pDiv [eVar 2, eC (.int 82)], eC (.int 4)]]) (tgTup [tgName 6, tgName 7])
    [a, b, some (.int c), some (.int n), some (.nd (.lst .own) (lst4 n c)), x5, x6, x7, x8, none] = some (.nx, [a, b, some (.int c), some (.int n), some (.nd (.lst .own) (lst4 n c)), x5, some (.int l), some (.int m), x8, none]) := by
  have d82 := div_int (i := c) (j := 82) (by decide) (by decide)
  have m4 := mod_int (i := c / 82) (j := 4) (by decide)
  obtain ⟨s0, s1⟩ := modr (c / 82) (show (0 : Int) < 4 by decide)
  have em : (lst4 n c).map (mapF Fl.toTmp) = lst4 n c := by unfold lst4; simp
  obtain ⟨dv, hd, ev⟩ := at_lst (f := .tmp) (ds := lst4 n c) s0 (by unfold lst4; simpa using s1)
  obtain ⟨l, m, rfl⟩ : ∃ l m : Int, dv = .nd .tup [.int l, .int m] := by
    unfold lst4 at hd
    simp only [List.mem_cons, List.not_mem_nil, or_false] at hd
    rcases hd with rfl | rfl | rfl | rfl <;> exact ⟨_, _, rfl⟩
  refine ⟨l, m, ?_⟩
  have ee : ePr pIx [eVar 4, ePr pMod [ePr pDiv [eVar 2, eC (.int 82)], eC (.int 4)]] [a, b, some (.int c), some (.int n), some (.nd (.lst .own) (lst4 n c)), x5, x6, x7, x8, none] = .ok (.nd .tup [.int l, .int m]) := by
    simp [em, d82, m4, ev]
  unfold sTgt sOn
  rw [ee]
  simp
  rfl
noncomputable def bodyL : Mst :=
  ((sSeq ((sSet 2 ((eCall m__law_mixed [] [(eCall m__law_cell_at [] [eVar 0, eVar 1]), eVar 1]))))
  ((sSeq ((sSet 3 ((ePr pSub [(ePr pMod [eVar 2, eC (.int 41)]), eC (.int 20)]))))
  ((sSeq ((sIf ((eT (ePr pEq [(ePr pMod [(ePr pDiv [eVar 2, eC (.int 41)]), eC (.int 2)]), eC (.int 1)])))
  ((sSet 3 ((ePr pMul [(ePr pMod [(ePr pSub [(eCall m__law_great [] [eVar 2, eC (.int 1)]), (eCall m__law_great [] [eVar 2, eC (.int 2)])]), (ePr pPow [eC (.int 10), eC (.int 61)])]), (ePr pIx [(ePr pLst [eC (.int 1), (ePr pNeg [eC (.int 1)])]), (ePr pMod [(ePr pDiv [eVar 2, eC (.int 500)]), eC (.int 2)])])]))))
  (sNil)))
  ((sSeq ((sSet 4 ((ePr pLst [(ePr pTup [eVar 3, (ePr pAdd [eVar 3, (ePr pMod [eVar 2, eC (.int 3)])])]), (ePr pTup [(ePr pAdd [eVar 3, eC (.int 1)]), (ePr pAdd [eVar 3, eC (.int 5)])]), (ePr pTup [(ePr pNeg [eC (.int 5)]), eC (.int 5)]), (ePr pTup [eC (.int 5), eC (.int 4)])]))))
  ((sSeq ((sTgt ((ePr pIx [eVar 4, (ePr pMod [(ePr pDiv [eVar 2, eC (.int 82)]), eC (.int 4)])])) (tgTup [(tgName 6), (tgName 7)])))
  ((sSeq ((sFor (itV ((ePr pLst [(eCall m__law_text [] [eVar 2]), eVar 3, (eCall m__law_odd [] [(ePr pDiv [eVar 2, eC (.int 7)])])]))) (tgName 5)
  ((sFor (itR1 [eC (.int 4)]) (tgName 8)
  ((sIf ((bNot ((eT ((eCall m__law_asked [] [(ePr pMod [(ePr pAdd [(ePr pMul [eVar 8, (ePr pIx [(ePr pLst [eC (.int 1), eC (.int 3)]), (ePr pMod [(ePr pDiv [eVar 2, eC (.int 9)]), eC (.int 2)])])]), eVar 2]), eC (.int 4)]), eVar 5, eVar 6, eVar 7]))))))
  ((sRet (eC (.bl false))))
  (sNil)))))))
  ((sIf ((bNot ((eT ((eCall m__law_number_good [] [(ePr pAbs [eVar 3])]))))))
  ((sRet (eC (.bl false))))
  (sNil)))))))))))))))
theorem law_is (ns : List Int) (hl : ns.length ≤ 63) (hb : ∀ z ∈ ns, Builtin.Int.intBits z ≤ 1048576) : m_law [.nd (.lst .bor) (ns.map .int)] = .ok (.bl true) := by
  have h : Cells ns := fun z hz => bits_ge (k := 1048576) (hb z hz)
  have f1 := first_ok h
  have f2 := second_ok (some (.nd (.lst .bor) (ns.map .int)) :: List.replicate 9 none) (by simp)
  have en : pNe [.nd (.lst .own) [], .nd (.lst .own) []] = some (.bl false) := pNe_nil (f := .own) (g := .own) (n := 1) (ss := []) fun _ h => nomatch h
  have ec : (ns.map D.int).map (mapF Fl.toTmp) = ns.map D.int := by rw [List.map_map]; rfl
  obtain ⟨hi, ehi, hh⟩ : ∃ hi : Nat, itR2 [eC (.int 2), ePr pMax [eC (.int 3), ePr pMin [ePr pLen [eVar 0], eC (.int 63)]]] (some (.nd (.lst .bor) (ns.map .int)) :: List.replicate 9 none) = .ok (rngD 2 hi, true) ∧ hi ≤ 63 := by
    have emin : pMin [.int (ns.length : Nat), .int 63] = some (.int (ns.length : Nat)) := by
      show some (D.int (if (63 : Int) < (ns.length : Nat) then 63 else (ns.length : Nat))) = _
      rw [if_neg (by omega)]
    have emax : pMax [.int 3, .int (ns.length : Nat)] = some (.int ((max 3 ns.length : Nat) : Int)) := by
      show some (D.int (if ((ns.length : Nat) : Int) > 3 then ((ns.length : Nat) : Int) else 3)) = _
      congr 2
      split <;> omega
    have r2 : rngOk 2 = true := by decide
    have rh : rngOk ((max 3 ns.length : Nat) : Int) = true := rng_nat (by omega)
    refine ⟨max 3 ns.length, ?_, by omega⟩
    have e : eL [eC (.int 2), ePr pMax [eC (.int 3), ePr pMin [ePr pLen [eVar 0], eC (.int 63)]]] (some (.nd (.lst .bor) (ns.map .int)) :: List.replicate 9 none) = .ok [.int 2, .int ((max 3 ns.length : Nat) : Int)] := by
      simp only [eL_cons, eL_nil, eC_eq, ePr_eq, eVar_eq, getV_eq]
      simp [len_lst, emin]
      rw [emax]
      rfl
    unfold itR2
    rw [e, Ot.bind_ok]
    dsimp only
    rw [r2, rh]
    rfl
  unfold m_law g_law
  rw [bodyM_eq]
  rw [show initE 10 [.nd (.lst .bor) (ns.map .int)] = some (.nd (.lst .bor) (ns.map .int)) :: List.replicate 9 none from rfl]
  rw [sSeq_nx (ρ1 := some (.nd (.lst .bor) (ns.map .int)) :: List.replicate 9 none) (by rw [sIf_f f1]; rfl)]
  rw [sSeq_nx (ρ1 := some (.nd (.lst .bor) (ns.map .int)) :: List.replicate 9 none) (by
    rw [sIf_f]
    · rfl
    · rw [eT_eq, ePr_eq, eL_cons, f2]
      simp [pLst, sizeLine, en])]
  obtain ⟨ρ', e, -⟩ := sFor_ok (tg := tgName 1) (b := bodyL) ehi (fun j ρ => ∃ x1 x2 x3 x4 x5 x6 x7 x8, ρ = [some (.nd (.lst .bor) (ns.map .int)), x1, x2, x3, x4, x5, x6, x7, x8, none]) ⟨none, none, none, none, none, none, none, none, rfl⟩ (fun j d ρ hd ⟨x1, x2, x3, x4, x5, x6, x7, x8, hρ⟩ => by
    subst hρ
    obtain ⟨k, hk, rfl⟩ : ∃ k : Nat, k ≤ 62 ∧ d = .int k := by
      unfold rngD at hd
      rw [List.getElem?_map] at hd
      cases e : (List.range ((hi : Int) - 2).toNat)[j]? with
      | none => rw [e] at hd; cases hd
      | some i =>
        rw [e] at hd
        cases hd
        obtain ⟨h1, h2⟩ := List.getElem?_eq_some_iff.mp e
        simp at h1 h2
        exact ⟨2 + i, by omega, by push_cast; rfl⟩
    have ecell := cell_at_eq (ns := ns) (k := k) (by omega)
    have emix := mixed_cell h k k (by omega)
    have hc := mx_range (ns.getD k 0) k
    generalize mx (ns.getD k 0) k = c at emix hc
    obtain ⟨n, hn, en3⟩ := number_eq hc (a := some (.nd (.lst .bor) (ns.map .int))) (b := some (.int k)) (x4 := x3) (x5 := x4) (x6 := x5) (x7 := x6) (x8 := x7) (x9 := x8)
    obtain ⟨l, m, et⟩ := tgt_ok (n := n) (c := c) (a := some (.nd (.lst .bor) (ns.map .int))) (b := some (.int k)) (x5 := x5) (x6 := x6) (x7 := x7) (x8 := x8)
    obtain ⟨y5, y8, eth⟩ := things_ok (n := n) (l := l) (m := m) hc (a := some (.nd (.lst .bor) (ns.map .int))) (b := some (.int k)) (x4 := some (.nd (.lst .own) (lst4 n c))) (x5 := x5) (x8 := x8)
    obtain ⟨q, eq1, hq⟩ := abs_good hn
    have eg := number_good_eq hq
    refine ⟨[some (.nd (.lst .bor) (ns.map .int)), some (.int k), x2, x3, x4, x5, x6, x7, x8, none], _, rfl, ?_, some (.int k), some (.int c), some (.int n), some (.nd (.lst .own) (lst4 n c)), y5, some (.int l), some (.int m), y8, rfl⟩
    unfold bodyL
    rw [sSeq_nx (ρ1 := [some (.nd (.lst .bor) (ns.map .int)), some (.int k), some (.int c), x3, x4, x5, x6, x7, x8, none]) (by simp at ecell emix ⊢; simp [ecell, emix])]
    rw [sSeq_assoc, sSeq_nx en3, sSeq_nx set4_ok, sSeq_nx et]
    unfold askT at eth
    rw [sSeq_nx eth]
    rw [sIf_f (by simp [eq1, eg])]
    rfl)
  unfold bodyL at e
  rw [sSeq_nx e]
  rfl
end OB

namespace OB
open PySem PySem.Spec PyProof.Rows L2
def d_words_of : He.DefD := ⟨("words_of", none), "words_of", "words_of", defArgs s_words_of, defBody s_words_of, defScope s_words_of, [], []⟩
def d__law_line_good : He.DefD := ⟨("_law_line_good", none), "_law_line_good", "_law_line_good", defArgs s__law_line_good, defBody s__law_line_good, defScope s__law_line_good, [], []⟩
def d__law_mixed : He.DefD := ⟨("_law_mixed", none), "_law_mixed", "_law_mixed", defArgs s__law_mixed, defBody s__law_mixed, defScope s__law_mixed, [], []⟩
def d__law_cell_at : He.DefD := ⟨("_law_cell_at", none), "_law_cell_at", "_law_cell_at", defArgs s__law_cell_at, defBody s__law_cell_at, defScope s__law_cell_at, [], []⟩
def d__law_signs : He.DefD := ⟨("_law_signs", none), "_law_signs", "_law_signs", defArgs s__law_signs, defBody s__law_signs, defScope s__law_signs, [], []⟩
def d__law_text : He.DefD := ⟨("_law_text", none), "_law_text", "_law_text", defArgs s__law_text, defBody s__law_text, defScope s__law_text, [], []⟩
def d__law_line : He.DefD := ⟨("_law_line", none), "_law_line", "_law_line", defArgs s__law_line, defBody s__law_line, defScope s__law_line, [], []⟩
def d__law_odd : He.DefD := ⟨("_law_odd", none), "_law_odd", "_law_odd", defArgs s__law_odd, defBody s__law_odd, defScope s__law_odd, [], []⟩
def d_are_signs : He.DefD := ⟨("are_signs", none), "are_signs", "are_signs", defArgs s_are_signs, defBody s_are_signs, defScope s_are_signs, [], []⟩
def d_number_of : He.DefD := ⟨("number_of", none), "number_of", "number_of", defArgs s_number_of, defBody s_number_of, defScope s_number_of, [], []⟩
def d_is_name : He.DefD := ⟨("is_name", none), "is_name", "is_name", defArgs s_is_name, defBody s_is_name, defScope s_is_name, [], []⟩
def d__law_great : He.DefD := ⟨("_law_great", none), "_law_great", "_law_great", defArgs s__law_great, defBody s__law_great, defScope s__law_great, [], []⟩
def d__law_alike : He.DefD := ⟨("_law_alike", none), "_law_alike", "_law_alike", defArgs s__law_alike, defBody s__law_alike, defScope s__law_alike, [], []⟩
def d__law_is_name : He.DefD := ⟨("_law_is_name", none), "_law_is_name", "_law_is_name", defArgs s__law_is_name, defBody s__law_is_name, defScope s__law_is_name, [], []⟩
def d__law_number_of : He.DefD := ⟨("_law_number_of", none), "_law_number_of", "_law_number_of", defArgs s__law_number_of, defBody s__law_number_of, defScope s__law_number_of, [], []⟩
def d_is_whole : He.DefD := ⟨("is_whole", none), "is_whole", "is_whole", defArgs s_is_whole, defBody s_is_whole, defScope s_is_whole, [], []⟩
def d_is_among : He.DefD := ⟨("is_among", none), "is_among", "is_among", defArgs s_is_among, defBody s_is_among, defScope s_is_among, [], []⟩
def d__law_asked : He.DefD := ⟨("_law_asked", none), "_law_asked", "_law_asked", defArgs s__law_asked, defBody s__law_asked, defScope s__law_asked, [], []⟩
def d_number_text : He.DefD := ⟨("number_text", none), "number_text", "number_text", defArgs s_number_text, defBody s_number_text, defScope s_number_text, [], []⟩
def d__law_number_good : He.DefD := ⟨("_law_number_good", none), "_law_number_good", "_law_number_good", defArgs s__law_number_good, defBody s__law_number_good, defScope s__law_number_good, [], []⟩
def d_law : He.DefD := ⟨("law", none), "law", "law", defArgs s_law, defBody s_law, defScope s_law, [], []⟩
def fnL : List He.DefD := [d_words_of, d__law_line_good, d__law_mixed, d__law_cell_at, d__law_signs, d__law_text, d__law_line, d__law_odd, d_are_signs, d_number_of, d_is_name, d__law_great, d__law_alike, d__law_is_name, d__law_number_of, d_is_whole, d_is_among, d__law_asked, d_number_text, d__law_number_good, d_law]
def faL : List He.Fa := [.glo "words_of", .glo "_law_line_good", .glo "_law_mixed", .glo "_law_cell_at", .glo "_law_signs", .glo "_law_text", .glo "_law_line", .glo "_law_odd", .glo "are_signs", .glo "number_of", .glo "is_name", .glo "_law_great", .glo "_law_alike", .glo "_law_is_name", .glo "_law_number_of", .glo "is_whole", .glo "is_among", .glo "_law_asked", .glo "number_text", .glo "_law_number_good", .glo "law", .free "isinstance", .free "str", .free "range", .free "list", .free "len", .free "zip", .free "int", .free "all", .free "bool", .free "reversed", .free "min", .free "max", .free "abs", .int "MOST_FIGURES" 1000, .str "FIGURES" "0123456789", .int "MOST_LETTERS" 12, .str "LETTERS" "abcdefghijklmnopqrstuvwxyz"]
abbrev RR : PySem.W.OpenRow := PySem.W.OpenLaw.row PySem.Challenge.rw_larderwise_k01_words_and_numbers
abbrev hk : PySem.W.Hook := hookZ 4 faL fnL
def obK (s : PySem.W.SharedT) : He.AlD := obsZ 4 faL fnL (HandSHeadRun.getT s)
theorem obK_eq (s : PySem.W.SharedT) : obK s = hk.obs s.abs := obsZ_eq (HandSHeadRun.getT_eq s)
def looseL : List PySem.Str := ["LETTERS", "FIGURES", "MOST_LETTERS", "MOST_FIGURES", "is_whole", "is_among", "are_signs", "is_name", "number_text", "number_of", "words_of", "_law_cell_at", "_law_mixed", "_law_great", "_law_signs", "_law_text", "_law_odd", "_law_is_name", "_law_number_of", "_law_alike", "_law_asked", "_law_number_good", "_law_line", "_law_line_good"]
theorem runK (w : World) : HandSHeadRun.RunEq RR (PySem.W.view RR.prog [26]) hk obK 1500 looseL w := by
  intro os
  kernel_rfl
theorem factsK {w : World} {K : PySem.W.Frag} {h : Heap} {mg : Str → Option Value} {f : Addr} {cm : Cm} (X : K.In h) (G : h.Ns mainGlobals mg) (hfa : mg ("law" : Str) = some (.ref f)) (cz : SaysZ faL fnL K) :
    ∃ fd : FuncData, (∀ (s : Shared) (v : Value), BindsTo s fd ⟨[v], []⟩ [("_law_script", v)]) ∧ ∀ base : Heap, K.In base → base.Ns mainGlobals mg → FnOk P0 w K mg base (L2.CX P0 w) 4 f fd ["_law_script"] (spP K cm 1 m_law) := by
  have c := cz.c
  have T : Txt K mg := ⟨He.int_ok X G (c.fact 34 rfl), He.str_ok X G (c.fact 35 rfl), He.int_ok X G (c.fact 36 rfl), He.str_ok X G (c.fact 37 rfl), He.free_ok X G (c.fact 21 rfl), He.free_ok X G (c.fact 22 rfl), He.free_ok X G (c.fact 23 rfl), He.free_ok X G (c.fact 24 rfl), He.free_ok X G (c.fact 25 rfl), He.free_ok X G (c.fact 26 rfl), He.free_ok X G (c.fact 27 rfl), He.free_ok X G (c.fact 28 rfl), He.free_ok X G (c.fact 29 rfl), He.free_ok X G (c.fact 30 rfl), He.free_ok X G (c.fact 31 rfl), He.free_ok X G (c.fact 32 rfl), He.free_ok X G (c.fact 33 rfl), cz.dig⟩
  obtain ⟨fd_words_of, F_words_of⟩ := c.def_ 0 (d := d_words_of) rfl
  have U_words_of : Fun K "words_of" "words_of" s_words_of _ fd_words_of := He5.fun_of (st := s_words_of) F_words_of
  obtain ⟨fd__law_line_good, F__law_line_good⟩ := c.def_ 1 (d := d__law_line_good) rfl
  have U__law_line_good : Fun K "_law_line_good" "_law_line_good" s__law_line_good _ fd__law_line_good := He5.fun_of (st := s__law_line_good) F__law_line_good
  obtain ⟨fd__law_mixed, F__law_mixed⟩ := c.def_ 2 (d := d__law_mixed) rfl
  have U__law_mixed : Fun K "_law_mixed" "_law_mixed" s__law_mixed _ fd__law_mixed := He5.fun_of (st := s__law_mixed) F__law_mixed
  obtain ⟨fd__law_cell_at, F__law_cell_at⟩ := c.def_ 3 (d := d__law_cell_at) rfl
  have U__law_cell_at : Fun K "_law_cell_at" "_law_cell_at" s__law_cell_at _ fd__law_cell_at := He5.fun_of (st := s__law_cell_at) F__law_cell_at
  obtain ⟨fd__law_signs, F__law_signs⟩ := c.def_ 4 (d := d__law_signs) rfl
  have U__law_signs : Fun K "_law_signs" "_law_signs" s__law_signs _ fd__law_signs := He5.fun_of (st := s__law_signs) F__law_signs
  obtain ⟨fd__law_text, F__law_text⟩ := c.def_ 5 (d := d__law_text) rfl
  have U__law_text : Fun K "_law_text" "_law_text" s__law_text _ fd__law_text := He5.fun_of (st := s__law_text) F__law_text
  obtain ⟨fd__law_line, F__law_line⟩ := c.def_ 6 (d := d__law_line) rfl
  have U__law_line : Fun K "_law_line" "_law_line" s__law_line _ fd__law_line := He5.fun_of (st := s__law_line) F__law_line
  obtain ⟨fd__law_odd, F__law_odd⟩ := c.def_ 7 (d := d__law_odd) rfl
  have U__law_odd : Fun K "_law_odd" "_law_odd" s__law_odd _ fd__law_odd := He5.fun_of (st := s__law_odd) F__law_odd
  obtain ⟨fd_are_signs, F_are_signs⟩ := c.def_ 8 (d := d_are_signs) rfl
  have U_are_signs : Fun K "are_signs" "are_signs" s_are_signs _ fd_are_signs := He5.fun_of (st := s_are_signs) F_are_signs
  obtain ⟨fd_number_of, F_number_of⟩ := c.def_ 9 (d := d_number_of) rfl
  have U_number_of : Fun K "number_of" "number_of" s_number_of _ fd_number_of := He5.fun_of (st := s_number_of) F_number_of
  obtain ⟨fd_is_name, F_is_name⟩ := c.def_ 10 (d := d_is_name) rfl
  have U_is_name : Fun K "is_name" "is_name" s_is_name _ fd_is_name := He5.fun_of (st := s_is_name) F_is_name
  obtain ⟨fd__law_great, F__law_great⟩ := c.def_ 11 (d := d__law_great) rfl
  have U__law_great : Fun K "_law_great" "_law_great" s__law_great _ fd__law_great := He5.fun_of (st := s__law_great) F__law_great
  obtain ⟨fd__law_alike, F__law_alike⟩ := c.def_ 12 (d := d__law_alike) rfl
  have U__law_alike : Fun K "_law_alike" "_law_alike" s__law_alike _ fd__law_alike := He5.fun_of (st := s__law_alike) F__law_alike
  obtain ⟨fd__law_is_name, F__law_is_name⟩ := c.def_ 13 (d := d__law_is_name) rfl
  have U__law_is_name : Fun K "_law_is_name" "_law_is_name" s__law_is_name _ fd__law_is_name := He5.fun_of (st := s__law_is_name) F__law_is_name
  obtain ⟨fd__law_number_of, F__law_number_of⟩ := c.def_ 14 (d := d__law_number_of) rfl
  have U__law_number_of : Fun K "_law_number_of" "_law_number_of" s__law_number_of _ fd__law_number_of := He5.fun_of (st := s__law_number_of) F__law_number_of
  obtain ⟨fd_is_whole, F_is_whole⟩ := c.def_ 15 (d := d_is_whole) rfl
  have U_is_whole : Fun K "is_whole" "is_whole" s_is_whole _ fd_is_whole := He5.fun_of (st := s_is_whole) F_is_whole
  obtain ⟨fd_is_among, F_is_among⟩ := c.def_ 16 (d := d_is_among) rfl
  have U_is_among : Fun K "is_among" "is_among" s_is_among _ fd_is_among := He5.fun_of (st := s_is_among) F_is_among
  obtain ⟨fd__law_asked, F__law_asked⟩ := c.def_ 17 (d := d__law_asked) rfl
  have U__law_asked : Fun K "_law_asked" "_law_asked" s__law_asked _ fd__law_asked := He5.fun_of (st := s__law_asked) F__law_asked
  obtain ⟨fd_number_text, F_number_text⟩ := c.def_ 18 (d := d_number_text) rfl
  have U_number_text : Fun K "number_text" "number_text" s_number_text _ fd_number_text := He5.fun_of (st := s_number_text) F_number_text
  obtain ⟨fd__law_number_good, F__law_number_good⟩ := c.def_ 19 (d := d__law_number_good) rfl
  have U__law_number_good : Fun K "_law_number_good" "_law_number_good" s__law_number_good _ fd__law_number_good := He5.fun_of (st := s__law_number_good) F__law_number_good
  obtain ⟨fd_law, F_law⟩ := c.def_ 20 (d := d_law) rfl
  have U_law : Fun K "law" "law" s_law _ fd_law := He5.fun_of (st := s_law) F_law
  have e := hfa.symm.trans (He.glo_ok X G (c.fact 20 (f := .glo "law") rfl))
  cases e
  have b := FunD.bindsA (ps := ["_law_script"]) F_law fun _ _ _ _ _ _ us hl => match us, hl with | [_], _ => rfl
  refine ⟨fd_law, fun s v => b s [v] rfl, fun base _ _ => ?_⟩
  have G_words_of : Good P0 w K mg base cm "words_of" 1 1 m_words_of := ⟨_, fd_words_of, ["line"], He.glo_ok X G (c.fact 0 rfl), F_words_of.kp, (FunD.bindsN F_words_of fun _ _ _ _ _ _ us hl => match us, hl with | [_], _ => rfl), ok_words_of T U_words_of⟩
  have G__law_line_good : Good P0 w K mg base cm "_law_line_good" 1 2 m__law_line_good := ⟨_, fd__law_line_good, ["_law_line_here"], He.glo_ok X G (c.fact 1 rfl), F__law_line_good.kp, (FunD.bindsN F__law_line_good fun _ _ _ _ _ _ us hl => match us, hl with | [_], _ => rfl), ok__law_line_good T U__law_line_good G_words_of⟩
  have G__law_mixed : Good P0 w K mg base cm "_law_mixed" 2 1 m__law_mixed := ⟨_, fd__law_mixed, ["_law_cell", "_law_k"], He.glo_ok X G (c.fact 2 rfl), F__law_mixed.kp, (FunD.bindsN F__law_mixed fun _ _ _ _ _ _ us hl => match us, hl with | [_, _], _ => rfl), ok__law_mixed T U__law_mixed⟩
  have G__law_cell_at : Good P0 w K mg base cm "_law_cell_at" 2 1 m__law_cell_at := ⟨_, fd__law_cell_at, ["_law_script", "_law_k"], He.glo_ok X G (c.fact 3 rfl), F__law_cell_at.kp, (FunD.bindsN F__law_cell_at fun _ _ _ _ _ _ us hl => match us, hl with | [_, _], _ => rfl), ok__law_cell_at T U__law_cell_at⟩
  have G__law_signs : Good P0 w K mg base cm "_law_signs" 0 1 m__law_signs := ⟨_, fd__law_signs, [], He.glo_ok X G (c.fact 4 rfl), F__law_signs.kp, (FunD.bindsN F__law_signs fun _ _ _ _ _ _ us hl => match us, hl with | [], _ => rfl), ok__law_signs T U__law_signs⟩
  have G__law_text : Good P0 w K mg base cm "_law_text" 1 2 m__law_text := ⟨_, fd__law_text, ["_law_cell"], He.glo_ok X G (c.fact 5 rfl), F__law_text.kp, (FunD.bindsN F__law_text fun _ _ _ _ _ _ us hl => match us, hl with | [_], _ => rfl), ok__law_text T U__law_text G__law_mixed G__law_signs⟩
  have G__law_line : Good P0 w K mg base cm "_law_line" 1 3 m__law_line := ⟨_, fd__law_line, ["_law_script"], He.glo_ok X G (c.fact 6 rfl), F__law_line.kp, (FunD.bindsN F__law_line fun _ _ _ _ _ _ us hl => match us, hl with | [_], _ => rfl), ok__law_line T U__law_line G__law_mixed G__law_cell_at G__law_text⟩
  have G__law_odd : Good P0 w K mg base cm "_law_odd" 1 1 m__law_odd := ⟨_, fd__law_odd, ["_law_cell"], He.glo_ok X G (c.fact 7 rfl), F__law_odd.kp, (FunD.bindsN F__law_odd fun _ _ _ _ _ _ us hl => match us, hl with | [_], _ => rfl), ok__law_odd T U__law_odd⟩
  have G_are_signs : Good P0 w K mg base cm "are_signs" 2 1 m_are_signs := ⟨_, fd_are_signs, ["text", "signs"], He.glo_ok X G (c.fact 8 rfl), F_are_signs.kp, (FunD.bindsN F_are_signs fun _ _ _ _ _ _ us hl => match us, hl with | [_, _], _ => rfl), ok_are_signs T U_are_signs⟩
  have G_number_of : Good P0 w K mg base cm "number_of" 1 2 m_number_of := ⟨_, fd_number_of, ["word"], He.glo_ok X G (c.fact 9 rfl), F_number_of.kp, (FunD.bindsN F_number_of fun _ _ _ _ _ _ us hl => match us, hl with | [_], _ => rfl), ok_number_of T U_number_of G_are_signs⟩
  have G_is_name : Good P0 w K mg base cm "is_name" 1 2 m_is_name := ⟨_, fd_is_name, ["thing"], He.glo_ok X G (c.fact 10 rfl), F_is_name.kp, (FunD.bindsN F_is_name fun _ _ _ _ _ _ us hl => match us, hl with | [_], _ => rfl), ok_is_name T U_is_name G_are_signs⟩
  have G__law_great : Good P0 w K mg base cm "_law_great" 2 2 m__law_great := ⟨_, fd__law_great, ["_law_cell", "_law_k"], He.glo_ok X G (c.fact 11 rfl), F__law_great.kp, (FunD.bindsN F__law_great fun _ _ _ _ _ _ us hl => match us, hl with | [_, _], _ => rfl), ok__law_great T U__law_great G__law_mixed⟩
  have G__law_alike : Good P0 w K mg base cm "_law_alike" 2 1 m__law_alike := ⟨_, fd__law_alike, ["_law_found", "_law_due"], He.glo_ok X G (c.fact 12 rfl), F__law_alike.kp, (FunD.bindsN F__law_alike fun _ _ _ _ _ _ us hl => match us, hl with | [_, _], _ => rfl), ok__law_alike T U__law_alike⟩
  have G__law_is_name : Good P0 w K mg base cm "_law_is_name" 1 1 m__law_is_name := ⟨_, fd__law_is_name, ["_law_thing"], He.glo_ok X G (c.fact 13 rfl), F__law_is_name.kp, (FunD.bindsN F__law_is_name fun _ _ _ _ _ _ us hl => match us, hl with | [_], _ => rfl), ok__law_is_name T U__law_is_name⟩
  have G__law_number_of : Good P0 w K mg base cm "_law_number_of" 1 1 m__law_number_of := ⟨_, fd__law_number_of, ["_law_word"], He.glo_ok X G (c.fact 14 rfl), F__law_number_of.kp, (FunD.bindsN F__law_number_of fun _ _ _ _ _ _ us hl => match us, hl with | [_], _ => rfl), ok__law_number_of T U__law_number_of⟩
  have G_is_whole : Good P0 w K mg base cm "is_whole" 1 1 m_is_whole := ⟨_, fd_is_whole, ["thing"], He.glo_ok X G (c.fact 15 rfl), F_is_whole.kp, (FunD.bindsN F_is_whole fun _ _ _ _ _ _ us hl => match us, hl with | [_], _ => rfl), ok_is_whole T U_is_whole⟩
  have G_is_among : Good P0 w K mg base cm "is_among" 3 2 m_is_among := ⟨_, fd_is_among, ["thing", "least", "most"], He.glo_ok X G (c.fact 16 rfl), F_is_among.kp, (FunD.bindsN F_is_among fun _ _ _ _ _ _ us hl => match us, hl with | [_, _, _], _ => rfl), ok_is_among T U_is_among G_is_whole⟩
  have G__law_asked : Good P0 w K mg base cm "_law_asked" 4 3 m__law_asked := ⟨_, fd__law_asked, ["_law_way", "_law_thing", "_law_least", "_law_most"], He.glo_ok X G (c.fact 17 rfl), F__law_asked.kp, (FunD.bindsN F__law_asked fun _ _ _ _ _ _ us hl => match us, hl with | [_, _, _, _], _ => rfl), ok__law_asked T U__law_asked G__law_alike G_is_name G__law_is_name G_number_of G__law_number_of G_is_whole G_is_among⟩
  have G_number_text : Good P0 w K mg base cm "number_text" 1 1 m_number_text := ⟨_, fd_number_text, ["number"], He.glo_ok X G (c.fact 18 rfl), F_number_text.kp, (FunD.bindsN F_number_text fun _ _ _ _ _ _ us hl => match us, hl with | [_], _ => rfl), ok_number_text T U_number_text⟩
  have G__law_number_good : Good P0 w K mg base cm "_law_number_good" 1 3 m__law_number_good := ⟨_, fd__law_number_good, ["_law_number"], He.glo_ok X G (c.fact 19 rfl), F__law_number_good.kp, (FunD.bindsN F__law_number_good fun _ _ _ _ _ _ us hl => match us, hl with | [_], _ => rfl), ok__law_number_good T U__law_number_good G_number_text G__law_alike G_number_of⟩
  exact ok_law T U_law G__law_line_good G__law_line G_words_of G__law_odd G__law_cell_at G_number_of G_is_name G__law_mixed G__law_great G__law_text G__law_asked G__law_number_good

end OB
open PySem PySem.W PySem.Calls PyProof.Rows in
theorem PySem.Challenge.cw_larderwise_k01_words_and_numbers_holds : PySem.Challenge.rw_larderwise_k01_words_and_numbers.Holds := by
  w_on; o_law
  refine HandSHeadRun.head_any (r := OpenLaw.row PySem.Challenge.rw_larderwise_k01_words_and_numbers) (q := view (OpenLaw.row PySem.Challenge.rw_larderwise_k01_words_and_numbers).prog [26]) (H := OB.hk) (ob := OB.obK) (M := 1500) (loose := OB.looseL) (d := HandSHeadRun.topDef (OpenLaw.row PySem.Challenge.rw_larderwise_k01_words_and_numbers).prog 26) (kwd := []) OB.obK_eq
    (by kernel_rfl) (fun s => by kernel_rfl) OB.runK (by kernel_rfl) (by kernel_rfl) (by kernel_rfl) (by rfl) (by first | assumption | decide +kernel) (by decide +kernel) ⟨rfl, rfl, rfl, rfl, rfl, by decide +kernel⟩ ?hw ?hc
  case hw => w_witness2
  case hc =>
    refine OB.walk_ofEB (l := PySem.Challenge.rw_larderwise_k01_words_and_numbers) (n := 63) (k := 4) (x := "_law_script") (CX := fun w => L2.CX OB.P0 w) rfl (by decide) (by kernel_rfl) ⟨rfl, by decide, by decide⟩ ?F (fun w => OB.cx_no)
    intro w mg fa h Y G hmg0
    obtain ⟨K, KX, c⟩ := Y
    have hmg : mg ("law" : PySem.Str) = some (.ref fa) := by
      have e : (HandSHeadRun.topDef (OpenLaw.row PySem.Challenge.rw_larderwise_k01_words_and_numbers).prog 26).name = ("law" : PySem.Str) := by kernel_rfl
      rw [← e]
      exact hmg0
    obtain ⟨fd, hb, hF⟩ := OB.factsK (w := w) (cm := fun _ => 0) KX G hmg c
    exact ⟨K, fd, OB.spP K (fun _ => 0) 1 OB.m_law, KX, hb, fun H a ns hl hbits _ hS => OB.spP_script c.nol hS (OB.law_is ns hl hbits), hF⟩
