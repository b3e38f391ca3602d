import PyProof.Rows.All
import KE.KExcIs
import KE.KxIndex
import KE.GoesEnum
import HandS.CallSlots
import HandS.ExcInit
import HandS.SortKw
import HandS.DictTup
import HandS.ListItems
import HandS.DictComp
import HandS.SetKeys
import KE.SortData
import KE.SortKeyHeap
import KE.SortLaws
import Wide.All
import OpenK.AllK
import Wide.FinOn
import HandS.ForMost
import HandS.ForExc
import HandS.Flow
import HandS.Zip
import HandS.IsInst
import HandS.Style
import HandS.Evl
import HandS.Steps
import HandS.Defaults
import HandS.FStr
import HandS.Conv
import HandS.SortInts
import HandS.WideBits
import HandS.RaiseMore
import HandS.ExcOwn
import HandS.ExcIs
import HandS.ExcValue
import HandS.HeadHook1
import HandS.Lambda
import HandS.Codes
import HandS.Head0
import HandS.Head1
import HandS.Head2
import HandS.HeadEnd
import HandS.HeadHook2
import HandS.HeadHook4
import PySem.Challenge.RW_threeroofs_k81_numbers_in_rows
set_option Elab.async false
set_option linter.all false
set_option maxRecDepth 100000
set_option maxHeartbeats 2000000
/-! Typed mirrors over the readings: what a value of the heap stands for (Rep), what a reading gives (Tv, Tt, TvA, It), statements (q_*). -/
namespace Rf
open PySem L2
abbrev Fg := PySem.W.Frag
abbrev St := L2.St
/-! ### growing heaps: F is the part that never changes any more, H the whole -/
structure Gr (F H F' H' : Hp) : Prop where
  ex : Same F F'
  keep : Same H H'
  sub : Same F' H'
  new : forall a o, H a = some o -> F' a = F a
/-- .. but for a zone Z that may change -/
structure GrZ (Z : Addr -> Prop) (F H F' H' : Hp) : Prop where
  ex : Same F F'
  keep : forall a o, ¬ Z a -> H a = some o -> H' a = some o
  dom : forall a o, H a = some o -> exists o', H' a = some o'
  sub : Same F' H'
  new : forall a o, H a = some o -> F' a = F a
abbrev Z0 : Addr -> Prop := fun _ => False
section
variable {Z : Addr -> Prop} {F H F1 H1 F2 H2 : Hp} {p : Addr} {o : HO}
theorem Gr.refl (s : Same F H) : Gr F H F H := ⟨Same.refl F, Same.refl H, s, fun _ _ _ => rfl⟩
theorem Gr.self (H : Hp) : Gr H H H H := Gr.refl (Same.refl H)
theorem Gr.trans (a : Gr F H F1 H1) (b : Gr F1 H1 F2 H2) : Gr F H F2 H2 :=
  ⟨a.ex.trans b.ex, a.keep.trans b.keep, b.sub, fun x o e => (b.new x o (a.keep x o e)).trans (a.new x o e)⟩
theorem same_upd (s : Same F H) : Same (upd F p o) (upd H p o) := fun a u e => by
  by_cases h : a = p
  · subst h; rw [upd_same] at e ⊢; exact e
  · rw [upd_ne h] at e ⊢; exact s a u e
theorem same_new (h : H p = none) : Same H (upd H p o) := fun a u e => by
  rw [upd_ne (ne_of_none e h)]; exact e
theorem same_mut (s : Same F H) (h : F p = none) : Same F (upd H p o) := fun a u e => by
  rw [upd_ne (ne_of_none e h)]; exact s a u e
theorem same_in (s : Same F H) (h : H p = some o) : Same (upd F p o) H := fun a u e => by
  by_cases q : a = p
  · subst q; rw [upd_same] at e; rw [h]; exact e
  · rw [upd_ne q] at e; exact s a u e
theorem none_of (s : Same F H) (h : H p = none) : F p = none := Same.free s h
/-- a new frozen object -/
theorem Gr.lay (s : Same F H) (h : H p = none) : Gr F H (upd F p o) (upd H p o) :=
  ⟨same_new (none_of s h), same_new h, same_upd s, fun a u e => upd_ne (ne_of_none e h)⟩
/-- a new object that may change still -/
theorem Gr.put (s : Same F H) (h : H p = none) : Gr F H F (upd H p o) :=
  ⟨Same.refl F, same_new h, same_mut s (none_of s h), fun _ _ _ => rfl⟩
/-- the whole grew, the frozen part stays -/
theorem Gr.up (s : Same F H) (e : Same H H1) : Gr F H F H1 := ⟨Same.refl F, e, s.trans e, fun _ _ _ => rfl⟩
/-- an object new since H is frozen now -/
theorem Gr.ice (g : Gr F H F1 H1) (n : H p = none) (e : H1 p = some o) (f : F1 p = none) : Gr F H (upd F1 p o) H1 :=
  ⟨g.ex.trans (same_new f), g.keep, same_in g.sub e, fun a u q => (upd_ne (ne_of_none q n)).trans (g.new a u q)⟩
theorem Gr.whole (e : Same H H1) : Gr H H H1 H1 := ⟨e, e, Same.refl H1, fun a o q => by rw [q]; exact e a o q⟩
theorem GrZ.refl (s : Same F H) : GrZ Z F H F H := ⟨Same.refl F, fun _ _ _ e => e, fun _ o e => ⟨o, e⟩, s, fun _ _ _ => rfl⟩
theorem GrZ.of (g : Gr F H F1 H1) : GrZ Z F H F1 H1 := ⟨g.ex, fun a o _ e => g.keep a o e, fun a o e => ⟨o, g.keep a o e⟩, g.sub, g.new⟩
theorem GrZ.gr (g : GrZ Z0 F H F1 H1) : Gr F H F1 H1 := ⟨g.ex, fun a o e => g.keep a o (fun z => z) e, g.sub, g.new⟩
theorem GrZ.then (a : GrZ Z F H F1 H1) (b : Gr F1 H1 F2 H2) : GrZ Z F H F2 H2 :=
  ⟨a.ex.trans b.ex, fun x o z e => b.keep x o (a.keep x o z e), fun x o e => let ⟨o', e'⟩ := a.dom x o e; ⟨o', b.keep x o' e'⟩, b.sub,
    fun x o e => let ⟨o', e'⟩ := a.dom x o e; (b.new x o' e').trans (a.new x o e)⟩
theorem GrZ.thenZ {Y : Addr -> Prop} (a : GrZ Z F H F1 H1) (b : GrZ Y F1 H1 F2 H2) (hy : forall x, Y x -> Z x ∨ H x = none) : GrZ Z F H F2 H2 :=
  ⟨a.ex.trans b.ex, fun x o z e => b.keep x o (fun y => (hy x y).elim z fun n => by rw [n] at e; cases e) (a.keep x o z e),
    fun x o e => let ⟨o', e'⟩ := a.dom x o e; b.dom x o' e', b.sub, fun x o e => let ⟨o', e'⟩ := a.dom x o e; (b.new x o' e').trans (a.new x o e)⟩
/-- an object new since H is changed -/
theorem GrZ.mut (a : GrZ Z F H F1 H1) (n : H p = none) (f : F1 p = none) : GrZ Z F H F1 (upd H1 p o) :=
  ⟨a.ex, fun x u z e => by rw [upd_ne (ne_of_none e n)]; exact a.keep x u z e, fun x u e => by rw [upd_ne (ne_of_none e n)]; exact a.dom x u e, same_mut a.sub f, a.new⟩
theorem GrZ.ice (g : GrZ Z F H F1 H1) (n : H p = none) (e : H1 p = some o) (f : F1 p = none) : GrZ Z F H (upd F1 p o) H1 :=
  ⟨g.ex.trans (same_new f), g.keep, g.dom, same_in g.sub e, fun a u q => (upd_ne (ne_of_none q n)).trans (g.new a u q)⟩
end

/-! ### what a value stands for -/
/-- all that stood stands -/
def Le (F F' : Hp) : Prop := forall a o, F a = some o -> F' a = some o
theorem Le.of {F F' : Hp} (s : Same F F') : Le F F' := s
theorem Le.at_ {F F' : Hp} {a : Addr} {o : HO} (l : Le F F') (h : F a = some o) (_n1 : forall kvs, o ≠ .dK kvs) (_n2 : forall ob kvs, o ≠ .frz ob (.dK kvs)) : F' a = some o := l a o h
theorem Le.lst {F F' : Hp} {a : Addr} {xs : List V} (l : Le F F') (h : F a = some (.lst xs)) : F' a = some (.lst xs) := l a _ h
theorem Le.tup {F F' : Hp} {a : Addr} {xs : List V} (l : Le F F') (h : F a = some (.tup xs)) : F' a = some (.tup xs) := l a _ h
theorem Le.ext {F F' : Hp} {a : Addr} {φ : Heap -> Prop} (l : Le F F') (h : F a = some (.ext φ)) : F' a = some (.ext φ) := l a _ h
theorem Le.dT {F F' : Hp} {a : Addr} {kvs : List (List Key × V)} (l : Le F F') (h : F a = some (.dT kvs)) : F' a = some (.dT kvs) := l a _ h
theorem Le.rd {F F' : Hp} {a : Addr} {o : HO} (l : Le F F') (h : Rd F a o) : Rd F' a o := h.imp (l a _) fun ⟨ob, h⟩ => ⟨ob, l a _ h⟩
theorem Le.dK {F F' : Hp} {a : Addr} {kvs : List (Key × V)} (l : Le F F') (h : Rd F a (.dK kvs)) : Rd F' a (.dK kvs) := l.rd h
theorem Le.sqL {K : Fg} {F F' : Hp} {a : Addr} {xs : List V} (l : Le F F') (h : SqL K F a xs) : SqL K F' a xs := h.imp (fun h => h.imp (l a _) fun ⟨o, h⟩ => ⟨o, l a _ h⟩) id
class Rep (α : Type) where
  rp : Fg -> Hp -> α -> V -> Prop
  mono : forall {K : Fg} {F F' : Hp} {x : α} {v : V}, Le F F' -> rp K F x v -> rp K F' x v
open Rep (rp)
theorem up [Rep α] {K : Fg} {F F' : Hp} {x : α} {v : V} (s : Same F F') (h : rp K F x v) : rp K F' x v := Rep.mono (Le.of s) h
/-- nothing of it stands in the heap -/
class Flat (α : Type) [Rep α] where
  val : α -> V
  is : forall {K : Fg} {F : Hp} {x : α} {v : V}, rp K F x v -> v = val x
  of : forall {K : Fg} {F : Hp} (x : α), rp K F x (val x)
instance : Rep Int := ⟨fun _ _ x v => v = .int x, fun _ h => h⟩
instance : Rep Bool := ⟨fun _ _ x v => v = .bl x, fun _ h => h⟩
instance : Rep PySem.Str := ⟨fun _ _ x v => v = .str x, fun _ h => h⟩
instance : Rep Unit := ⟨fun _ _ _ v => v = .non, fun _ h => h⟩
instance : Rep V := ⟨fun _ _ x v => v = x, fun _ h => h⟩
instance : Flat Int := ⟨fun x => .int x, fun h => h, fun _ => rfl⟩
instance : Flat Bool := ⟨fun x => .bl x, fun h => h, fun _ => rfl⟩
instance : Flat PySem.Str := ⟨fun x => .str x, fun h => h, fun _ => rfl⟩
instance : Flat Unit := ⟨fun _ => .non, fun h => h, fun _ => rfl⟩
instance : Flat V := ⟨fun x => x, fun h => h, fun _ => rfl⟩
theorem Flat.any [Rep α] [Flat α] {K : Fg} {F F' : Hp} {x : α} {v : V} (h : rp K F x v) : rp K F' x v := by
  rw [Flat.is h]; exact Flat.of x
/-- None or a thing (that is never None) -/
instance [Rep α] : Rep (Option α) := ⟨fun K F x v => match x with | none => v = .non | some y => rp K F y v, fun {K F F' x v} s h => by
  cases x with
  | none => exact h
  | some y => exact Rep.mono (x := y) s h⟩
instance [Rep α] [Flat α] : Flat (Option α) := ⟨fun x => match x with | none => .non | some y => Flat.val y, fun {K F x v} h => by
  cases x with
  | none => exact h
  | some y => exact Flat.is (K := K) (F := F) (x := y) h, fun {K F} x => by
  cases x with
  | none => exact (rfl : V.non = V.non)
  | some y => exact Flat.of (K := K) (F := F) y⟩
abbrev Rps [Rep α] (K : Fg) (F : Hp) (xs : List α) (vs : List V) : Prop := Paired (rp K F) xs vs
theorem rps_le [Rep α] {K : Fg} {F F' : Hp} {xs : List α} {vs : List V} (s : Le F F') (h : Rps K F xs vs) : Rps K F' xs vs := Paired.mono (fun _ _ r => Rep.mono s r) h
theorem rps_mono [Rep α] {K : Fg} {F F' : Hp} {xs : List α} {vs : List V} (s : Same F F') (h : Rps K F xs vs) : Rps K F' xs vs := rps_le (Le.of s) h
theorem rps_flat [Rep α] [Flat α] {K : Fg} {F : Hp} : forall {xs : List α} {vs : List V}, Rps K F xs vs -> vs = xs.map Flat.val
  | _, _, .nil => rfl
  | _, _, .cons r t => by rw [Flat.is r, rps_flat t]; rfl
theorem rps_of [Rep α] [Flat α] {K : Fg} {F : Hp} : forall (xs : List α), Rps K F xs (xs.map Flat.val)
  | [] => .nil
  | x :: r => .cons (Flat.of x) (rps_of r)
theorem rps_app [Rep α] {K : Fg} {F : Hp} : forall {xs ys : List α} {vs ws : List V}, Rps K F xs vs -> Rps K F ys ws -> Rps K F (xs ++ ys) (vs ++ ws)
  | _, _, _, _, .nil, s => s
  | _, _, _, _, .cons r t, s => .cons r (rps_app t s)
theorem same_sqT {K : Fg} {H H' : Hp} {a : Addr} {xs : List V} (e : Same H H') (h : SqT K H a xs) : SqT K H' a xs := by
  rcases h with (h | ⟨o, h⟩) | h
  · exact .inl (.inl (e _ _ h))
  · exact .inl (.inr ⟨o, e _ _ h⟩)
  · exact .inr h
theorem same_rd {H H' : Hp} {a : Addr} {u : HO} (e : Same H H') (h : Rd H a u) : Rd H' a u := by
  rcases h with h | ⟨o, h⟩
  · exact .inl (e _ _ h)
  · exact .inr ⟨o, e _ _ h⟩
/-- a list -/
instance [Rep α] : Rep (List α) := ⟨fun K F xs v => exists a vs, v = .ref a ∧ F a = some (.lst vs) ∧ Rps K F xs vs, fun s ⟨a, vs, e, q, r⟩ => ⟨a, vs, e, s.lst q, rps_le s r⟩⟩
/-- the law's script -/
structure Scr where
  l : List Int
instance : Rep Scr := ⟨fun K F x v => exists a, v = .ref a ∧ SqL K F a (x.l.map V.int), fun s ⟨a, e, q⟩ => ⟨a, e, s.sqL q⟩⟩
/-- the items of a tuple: α × β × γ is a triple -/
class RepT (α : Type) where
  rt : Fg -> Hp -> α -> List V -> Prop
  mono : forall {K : Fg} {F F' : Hp} {x : α} {vs : List V}, Le F F' -> rt K F x vs -> rt K F' x vs
instance (priority := low) [Rep α] : RepT α := ⟨fun K F x vs => exists v, vs = [v] ∧ rp K F x v, fun s ⟨v, e, r⟩ => ⟨v, e, Rep.mono s r⟩⟩
instance (priority := high) [Rep α] [RepT β] : RepT (α × β) := ⟨fun K F x vs => exists v r, vs = v :: r ∧ rp K F x.1 v ∧ RepT.rt K F x.2 r, fun s ⟨v, r, e, h, t⟩ => ⟨v, r, e, Rep.mono s h, RepT.mono s t⟩⟩
instance [Rep α] [RepT β] : Rep (α × β) := ⟨fun K F x v => exists a vs, v = .ref a ∧ F a = some (.tup vs) ∧ RepT.rt K F x vs, fun s ⟨a, vs, e, q, r⟩ => ⟨a, vs, e, s.tup q, RepT.mono s r⟩⟩
/-- a pair (of zip, enumerate, items), whatever its items are -/
structure Pr (α β : Type) where
  fst : α
  snd : β
instance [Inhabited α] [Inhabited β] : Inhabited (Pr α β) := ⟨⟨default, default⟩⟩
instance [Rep α] [Rep β] : Rep (Pr α β) := ⟨fun K F x v => exists a v1 v2, v = .ref a ∧ F a = some (.tup [v1, v2]) ∧ rp K F x.fst v1 ∧ rp K F x.snd v2, fun s ⟨a, v1, v2, e, q, r1, r2⟩ => ⟨a, v1, v2, e, s.tup q, Rep.mono s r1, Rep.mono s r2⟩⟩
/-- a tuple of any length of things of one kind -/
structure Tup (α : Type) where
  l : List α
instance [Rep α] : Rep (Tup α) := ⟨fun K F xs v => exists a vs, v = .ref a ∧ F a = some (.tup vs) ∧ Rps K F xs.l vs, fun s ⟨a, vs, e, q, r⟩ => ⟨a, vs, e, s.tup q, rps_le s r⟩⟩

/-! ### lists of our own that may change still -/
structure MutL [Rep α] (K : Fg) (F H : Hp) (p : Addr) (xs : List α) : Prop where
  fr : F p = none
  at_ : exists vs, H p = some (.lst vs) ∧ Rps K F xs vs
section
variable [Rep α] {K : Fg} {F H F1 H1 : Hp} {p q : Addr} {xs : List α} {x : α} {v : V} {o : HO}
theorem MutL.go (m : MutL K F H p xs) (g : Gr F H F1 H1) : MutL K F1 H1 p xs := by
  obtain ⟨f, vs, e, r⟩ := m
  exact ⟨(g.new p _ e).trans f, vs, g.keep p _ e, rps_mono g.ex r⟩
theorem MutL.grow (m : MutL K F H p xs) (g : Same H H1) : MutL K F H1 p xs := by
  obtain ⟨f, vs, e, r⟩ := m
  exact ⟨f, vs, g p _ e, r⟩
theorem MutL.past (m : MutL K F H p xs) (n : p ≠ q) : MutL K F (upd H q o) p xs := by
  obtain ⟨f, vs, e, r⟩ := m
  exact ⟨f, vs, by rw [upd_ne n]; exact e, r⟩
theorem MutL.ne (m : MutL K F H p xs) (h : H q = none) : p ≠ q := by
  obtain ⟨f, vs, e, r⟩ := m
  exact ne_of_none e h
/-- read as it stands -/
theorem MutL.rd (m : MutL K F H p xs) (s : Same F H) : rp K H xs (.ref p) := by
  obtain ⟨f, vs, e, r⟩ := m
  exact ⟨p, vs, rfl, e, rps_mono s r⟩
/-- frozen for good -/
theorem MutL.ice (m : MutL K F H p xs) : exists vs, H p = some (.lst vs) ∧ rp K (upd F p (.lst vs)) xs (.ref p) := by
  obtain ⟨f, vs, e, r⟩ := m
  exact ⟨vs, e, p, vs, rfl, upd_same, rps_mono (same_new f) r⟩
end

/-! ### what a reading gives -/
def Tv [Rep α] (K : Fg) (te : TE) (σ : St) (F H : Hp) (x : α) : Prop :=
  forall F1 H1, Gr F H F1 H1 -> forall Q : VK, (forall F2 H2 v, Gr F1 H1 F2 H2 -> rp K F2 x v -> Q v H2) -> te σ H1 Q
def Tt (tt : TT) (σ : St) (H : Hp) (b : Bool) : Prop :=
  forall H1, Same H H1 -> forall Q : Bool -> Hp -> Prop, (forall H2, Same H1 H2 -> Q b H2) -> tt σ H1 Q
def TvA (ta : TA) (σ : St) (F H : Hp) (P : Hp -> List V -> Prop) : Prop :=
  forall F1 H1, Gr F H F1 H1 -> forall Q : List V -> Hp -> Prop, (forall F2 H2 vs, Gr F1 H1 F2 H2 -> P F2 vs -> Q vs H2) -> ta σ H1 Q
/-- a new list, whose items are xs -/
def TvL [Rep α] (K : Fg) (te : TE) (σ : St) (F H : Hp) (xs : List α) : Prop :=
  forall F1 H1, Gr F H F1 H1 -> forall Q : VK, (forall F2 H2 p, Gr F1 H1 F2 H2 -> H1 p = none -> MutL K F2 H2 p xs -> Q (.ref p) H2) -> te σ H1 Q
section
variable {K : Fg} {σ : St} {F H F1 H1 : Hp} {ta tb te : TE} {tt tu : TT} {i : Nat} {v : V}
theorem Tv.mono [Rep α] {x : α} (g : Gr F H F1 H1) (h : Tv K te σ F H x) : Tv K te σ F1 H1 x := fun F2 H2 k => h F2 H2 (g.trans k)
/-- a flat value by the whole heap -/
theorem tv_flat [Rep α] [Flat α] {x : α} (h : Tv K te σ H H x) : Tv K te σ F H x := fun F1 H1 g Q q =>
  h H1 H1 (Gr.whole g.keep) Q fun F2 H2 v g2 r => q F1 H2 v (Gr.up g.sub g2.keep) (Flat.any r)
theorem TvL.tv [Rep α] {xs : List α} (h : TvL K te σ F H xs) : Tv K te σ F H xs := fun F1 H1 g Q q =>
  h F1 H1 g Q fun F2 H2 p g2 n m => by
    obtain ⟨vs, e, r⟩ := m.ice
    exact q _ H2 _ (g2.ice n e m.fr) r
theorem tv_var [Rep α] {x : α} (e : σ[i]? = some (some v)) (h : rp K F x v) : Tv K (tVar i) σ F H x := fun F1 H1 g Q q =>
  ⟨v, e, q F1 H1 v (Gr.refl g.sub) (up g.ex h)⟩
theorem tv_c [Rep α] {x : α} (h : forall F, rp K F x v) : Tv K (tC v) σ F H x := fun F1 H1 g Q q => q F1 H1 v (Gr.refl g.sub) (h F1)
theorem tv_int {i : Int} : Tv K (tC (.int i)) σ F H i := tv_c fun _ => rfl
theorem tv_str {s : PySem.Str} : Tv K (tC (.str s)) σ F H s := tv_c fun _ => rfl
theorem tv_bl {b : Bool} : Tv K (tC (.bl b)) σ F H b := tv_c fun _ => rfl
theorem tv_non : Tv K (tC .non) σ F H () := tv_c fun _ => rfl
theorem tv_noneO [Rep α] : Tv K (tC .non) σ F H (none : Option α) := tv_c fun _ => rfl
theorem tv_some [Rep α] {x : α} (h : Tv K te σ F H x) : Tv K te σ F H (some x) := fun F1 H1 g Q q => h F1 H1 g Q fun F2 H2 v g2 r => q F2 H2 v g2 r
theorem Tv.is [Rep α] {x y : α} (h : Tv K te σ F H x) (e : x = y) : Tv K te σ F H y := e ▸ h
/-- two in a row -/
theorem tv_bin [Rep α] [Rep β] {x : α} {y : β} (ha : Tv K ta σ F H x) (hb : Tv K tb σ F H y) {R : V -> V -> Hp -> Prop} (g : Gr F H F1 H1)
    (k : forall F2 H2 v w, Gr F1 H1 F2 H2 -> rp K F2 x v -> rp K F2 y w -> R v w H2) : ta σ H1 fun v H2 => tb σ H2 fun w H3 => R v w H3 :=
  ha F1 H1 g _ fun F2 H2 v g2 r => hb F2 H2 (g.trans g2) _ fun F3 H3 w g3 r' => k F3 H3 v w (g2.trans g3) (up g3.ex r) r'
/-- an operator by values -/
def Op2 [Rep α] [Rep β] [Rep γ] (K : Fg) (r : R2) (x : α) (y : β) (z : γ) : Prop :=
  forall F H v w, Same F H -> rp K F x v -> rp K F y w -> forall Q : VK, (forall F2 H2 u, Gr F H F2 H2 -> rp K F2 z u -> Q u H2) -> r v w H Q
theorem tv_op [Rep α] [Rep β] [Rep γ] {x : α} {y : β} {z : γ} {r : R2} (ha : Tv K ta σ F H x) (hb : Tv K tb σ F H y) (ho : Op2 K r x y z) : Tv K (tOp r ta tb) σ F H z := fun F1 H1 g Q q =>
  tv_bin (R := fun v w H => r v w H Q) ha hb g fun F2 H2 v w g2 r1 r2 => ho F2 H2 v w g2.sub r1 r2 Q fun F3 H3 u g3 ru => q F3 H3 u (g2.trans g3) ru
theorem op2_I0 {f : Int -> Int -> V} [Rep γ] {i j : Int} {z : γ} (h : forall F, rp K F z (f i j)) : Op2 K (rI0 f) i j z := fun F H v w s r1 r2 Q q =>
  ⟨i, j, r1, r2, q F H _ (Gr.refl s) (h F)⟩
theorem op2_I {C : Int -> Int -> Prop} {f : Int -> Int -> V} [Rep γ] {i j : Int} {z : γ} (c : C i j) (h : forall F, rp K F z (f i j)) : Op2 K (rI C f) i j z := fun F H v w s r1 r2 Q q =>
  ⟨i, j, r1, r2, c, q F H _ (Gr.refl s) (h F)⟩
theorem op2_add {i j : Int} : Op2 K (rI0 fun i j => .int (i + j)) i j (i + j) := op2_I0 fun _ => rfl
theorem op2_sub {i j : Int} : Op2 K (rI0 fun i j => .int (i - j)) i j (i - j) := op2_I0 fun _ => rfl
theorem op2_mul {i j : Int} (c : CMul i j) : Op2 K (rI CMul fun i j => .int (i * j)) i j (i * j) := op2_I c fun _ => rfl
theorem op2_div {i j : Int} (c : CDiv i j) : Op2 K (rI CDiv fun i j => .int (i / j)) i j (i / j) := op2_I c fun _ => rfl
theorem op2_mod {i j : Int} (c : 0 < j) : Op2 K (rI (fun _ j => 0 < j) fun i j => .int (i % j)) i j (i % j) := op2_I c fun _ => rfl
theorem op2_lt {i j : Int} : Op2 K (rI0 fun i j => .bl (decide (i < j))) i j (decide (i < j)) := op2_I0 fun _ => rfl
theorem op2_le {i j : Int} : Op2 K (rI0 fun i j => .bl (decide (i ≤ j))) i j (decide (i ≤ j)) := op2_I0 fun _ => rfl
theorem op2_gt {i j : Int} : Op2 K (rI0 fun i j => .bl (decide (j < i))) i j (decide (j < i)) := op2_I0 fun _ => rfl
theorem op2_ge {i j : Int} : Op2 K (rI0 fun i j => .bl (decide (j ≤ i))) i j (decide (j ≤ i)) := op2_I0 fun _ => rfl
theorem op2_shr {i j : Int} (c : 0 ≤ j) : Op2 K (rI (fun _ j => 0 ≤ j) fun i j => .int (i / 2 ^ j.toNat)) i j (i / 2 ^ j.toNat) := op2_I c fun _ => rfl
theorem op2_shl {i j : Int} (c : CPow i j) : Op2 K (rI CPow fun i j => .int (i * 2 ^ j.toNat)) i j (i * 2 ^ j.toNat) := op2_I c fun _ => rfl
theorem op2_pow {i j : Int} (c : CPow i j) : Op2 K (rI CPow fun i j => .int (i ^ j.toNat)) i j (i ^ j.toNat) := op2_I c fun _ => rfl
theorem op2_band {i j : Int} : Op2 K (rI0 fun i j => .int (Builtin.bitAnd i j)) i j (Builtin.bitAnd i j) := op2_I0 fun _ => rfl
theorem op2_bor {i j : Int} : Op2 K (rI0 fun i j => .int (Builtin.bitOr i j)) i j (Builtin.bitOr i j) := op2_I0 fun _ => rfl
theorem op2_eqI {i j : Int} : Op2 K rEq i j (decide (i = j)) := fun F H v w s r1 r2 Q q => by
  cases r1; cases r2
  exact ⟨rfl, q F H _ (Gr.refl s) (by show V.bl _ = V.bl _; congr 1; exact decide_eq_decide.mpr ⟨fun h => V.int.inj h, fun h => by rw [h]⟩)⟩
theorem op2_neI {i j : Int} : Op2 K rNe i j (!decide (i = j)) := fun F H v w s r1 r2 Q q => by
  cases r1; cases r2
  exact ⟨rfl, q F H _ (Gr.refl s) (by show V.bl _ = V.bl _; congr 2; exact decide_eq_decide.mpr ⟨fun h => V.int.inj h, fun h => by rw [h]⟩)⟩
theorem op2_eqB {i j : Bool} : Op2 K rEq i j (decide (i = j)) := fun F H v w s r1 r2 Q q => by
  cases r1; cases r2
  exact ⟨rfl, q F H _ (Gr.refl s) (by show V.bl _ = V.bl _; congr 1; exact decide_eq_decide.mpr ⟨fun h => V.bl.inj h, fun h => by rw [h]⟩)⟩
theorem op2_neB {i j : Bool} : Op2 K rNe i j (!decide (i = j)) := fun F H v w s r1 r2 Q q => by
  cases r1; cases r2
  exact ⟨rfl, q F H _ (Gr.refl s) (by show V.bl _ = V.bl _; congr 2; exact decide_eq_decide.mpr ⟨fun h => V.bl.inj h, fun h => by rw [h]⟩)⟩
theorem op2_eqS {i j : PySem.Str} : Op2 K rEq i j (decide (i = j)) := fun F H v w s r1 r2 Q q => by
  cases r1; cases r2
  exact ⟨rfl, q F H _ (Gr.refl s) (by show V.bl _ = V.bl _; congr 1; exact decide_eq_decide.mpr ⟨fun h => V.str.inj h, fun h => by rw [h]⟩)⟩
theorem op2_neS {i j : PySem.Str} : Op2 K rNe i j (!decide (i = j)) := fun F H v w s r1 r2 Q q => by
  cases r1; cases r2
  exact ⟨rfl, q F H _ (Gr.refl s) (by show V.bl _ = V.bl _; congr 2; exact decide_eq_decide.mpr ⟨fun h => V.str.inj h, fun h => by rw [h]⟩)⟩
/-- tests -/
theorem tt_test {b : Bool} (h : Tv K te σ H H b) : Tt (tTest te) σ H b := fun H1 e Q q => h H1 H1 (Gr.whole e) _ fun F2 H2 v g r => ⟨b, r, q H2 g.keep⟩
theorem tt_B {b : Bool} (h : Tv K te σ H H b) : Tt (tB te) σ H b := fun H1 e Q q => h H1 H1 (Gr.whole e) _ fun F2 H2 v g r => ⟨b, r, q H2 g.keep⟩
theorem tt_and {a b : Bool} (h1 : Tt tt σ H a) (h2 : a = true -> Tt tu σ H b) : Tt (tAnd tt tu) σ H (a && b) := fun H1 e Q q => h1 H1 e _ fun H2 e2 => by
  cases a with
  | true => exact h2 rfl H2 (e.trans e2) Q fun H3 e3 => q H3 (e2.trans e3)
  | false => exact q H2 e2
theorem tt_or {a b : Bool} (h1 : Tt tt σ H a) (h2 : a = false -> Tt tu σ H b) : Tt (tOr tt tu) σ H (a || b) := fun H1 e Q q => h1 H1 e _ fun H2 e2 => by
  cases a with
  | true => exact q H2 e2
  | false => exact h2 rfl H2 (e.trans e2) Q fun H3 e3 => q H3 (e2.trans e3)
theorem tt_not {a : Bool} (h1 : Tt tt σ H a) : Tt (tNot tt) σ H (!a) := fun H1 e Q q => h1 H1 e _ fun H2 e2 => q H2 e2
theorem Tt.is {a b : Bool} (h : Tt tt σ H a) (e : a = b) : Tt tt σ H b := e ▸ h
theorem tv_and {a b : Bool} (h1 : Tv K ta σ H H a) (h2 : a = true -> Tv K tb σ H H b) : Tv K (tAndV ta tb) σ H H (a && b) := fun F1 H1 g Q q => h1 F1 H1 g _ fun F2 H2 v g2 r => ⟨a, r, by
  cases a with
  | true => exact h2 rfl F2 H2 (g.trans g2) Q fun F3 H3 w g3 r3 => q F3 H3 w (g2.trans g3) r3
  | false => exact q F2 H2 _ g2 rfl⟩
theorem tv_or {a b : Bool} (h1 : Tv K ta σ H H a) (h2 : a = false -> Tv K tb σ H H b) : Tv K (tOrV ta tb) σ H H (a || b) := fun F1 H1 g Q q => h1 F1 H1 g _ fun F2 H2 v g2 r => ⟨a, r, by
  cases a with
  | true => exact q F2 H2 _ g2 rfl
  | false => exact h2 rfl F2 H2 (g.trans g2) Q fun F3 H3 w g3 r3 => q F3 H3 w (g2.trans g3) r3⟩
theorem tv_not {a : Bool} (h1 : Tv K ta σ H H a) : Tv K (tNotV ta) σ H H (!a) := fun F1 H1 g Q q => h1 F1 H1 g _ fun F2 H2 v g2 r => ⟨a, r, q F2 H2 _ g2 rfl⟩
/-- a if c else b -/
theorem tv_if [Rep α] {c : Bool} {x y : α} (hc : Tt tt σ H c) (h1 : c = true -> Tv K ta σ F H x) (h2 : c = false -> Tv K tb σ F H y) : Tv K (tIf tt ta tb) σ F H (cond c x y) := fun F1 H1 g Q q => hc H1 g.keep _ fun H2 e2 => by
  cases c with
  | true => exact h1 rfl F1 H2 (g.trans (Gr.up g.sub e2)) Q fun F3 H3 w g3 r3 => q F3 H3 w ((Gr.up g.sub e2).trans g3) r3
  | false => exact h2 rfl F1 H2 (g.trans (Gr.up g.sub e2)) Q fun F3 H3 w g3 r3 => q F3 H3 w ((Gr.up g.sub e2).trans g3) r3
/-! ### arguments, displays, calls -/
theorem ta_nil : TvA tNil σ F H (fun _ vs => vs = []) := fun F1 H1 g Q q => q F1 H1 [] (Gr.refl g.sub) rfl
theorem ta_cons [Rep α] {x : α} {tr : TA} {P : Hp -> List V -> Prop} (h : Tv K te σ F H x) (hr : TvA tr σ F H P) : TvA (tCons te tr) σ F H (fun F vs => exists v r, vs = v :: r ∧ rp K F x v ∧ P F r) := fun F1 H1 g Q q =>
  h F1 H1 g _ fun F2 H2 v g2 r => hr F2 H2 (g.trans g2) _ fun F3 H3 vs g3 p => q F3 H3 (v :: vs) (g2.trans g3) ⟨v, vs, rfl, up g3.ex r, p⟩
/-- things of one kind -/
theorem ta_rnil [Rep α] : TvA tNil σ F H (fun F vs => Rps K F ([] : List α) vs) := fun F1 H1 g Q q => q F1 H1 [] (Gr.refl g.sub) .nil
theorem ta_rcons [Rep α] {x : α} {xs : List α} {tr : TA} (h : Tv K te σ F H x) (hr : TvA tr σ F H (fun F vs => Rps K F xs vs)) : TvA (tCons te tr) σ F H (fun F vs => Rps K F (x :: xs) vs) := fun F1 H1 g Q q =>
  h F1 H1 g _ fun F2 H2 v g2 r => hr F2 H2 (g.trans g2) _ fun F3 H3 vs g3 p => q F3 H3 (v :: vs) (g2.trans g3) (.cons (up g3.ex r) p)
/-- a tuple's items -/
theorem ta_t1 [Rep α] {x : α} (h : Tv K te σ F H x) : TvA (tCons te tNil) σ F H (fun F vs => exists v, vs = [v] ∧ rp K F x v) := fun F1 H1 g Q q =>
  h F1 H1 g _ fun F2 H2 v g2 r => q F2 H2 [v] g2 ⟨v, rfl, r⟩
theorem ta_tc [Rep α] [RepT β] {x : α} {y : β} {tr : TA} (h : Tv K te σ F H x) (hr : TvA tr σ F H (fun F vs => RepT.rt K F y vs)) : TvA (tCons te tr) σ F H (fun F vs => RepT.rt K F (x, y) vs) := fun F1 H1 g Q q =>
  h F1 H1 g _ fun F2 H2 v g2 r => hr F2 H2 (g.trans g2) _ fun F3 H3 vs g3 p => q F3 H3 (v :: vs) (g2.trans g3) ⟨v, vs, rfl, up g3.ex r, p⟩
theorem ta_tl [Rep α] {x : α} (h : Tv K te σ F H x) : TvA (tCons te tNil) σ F H (fun F vs => exists v, vs = [v] ∧ rp K F x v) := ta_t1 h
theorem sz {n : Nat} (h : n ≤ 100000) : n ≤ sizeLine := Nat.le_trans h (by decide)
theorem szl {n : Nat} (h : n < 100000) : n < sizeLine := Nat.lt_of_lt_of_le h (by decide)
theorem tl_lst [Rep α] {xs : List α} {t : TA} (h : TvA t σ F H (fun F vs => Rps K F xs vs)) (hl : xs.length ≤ 100000) : TvL K (tLst t) σ F H xs := fun F1 H1 g Q q =>
  h F1 H1 g _ fun F2 H2 vs g2 r => ⟨by rw [← r.length]; exact sz hl, fun p hp =>
    q F2 (upd H2 p (.lst vs)) p (g2.trans (Gr.put g2.sub hp)) (none_of g2.keep hp) ⟨none_of g2.sub hp, vs, upd_same, r⟩⟩
theorem tv_tup [Rep α] [RepT β] {z : α × β} {t : TA} (h : TvA t σ F H (fun F vs => RepT.rt K F z vs)) (hl : forall F vs, RepT.rt K F z vs -> vs.length ≤ 100000) : Tv K (tTup t) σ F H z := fun F1 H1 g Q q =>
  h F1 H1 g _ fun F2 H2 vs g2 r => ⟨sz (hl F2 vs r), fun p hp => q (upd F2 p (.tup vs)) (upd H2 p (.tup vs)) _ (g2.trans (Gr.lay g2.sub hp)) ⟨p, vs, rfl, upd_same, RepT.mono (Le.of <| same_new (none_of g2.sub hp)) r⟩⟩
theorem tv_tupN [Rep α] {xs : List α} {t : TA} (h : TvA t σ F H (fun F vs => Rps K F xs vs)) (hl : xs.length ≤ 100000) : Tv K (tTup t) σ F H (Tup.mk xs) := fun F1 H1 g Q q =>
  h F1 H1 g _ fun F2 H2 vs g2 r => ⟨by rw [← r.length]; exact sz hl, fun p hp => q (upd F2 p (.tup vs)) (upd H2 p (.tup vs)) _ (g2.trans (Gr.lay g2.sub hp)) ⟨p, vs, rfl, upd_same, rps_mono (same_new (none_of g2.sub hp)) r⟩⟩
/-- a promise: of such arguments such a value; a new list -/
def SpV [Rep β] (K : Fg) (sp : Sp) (P : Hp -> List V -> Prop) (y : β) : Prop := forall F H vs Q E, Same F H -> P F vs -> (forall F' H' r, Gr F H F' H' -> rp K F' y r -> Q r H') -> sp vs H Q E
def SpL [Rep β] (K : Fg) (sp : Sp) (P : Hp -> List V -> Prop) (ys : List β) : Prop := forall F H vs Q E, Same F H -> P F vs -> (forall F' H' p, Gr F H F' H' -> H p = none -> MutL K F' H' p ys -> Q (.ref p) H') -> sp vs H Q E
theorem tv_call [Rep β] {y : β} {t : TA} {sp : Sp} {E : XK} {P : Hp -> List V -> Prop} (h : TvA t σ F H P) (hs : SpV K sp P y) : Tv K (tCall sp [] E t) σ F H y := fun F1 H1 g Q q =>
  h F1 H1 g _ fun F2 H2 vs g2 p => hs F2 H2 (vs ++ []) Q E g2.sub (by rw [List.append_nil]; exact p) fun F3 H3 r g3 rr => q F3 H3 r (g2.trans g3) rr
theorem tl_call [Rep β] {ys : List β} {t : TA} {sp : Sp} {E : XK} {P : Hp -> List V -> Prop} (h : TvA t σ F H P) (hs : SpL K sp P ys) : TvL K (tCall sp [] E t) σ F H ys := fun F1 H1 g Q q =>
  h F1 H1 g _ fun F2 H2 vs g2 p => hs F2 H2 (vs ++ []) Q E g2.sub (by rw [List.append_nil]; exact p) fun F3 H3 a g3 n m => q F3 H3 a (g2.trans g3) (none_of g2.keep n) m
/-- a built-in called, by values -/
def CbV [Rep β] (K : Fg) (r : List V -> Hp -> VK -> Prop) (P : Hp -> List V -> Prop) (y : β) : Prop := forall F H vs (Q : VK), Same F H -> P F vs -> (forall F' H' w, Gr F H F' H' -> rp K F' y w -> Q w H') -> r vs H Q
def CbL [Rep β] (K : Fg) (r : List V -> Hp -> VK -> Prop) (P : Hp -> List V -> Prop) (ys : List β) : Prop := forall F H vs (Q : VK), Same F H -> P F vs -> (forall F' H' p, Gr F H F' H' -> H p = none -> MutL K F' H' p ys -> Q (.ref p) H') -> r vs H Q
theorem tv_cb [Rep β] {y : β} {t : TA} {r : List V -> Hp -> VK -> Prop} {P : Hp -> List V -> Prop} (h : TvA t σ F H P) (hs : CbV K r P y) : Tv K (tCB r t) σ F H y := fun F1 H1 g Q q =>
  h F1 H1 g _ fun F2 H2 vs g2 p => hs F2 H2 vs Q g2.sub p fun F3 H3 w g3 rr => q F3 H3 w (g2.trans g3) rr
theorem tl_cb [Rep β] {ys : List β} {t : TA} {r : List V -> Hp -> VK -> Prop} {P : Hp -> List V -> Prop} (h : TvA t σ F H P) (hs : CbL K r P ys) : TvL K (tCB r t) σ F H ys := fun F1 H1 g Q q =>
  h F1 H1 g _ fun F2 H2 vs g2 p => hs F2 H2 vs Q g2.sub p fun F3 H3 a g3 n m => q F3 H3 a (g2.trans g3) (none_of g2.keep n) m
end
end Rf

/-! ### the mirrors' words -/
namespace Rf
open PySem L2
open Rep (rp)
@[irreducible] def lt {α β : Type} (e : α) (k : α -> β) : β := k e
@[irreducible] def lt2 {α β γ : Type} (e : α × β) (k : α -> β -> γ) : γ := k e.1 e.2
@[irreducible] def lt3 {α β γ δ : Type} (e : α × β × γ) (k : α -> β -> γ -> δ) : δ := k e.1 e.2.1 e.2.2
@[irreducible] def lt4 {α β γ δ ε : Type} (e : α × β × γ × δ) (k : α -> β -> γ -> δ -> ε) : ε := k e.1 e.2.1 e.2.2.1 e.2.2.2
@[irreducible] def ltP {α β γ : Type} (e : Pr α β) (k : α -> β -> γ) : γ := k e.1 e.2
theorem ltP_eq {α β γ : Type} (e : Pr α β) (k : α -> β -> γ) : ltP e k = k e.1 e.2 := by unfold ltP; rfl
theorem p_ltP {α β γ : Type} (P : γ -> Prop) {a : α} {b : β} {k : α -> β -> γ} (h : P (ltP ⟨a, b⟩ k)) : P (k a b) := by rw [ltP_eq] at h; exact h
theorem lt_eq {α β : Type} (e : α) (k : α -> β) : lt e k = k e := by unfold lt; rfl
theorem lt2_eq {α β γ : Type} (e : α × β) (k : α -> β -> γ) : lt2 e k = k e.1 e.2 := by unfold lt2; rfl
theorem lt3_eq {α β γ δ : Type} (e : α × β × γ) (k : α -> β -> γ -> δ) : lt3 e k = k e.1 e.2.1 e.2.2 := by unfold lt3; rfl
theorem lt4_eq {α β γ δ ε : Type} (e : α × β × γ × δ) (k : α -> β -> γ -> δ -> ε) : lt4 e k = k e.1 e.2.1 e.2.2.1 e.2.2.2 := by unfold lt4; rfl
theorem p_lt {α β : Type} (P : β -> Prop) {e : α} {k : α -> β} (h : P (lt e k)) : P (k e) := by rw [lt_eq] at h; exact h
theorem p_lt2 {α β γ : Type} (P : γ -> Prop) {a : α} {b : β} {k : α -> β -> γ} (h : P (lt2 (a, b) k)) : P (k a b) := by rw [lt2_eq] at h; exact h
theorem p_lt3 {α β γ δ : Type} (P : δ -> Prop) {a : α} {b : β} {c : γ} {k : α -> β -> γ -> δ} (h : P (lt3 (a, b, c) k)) : P (k a b c) := by rw [lt3_eq] at h; exact h
theorem p_lt4 {α β γ δ ε : Type} (P : ε -> Prop) {a : α} {b : β} {c : γ} {d : δ} {k : α -> β -> γ -> δ -> ε} (h : P (lt4 (a, b, c, d) k)) : P (k a b c d) := by rw [lt4_eq] at h; exact h
/-- how a block ends: on, out of the loop, out of the def -/
inductive Fl (S R : Type) where
  | nx (s : S) | bk (s : S) | rt (r : R)
def run {α S R : Type} (body : S -> α -> Fl S R) : S -> List α -> Fl S R
  | s, [] => .nx s
  | s, x :: xs => match body s x with
    | .nx s' => run body s' xs
    | .bk s' => .bk s'
    | .rt r => .rt r
@[irreducible] def fin {S R T : Type} (f : Fl S R) (ret : R -> T) (k : S -> T) : T := match f with
  | .nx s => k s
  | .bk s => k s
  | .rt r => ret r
instance {S R : Type} [Inhabited R] : Inhabited (Fl S R) := ⟨.rt default⟩
theorem fin_nx {S R T : Type} (s : S) (ret : R -> T) (k : S -> T) : fin (Fl.nx s) ret k = k s := by unfold fin; rfl
theorem fin_bk {S R T : Type} (s : S) (ret : R -> T) (k : S -> T) : fin (Fl.bk s) ret k = k s := by unfold fin; rfl
theorem fin_rt {S R T : Type} (r : R) (ret : R -> T) (k : S -> T) : fin (Fl.rt r) ret k = ret r := by unfold fin; rfl
section
variable {α S R : Type} {body : S -> α -> Fl S R}
theorem run_snoc : forall (xs : List α) (s : S) (x : α), run body s (xs ++ [x]) = match run body s xs with
    | .nx s' => body s' x
    | .bk s' => .bk s'
    | .rt r => .rt r
  | [], s, x => by
    show run body s [x] = body s x
    simp only [run]
    cases body s x <;> rfl
  | y :: ys, s, x => by
    simp only [List.cons_append, run]
    cases body s y with
    | nx s' => exact run_snoc ys s' x
    | bk s' => rfl
    | rt r => rfl
theorem run_app : forall (xs ys : List α) (s : S), run body s (xs ++ ys) = match run body s xs with
    | .nx s' => run body s' ys
    | .bk s' => .bk s'
    | .rt r => .rt r
  | [], ys, s => rfl
  | y :: r, ys, s => by
    simp only [List.cons_append, run]
    cases body s y with
    | nx s' => exact run_app r ys s'
    | bk s' => rfl
    | rt r => rfl
theorem take_snoc {i : Nat} {x : α} : forall {l : List α}, l[i]? = some x -> l.take (i + 1) = l.take i ++ [x] := fun {l} h => by
  obtain ⟨hi, rfl⟩ := List.getElem?_eq_some_iff.mp h
  exact (List.take_append_getElem hi).symm
theorem run_out {xs : List α} {i : Nat} {x : α} {s0 s : S} {o : Fl S R} (hi : xs[i]? = some x) (hr : run body s0 (xs.take i) = .nx s) (ho : body s x = o) (hn : forall s', o ≠ .nx s') : run body s0 xs = o := by
  have e : xs = xs.take (i + 1) ++ xs.drop (i + 1) := (List.take_append_drop _ _).symm
  rw [e, run_app, take_snoc hi, run_snoc, hr]
  show (match body s x with | .nx s' => run body s' _ | .bk s' => .bk s' | .rt r => .rt r) = o
  rw [ho]
  cases o with
  | nx s' => exact (hn s' rfl).elim
  | bk s' => rfl
  | rt r => rfl
end
/-! ### what is wanted at the end of a def -/
def Ret [Rep β] (K : Fg) (Z : Addr -> Prop) (F0 H0 : Hp) (Q : VK) (y : β) : Prop := forall F' H' r, GrZ Z F0 H0 F' H' -> rp K F' y r -> Q r H'
def RetL [Rep β] (K : Fg) (Z : Addr -> Prop) (F0 H0 : Hp) (Q : VK) (ys : List β) : Prop := forall F' H' p, GrZ Z F0 H0 F' H' -> H0 p = none -> MutL K F' H' p ys -> Q (.ref p) H'
/-! ### statements -/
section
variable {K : Fg} {Z : Addr -> Prop} {σ : St} {F H F0 H0 : Hp} {te ta tb : TE} {tt : TT} {t1 t2 u : TS} {D : Ends} {i : Nat}
theorem q_set [Rep α] {β : Type} {e : α} {k : α -> β} {P : β -> Prop} (hP : P (lt e k)) (s : Same F H) (he : Tv K te σ F H e) (nxt : forall x F1 H1 v, x = e -> Gr F H F1 H1 -> rp K F1 x v -> P (k x) -> u D (σ.set i (some v)) H1) : tSeq (tAsg te (gName i)) u D σ H :=
  he F H (Gr.refl s) _ fun F2 H2 v g r => nxt e F2 H2 v rfl g r (p_lt P hP)
theorem q_setF [Rep α] [Flat α] {β : Type} {e : α} {k : α -> β} {P : β -> Prop} (hP : P (lt e k)) (he : Tv K te σ H H e) (nxt : forall x H1, x = e -> Same H H1 -> P (k x) -> u D (σ.set i (some (Flat.val x))) H1) : tSeq (tAsg te (gName i)) u D σ H :=
  he H H (Gr.self H) _ fun F2 H2 v g r => by
    rw [Flat.is r]
    exact nxt e H2 rfl g.keep (p_lt P hP)
theorem q_setM [Rep α] {β : Type} {e : List α} {k : List α -> β} {P : β -> Prop} (hP : P (lt e k)) (s : Same F H) (he : TvL K te σ F H e) (nxt : forall x F1 H1 p, x = e -> Gr F H F1 H1 -> H p = none -> MutL K F1 H1 p x -> P (k x) -> u D (σ.set i (some (.ref p))) H1) : tSeq (tAsg te (gName i)) u D σ H :=
  he F H (Gr.refl s) _ fun F2 H2 p g n m => nxt e F2 H2 p rfl g n m (p_lt P hP)
theorem q_ret [Rep β] {e : β} (hP : Ret K Z F0 H0 D.rt e) (g : GrZ Z F0 H0 F H) (he : Tv K te σ F H e) : tSeq (tRet te) u D σ H :=
  he F H (Gr.refl g.sub) _ fun F2 H2 v g2 r => hP F2 H2 v (g.then g2) r
theorem q_retF [Rep β] [Flat β] {e : β} (hP : Ret K Z F0 H0 D.rt e) (g : GrZ Z F0 H0 F H) (he : Tv K te σ H H e) : tSeq (tRet te) u D σ H := q_ret hP g (tv_flat he)
theorem q_retL [Rep β] {e : List β} (hP : RetL K Z F0 H0 D.rt e) (g : GrZ Z F0 H0 F H) (he : TvL K te σ F H e) : tSeq (tRet te) u D σ H :=
  he F H (Gr.refl g.sub) _ fun F2 H2 p g2 n m => hP F2 H2 p (g.then g2) (by
    cases q : H0 p with
    | none => rfl
    | some o =>
      obtain ⟨o', e'⟩ := g.dom p o q
      rw [n] at e'; cases e') m
theorem q_retM [Rep β] {e : List β} {p : Addr} (hP : RetL K Z F0 H0 D.rt e) (g : GrZ Z F0 H0 F H) (hi : σ[i]? = some (some (.ref p))) (n : H0 p = none) (m : MutL K F H p e) : tSeq (tRet (tVar i)) u D σ H :=
  ⟨.ref p, hi, hP F H p g n m⟩
theorem q_retI [Rep β] {e : List β} {p : Addr} (hP : Ret K Z F0 H0 D.rt e) (g : GrZ Z F0 H0 F H) (hi : σ[i]? = some (some (.ref p))) (n : H0 p = none) (m : MutL K F H p e) : tSeq (tRet (tVar i)) u D σ H := by
  obtain ⟨vs, q, r⟩ := m.ice
  exact ⟨.ref p, hi, hP _ H _ (g.ice n q m.fr) r⟩
theorem q_end (h : D.nx σ H) : tNext D σ H := h
theorem q_endS (h : tSeq t1 t2 D σ H) : tNext { D with nx := tSeq t1 t2 D } σ H := h
theorem q_endC (h : Evl.tCut t1 t2 D σ H) : tNext { D with nx := Evl.tCut t1 t2 D } σ H := h
theorem q_one {t : TS} (h : tSeq t tNext D σ H) : t D σ H := h
theorem q_if {β : Type} {P : β -> Prop} {c : Bool} {A B : β} (hP : P (cond c A B)) (hc : Tt tt σ H c) (h1 : c = true -> forall H1, Same H H1 -> P A -> t1 { D with nx := u D } σ H1) (h2 : c = false -> forall H1, Same H H1 -> P B -> t2 { D with nx := u D } σ H1) : tSeq (tIfS tt t1 t2) u D σ H :=
  hc H (Same.refl H) _ fun H1 e => by
    cases c with
    | true => exact h1 rfl H1 e hP
    | false => exact h2 rfl H1 e hP
theorem q_ifJ {S β : Type} {P : β -> Prop} {c : Bool} {a b : S} {k : S -> β} (hP : P (lt (cond c a b) k)) (hc : Tt tt σ H c) (M : Hp -> Hp -> St -> S -> Prop)
    (h1 : c = true -> forall H1 (N : St -> Hp -> Prop), Same H H1 -> forall P' : S -> Prop, P' a -> (forall s, P' s -> forall F2 H2 σ2, Same F F2 -> M F2 H2 σ2 s -> N σ2 H2) -> t1 { D with nx := N } σ H1)
    (h2 : c = false -> forall H1 (N : St -> Hp -> Prop), Same H H1 -> forall P' : S -> Prop, P' b -> (forall s, P' s -> forall F2 H2 σ2, Same F F2 -> M F2 H2 σ2 s -> N σ2 H2) -> t2 { D with nx := N } σ H1)
    (nxt : forall s F2 H2 σ2, s = cond c a b -> Same F F2 -> M F2 H2 σ2 s -> P (k s) -> u D σ2 H2) : Evl.tCut (tIfS tt t1 t2) u D σ H :=
  ⟨fun σ2 H2 => exists F2, Same F F2 ∧ M F2 H2 σ2 (cond c a b), hc H (Same.refl H) _ fun H1 e => by
    cases c with
    | true => exact h1 rfl H1 _ e (fun s => s = a) rfl fun s hs F2 H2 σ2 q m => ⟨F2, q, by rw [hs] at m; exact m⟩
    | false => exact h2 rfl H1 _ e (fun s => s = b) rfl fun s hs F2 H2 σ2 q m => ⟨F2, q, by rw [hs] at m; exact m⟩,
  fun σ2 H2 ⟨F2, q, m⟩ => nxt _ F2 H2 σ2 rfl q m (p_lt P hP)⟩
/-- an expression whose value is dropped -/
theorem q_drop [Rep α] {e : α} (s : Same F H) (he : Tv K te σ F H e) (nxt : forall F1 H1, Gr F H F1 H1 -> u D σ H1) : tSeq (tDrop te) u D σ H :=
  he F H (Gr.refl s) _ fun F2 H2 v g r => nxt F2 H2 g
/-! ### walks: S is what the thing walked needs besides of the heap -/
structure Wk [Rep α] (K : Fg) (J : L2.It) (F2 : Hp) (S : Hp -> Hp -> Prop) (xs : List α) : Prop where
  go : forall i F H, Same F2 F -> Same F H -> S F H -> i < xs.length -> J.go i H
  stop : forall i F H, Same F2 F -> Same F H -> S F H -> xs.length ≤ i ∧ i ≤ xs.length -> J.stop i H
  yld : forall i H F3 v H', Same F2 F3 -> Same F3 H -> S F3 H -> J.yld i H v H' -> i < xs.length -> exists F4, Gr F3 H F4 H' ∧ forall x, xs[i]? = some x -> rp K F4 x v
def Itr [Rep α] (K : Fg) (wi : TI) (σ : St) (F H : Hp) (S : Hp -> Hp -> Prop) (xs : List α) : Prop :=
  forall F1 H1, Gr F H F1 H1 -> forall R : L2.It -> Hp -> Prop, (forall J F2 H2, Gr F1 H1 F2 H2 -> Wk K J F2 S xs -> R J H2) -> wi σ H1 R
/-- S holds on -/
structure Stb (S : Hp -> Hp -> Prop) : Prop where
  go : forall {F H F' H' : Hp}, Gr F H F' H' -> S F H -> S F' H'
abbrev ST : Hp -> Hp -> Prop := fun _ _ => True
theorem stb_t : Stb ST := ⟨fun _ _ => trivial⟩
theorem wk_len [Rep α] {xs : List α} {vs : List V} (r : Rps K F xs vs) : vs.length = xs.length := (Paired.length r).symm
theorem rps_at [Rep α] : forall {xs : List α} {vs : List V} {i : Nat} {x : α}, Rps K F xs vs -> xs[i]? = some x -> exists v, vs[i]? = some v ∧ rp K F x v
  | _, _, 0, x, .cons r _, e => by simp at e; subst e; exact ⟨_, rfl, r⟩
  | _, _, i + 1, x, .cons _ t, e => by
    obtain ⟨v, h1, h2⟩ := rps_at (i := i) (x := x) t (by simpa using e)
    exact ⟨v, by simpa using h1, h2⟩
  | _, _, _, _, .nil, e => by simp at e
theorem rps_at' [Rep α] : forall {xs : List α} {vs : List V} {i : Nat} {v : V}, Rps K F xs vs -> vs[i]? = some v -> exists x, xs[i]? = some x ∧ rp K F x v
  | _, _, 0, v, .cons r _, e => by simp at e; subst e; exact ⟨_, rfl, r⟩
  | _, _, i + 1, v, .cons _ t, e => by
    obtain ⟨x, h1, h2⟩ := rps_at' (i := i) (v := v) t (by simpa using e)
    exact ⟨x, by simpa using h1, h2⟩
  | _, _, _, _, .nil, e => by simp at e
theorem wk_list [Rep α] {a : Addr} {vs : List V} {xs : List α} (q : SqL K F a vs) (r : Rps K F xs vs) : Wk K (Itl K a) F ST xs where
  go := fun i G H s0 s1 _ h => by
    have s := s0.trans s1
    exact ⟨vs, vs[i]'(by rw [wk_len r]; exact h), s.seq q, by simp⟩
  stop := fun i G H s0 s1 _ ⟨h, _⟩ => by
    have s := s0.trans s1
    exact ⟨vs, s.seq q, by rw [wk_len r]; exact h⟩
  yld := fun i H F3 v H' s s3 _ y h => by
    obtain ⟨rfl, y⟩ := y
    refine ⟨F3, Gr.refl s3, fun x hx => ?_⟩
    obtain ⟨w, e, rw_⟩ := rps_at r hx
    have e2 := y vs ((s.trans s3).seq q)
    rw [e] at e2; cases e2
    exact up s rw_
theorem wk_tup [Rep α] {a : Addr} {vs : List V} {xs : List α} (q : SqT K F a vs) (r : Rps K F xs vs) : Wk K (Itt K a) F ST xs where
  go := fun i G H s0 s1 _ h => by
    have s := s0.trans s1
    exact ⟨vs, vs[i]'(by rw [wk_len r]; exact h), same_sqT s q, by simp⟩
  stop := fun i G H s0 s1 _ ⟨h, _⟩ => by
    have s := s0.trans s1
    exact ⟨vs, same_sqT s q, by rw [wk_len r]; exact h⟩
  yld := fun i H F3 v H' s s3 _ y h => by
    obtain ⟨rfl, y⟩ := y
    refine ⟨F3, Gr.refl s3, fun x hx => ?_⟩
    obtain ⟨w, e, rw_⟩ := rps_at r hx
    have e2 := y vs (same_sqT (s.trans s3) q)
    rw [e] at e2; cases e2
    exact up s rw_
/-- over a list that a reading gives -/
theorem it_list [Rep α] {xs : List α} (h : Tv K te σ F H xs) : Itr K (iList K te) σ F H ST xs := fun F1 H1 g R q =>
  h F1 H1 g _ fun F2 H2 v g2 ⟨a, vs, e, hq, hr⟩ => ⟨a, e, ⟨vs, SqL.of (g2.sub a _ hq)⟩, q _ F2 H2 g2 (wk_list (SqL.of hq) hr)⟩
theorem it_tup [Rep α] {xs : Tup α} (h : Tv K te σ F H xs) : Itr K (iTup K te) σ F H ST xs.l := fun F1 H1 g R q =>
  h F1 H1 g _ fun F2 H2 v g2 ⟨a, vs, e, hq, hr⟩ => ⟨a, e, ⟨vs, SqT.of (g2.sub a _ hq)⟩, q _ F2 H2 g2 (wk_tup (SqT.of hq) hr)⟩
/-- over a list of our own that may change still (not in the loop) -/
theorem wk_mut [Rep α] {a : Addr} {xs : List α} : Wk K (Itl K a) F (fun F H => MutL K F H a xs) xs where
  go := fun i G H s0 s1 m h => by
    obtain ⟨f, vs, e, r⟩ := m
    exact ⟨vs, vs[i]'(by rw [wk_len r]; exact h), SqL.of e, by simp⟩
  stop := fun i G H s0 s1 m ⟨h, _⟩ => by
    obtain ⟨f, vs, e, r⟩ := m
    exact ⟨vs, SqL.of e, by rw [wk_len r]; exact h⟩
  yld := fun i H F3 v H' s s3 m y h => by
    obtain ⟨rfl, y⟩ := y
    obtain ⟨f, vs, e, r⟩ := m
    refine ⟨F3, Gr.refl s3, fun x hx => ?_⟩
    obtain ⟨w, e1, rw_⟩ := rps_at r hx
    have e2 := y vs (SqL.of e)
    rw [e1] at e2; cases e2
    exact rw_
theorem it_mut [Rep α] {xs : List α} {p : Addr} (hi : σ[i]? = some (some (.ref p))) (m : MutL K F H p xs) : Itr K (iList K (tVar i)) σ F H (fun F H => MutL K F H p xs) xs := fun F1 H1 g R q => by
  obtain ⟨f, vs, e, r⟩ := id (m.go g)
  exact ⟨.ref p, hi, p, rfl, ⟨vs, SqL.of e⟩, q _ F1 H1 (Gr.refl g.sub) wk_mut⟩
theorem stb_mut [Rep α] {xs : List α} {p : Addr} : Stb (fun F H => MutL K F H p xs) := ⟨fun g m => m.go g⟩
/-- the numbers of a range -/
def rng (lo : Int) (n : Nat) : List Int := (List.range n).map fun (k : Nat) => lo + (k : Int)
theorem rng_len (lo : Int) (n : Nat) : (rng lo n).length = n := by simp [rng]
theorem rng_at {lo : Int} {n i : Nat} {x : Int} (h : (rng lo n)[i]? = some x) : x = lo + (i : Int) ∧ i < n := by
  unfold rng at h
  rw [List.getElem?_map] at h
  cases e : (List.range n)[i]? with
  | none => rw [e] at h; cases h
  | some k =>
    rw [e] at h
    obtain ⟨hi, e2⟩ := List.getElem?_eq_some_iff.mp e
    rw [List.getElem_range] at e2
    subst e2
    rw [List.length_range] at hi
    exact ⟨(Option.some.inj h).symm, hi⟩
theorem wk_range {lo : Int} {n : Nat} : Wk K (L2.Itr lo n) F ST (rng lo n) where
  go := fun i G H s s1 _ h => by rw [rng_len] at h; exact h
  stop := fun i G H s s1 _ ⟨h, _⟩ => by rw [rng_len] at h; exact h
  yld := fun i H F3 v H' s s3 _ y h => by
    obtain ⟨rfl, rfl⟩ := y
    exact ⟨F3, Gr.refl s3, fun x hx => by rw [(rng_at hx).1]; rfl⟩
theorem it_range1 {n : Int} (h : Tv K te σ H H n) (lo : -(2 ^ 62) ≤ n) (hi : n < 2 ^ 62) : Itr K (iRng1 (tCons te tNil)) σ F H ST (rng 0 n.toNat) := fun F1 H1 g R q =>
  h H1 H1 (Gr.whole g.keep) _ fun F2 H2 v g2 r => ⟨n, by rw [show v = .int n from r], lo, hi, q _ F1 H2 (Gr.up g.sub g2.keep) wk_range⟩
theorem it_range2 {m n : Int} (h : Tv K ta σ H H m) (h' : Tv K te σ H H n) (lo : -(2 ^ 62) ≤ m) (hi : m < 2 ^ 62) (lo' : -(2 ^ 62) ≤ n) (hi' : n < 2 ^ 62) : Itr K (iRng2 (tCons ta (tCons te tNil))) σ F H ST (rng m (n - m).toNat) := fun F1 H1 g R q =>
  h H1 H1 (Gr.whole g.keep) _ fun F2 H2 v g2 r => h' H2 H2 (Gr.whole (g.keep.trans g2.keep)) _ fun F3 H3 w g3 r' => ⟨m, n, by rw [show v = .int m from r, show w = .int n from r'], ⟨lo, hi, lo', hi'⟩, q _ F1 H3 (Gr.up g.sub (g2.keep.trans g3.keep)) wk_range⟩
/-! ### targets of a loop -/
theorem g_name {v : V} {Q : St -> Hp -> Prop} (h : Q (σ.set i (some v)) H) : gName i v σ H Q := h
theorem g_tup2 [Rep α] [Rep β] {x : α × β} {v : V} {j : Nat} {Q : St -> Hp -> Prop} (s : Same F H) (h : rp K F x v) (k : forall a b, rp K F x.1 a -> rp K F x.2 b -> Q ((σ.set i (some a)).set j (some b)) H) : gTup K 2 (gCons (gName i) (gCons (gName j) gNil)) v σ H Q := by
  obtain ⟨p, vs, rfl, q, a, r, rfl, ra, b, rfl, rb⟩ := h
  exact ⟨p, _, rfl, SqT.of (s p _ q), rfl, a, _, rfl, b, _, rfl, rfl, k a b ra rb⟩
theorem g_tup3 [Rep α] [Rep β] [Rep γ] {x : α × β × γ} {v : V} {j l : Nat} {Q : St -> Hp -> Prop} (s : Same F H) (h : rp K F x v) (k : forall a b c, rp K F x.1 a -> rp K F x.2.1 b -> rp K F x.2.2 c -> Q (((σ.set i (some a)).set j (some b)).set l (some c)) H) : gTup K 3 (gCons (gName i) (gCons (gName j) (gCons (gName l) gNil))) v σ H Q := by
  obtain ⟨p, vs, rfl, q, a, r, rfl, ra, b, r2, rfl, rb, c, rfl, rc⟩ := h
  exact ⟨p, _, rfl, SqT.of (s p _ q), rfl, a, _, rfl, b, _, rfl, c, _, rfl, rfl, k a b c ra rb rc⟩
theorem g_tupP [Rep α] [Rep β] {x : Pr α β} {v : V} {j : Nat} {Q : St -> Hp -> Prop} (s : Same F H) (h : rp K F x v) (k : forall a b, rp K F x.fst a -> rp K F x.snd b -> Q ((σ.set i (some a)).set j (some b)) H) : gTup K 2 (gCons (gName i) (gCons (gName j) gNil)) v σ H Q := by
  obtain ⟨p, a, b, rfl, q, ra, rb⟩ := h
  exact ⟨p, _, rfl, SqT.of (s p _ q), rfl, a, _, rfl, b, _, rfl, rfl, k a b ra rb⟩
/-! ### loops -/
/-- a loop: body tells how a turn ends; I: what holds between the turns, at some earlier heaps -/
theorem q_for {S R T : Type} [Rep α] {xs : List α} {s0 : S} {body : S -> α -> Fl S R} {ret : R -> T} {k : S -> T} {P : T -> Prop} {wi : TI} {g : TG} {t : TS} {S' : Hp -> Hp -> Prop} (I : Nat -> Hp -> Hp -> St -> S -> Prop)
    (hP : P (fin (run body s0 xs) ret k)) (s : Same F H) (hx : Itr K wi σ F H S' xs) (hS : Stb S') (h0 : I 0 F H σ s0) (hI : forall i F1 H1 σ1 s, I i F1 H1 σ1 s -> Same F1 H1 ∧ S' F1 H1)
    (hs : forall (i : Nat) x s Fa Ha F1 H1 σ1 v (N B : St -> Hp -> Prop) (P' : Fl S R -> Prop), xs[i]? = some x -> run body s0 (xs.take i) = .nx s -> Same F Fa -> I i Fa Ha σ1 s -> Gr Fa Ha F1 H1 -> rp K F1 x v -> P' (body s x) ->
      (forall s', P' (.nx s') -> forall F2 H2 σ2, Same F1 F2 -> I (i + 1) F2 H2 σ2 s' -> N σ2 H2) -> (forall s', P' (.bk s') -> forall F2 H2 σ2, Same F1 F2 -> I (i + 1) F2 H2 σ2 s' -> B σ2 H2) -> (forall r, P' (.rt r) -> P (ret r)) ->
      g v σ1 H1 fun σ2 H2 => t { D with nx := N, ct := N, bk := B } σ2 H2)
    (hd : forall (i : Nat) Fa Ha F1 H1 σ1 s, i ≤ xs.length -> (run body s0 xs = .nx s ∧ i = xs.length ∨ run body s0 xs = .bk s) -> Same F Fa -> I i Fa Ha σ1 s -> Gr Fa Ha F1 H1 -> P (k s) -> u D σ1 H1) : tSeq (tFor wi g t) u D σ H :=
  hx F H (Gr.refl s) _ fun J F2 H2 g2 W => by
    refine ⟨fun i m σ' H' => m = xs.length - i ∧ i ≤ xs.length ∧ exists Fa Ha F3 s, run body s0 (xs.take i) = .nx s ∧ Same F Fa ∧ I i Fa Ha σ' s ∧ Gr Fa Ha F3 H' ∧ Same F2 F3, ⟨xs.length, by simp, Nat.zero_le _, F, H, F2, s0, rfl, Same.refl F, h0, g2, Same.refl F2⟩, ?_⟩
    rintro i m σ' H' ⟨rfl, hi, Fa, Ha, F3, st, hr, fa, hI1, gg, f23⟩
    by_cases hlt : i < xs.length
    · refine .inr ⟨W.go i F3 H' f23 gg.sub (hS.go gg (hI _ _ _ _ _ hI1).2) hlt, fun σ4 H4 => exists F4 s4, run body s0 (xs.take (i + 1)) = .nx s4 ∧ Same F F4 ∧ I (i + 1) F4 H4 σ4 s4 ∧ Same F2 F4, fun σ4 H4 ⟨F4, s4, a1, a2, a3, a4⟩ => ⟨xs.length - (i + 1), by omega, rfl, hlt, F4, H4, F4, s4, a1, a2, a3, Gr.refl (hI _ _ _ _ _ a3).1, a4⟩, fun v H4 y => ?_⟩
      obtain ⟨F4, g4, hv⟩ := W.yld i H' F3 v H4 f23 gg.sub (hS.go gg (hI _ _ _ _ _ hI1).2) y hlt
      have hxi : xs[i]? = some (xs[i]'hlt) := by simp
      have h24 : Same F2 F4 := f23.trans g4.ex
      have h04 : Same F F4 := g2.ex.trans h24
      refine hs i (xs[i]'hlt) st Fa Ha F4 H4 σ' v _ _ (fun o => body st (xs[i]'hlt) = o) hxi hr fa hI1 (gg.trans g4) (hv _ hxi) rfl (fun s' hb F5 H5 σ5 f5 i5 => ?_) (fun s' hb F5 H5 σ5 f5 i5 => ?_) (fun r hb => ?_)
      · refine ⟨F5, s', ?_, h04.trans f5, i5, h24.trans f5⟩
        rw [take_snoc hxi, run_snoc, hr]
        exact hb
      · have e := run_out hxi hr hb (fun _ z => nomatch z)
        refine hd (i + 1) F5 H5 F5 H5 σ5 s' hlt (.inr e) (h04.trans f5) i5 (Gr.refl (hI _ _ _ _ _ i5).1) ?_
        rw [e, fin_bk] at hP
        exact hP
      · have e := run_out hxi hr hb (fun _ z => nomatch z)
        rw [e, fin_rt] at hP
        exact hP
    · have e : i = xs.length := by omega
      subst e
      rw [List.take_length] at hr
      rw [hr, fin_nx] at hP
      exact .inl ⟨W.stop _ F3 H' f23 gg.sub (hS.go gg (hI _ _ _ _ _ hI1).2) ⟨Nat.le_refl _, Nat.le_refl _⟩, hd _ Fa Ha F3 H' σ' st (Nat.le_refl _) (.inl ⟨hr, rfl⟩) fa hI1 gg hP⟩
/-- a loop whose body neither breaks nor returns -/
theorem q_fold {S T : Type} [Rep α] {xs : List α} {s0 : S} {body : S -> α -> S} {k : S -> T} {P : T -> Prop} {wi : TI} {g : TG} {t : TS} {S' : Hp -> Hp -> Prop} (I : Nat -> Hp -> Hp -> St -> S -> Prop)
    (hP : P (lt (xs.foldl body s0) k)) (s : Same F H) (hx : Itr K wi σ F H S' xs) (hS : Stb S') (h0 : I 0 F H σ s0) (hI : forall i F1 H1 σ1 s, I i F1 H1 σ1 s -> Same F1 H1 ∧ S' F1 H1)
    (hs : forall (i : Nat) x s Fa Ha F1 H1 σ1 v (N : St -> Hp -> Prop) (P' : S -> Prop), xs[i]? = some x -> (xs.take i).foldl body s0 = s -> Same F Fa -> I i Fa Ha σ1 s -> Gr Fa Ha F1 H1 -> rp K F1 x v -> P' (body s x) ->
      (forall s', P' s' -> forall F2 H2 σ2, Same F1 F2 -> I (i + 1) F2 H2 σ2 s' -> N σ2 H2) ->
      g v σ1 H1 fun σ2 H2 => t { D with nx := N, ct := N, bk := u D } σ2 H2)
    (hd : forall Fa Ha F1 H1 σ1 s, s = xs.foldl body s0 -> Same F Fa -> I xs.length Fa Ha σ1 s -> Gr Fa Ha F1 H1 -> P (k s) -> u D σ1 H1) : tSeq (tFor wi g t) u D σ H :=
  hx F H (Gr.refl s) _ fun J F2 H2 g2 W => by
    refine ⟨fun i m σ' H' => m = xs.length - i ∧ i ≤ xs.length ∧ exists Fa Ha F3 s, (xs.take i).foldl body s0 = s ∧ Same F Fa ∧ I i Fa Ha σ' s ∧ Gr Fa Ha F3 H' ∧ Same F2 F3, ⟨xs.length, by simp, Nat.zero_le _, F, H, F2, s0, rfl, Same.refl F, h0, g2, Same.refl F2⟩, ?_⟩
    rintro i m σ' H' ⟨rfl, hi, Fa, Ha, F3, st, hr, fa, hI1, gg, f23⟩
    by_cases hlt : i < xs.length
    · refine .inr ⟨W.go i F3 H' f23 gg.sub (hS.go gg (hI _ _ _ _ _ hI1).2) hlt, fun σ4 H4 => exists F4 s4, (xs.take (i + 1)).foldl body s0 = s4 ∧ Same F F4 ∧ I (i + 1) F4 H4 σ4 s4 ∧ Same F2 F4, fun σ4 H4 ⟨F4, s4, a1, a2, a3, a4⟩ => ⟨xs.length - (i + 1), by omega, rfl, hlt, F4, H4, F4, s4, a1, a2, a3, Gr.refl (hI _ _ _ _ _ a3).1, a4⟩, fun v H4 y => ?_⟩
      obtain ⟨F4, g4, hv⟩ := W.yld i H' F3 v H4 f23 gg.sub (hS.go gg (hI _ _ _ _ _ hI1).2) y hlt
      have hxi : xs[i]? = some (xs[i]'hlt) := by simp
      have h24 : Same F2 F4 := f23.trans g4.ex
      have h04 : Same F F4 := g2.ex.trans h24
      refine hs i (xs[i]'hlt) st Fa Ha F4 H4 σ' v _ (fun o => body st (xs[i]'hlt) = o) hxi hr fa hI1 (gg.trans g4) (hv _ hxi) rfl (fun s' hb F5 H5 σ5 f5 i5 => ?_)
      refine ⟨F5, s', ?_, h04.trans f5, i5, h24.trans f5⟩
      rw [take_snoc hxi, List.foldl_append, hr]
      exact hb
    · have e : i = xs.length := by omega
      subst e
      rw [List.take_length] at hr
      exact .inl ⟨W.stop _ F3 H' f23 gg.sub (hS.go gg (hI _ _ _ _ _ hI1).2) ⟨Nat.le_refl _, Nat.le_refl _⟩, hd Fa Ha F3 H' σ' st hr.symm fa hI1 gg (by rw [← hr]; exact p_lt P hP)⟩
end
end Rf

/-! ### lists: read -/
namespace Rf
open PySem L2
open Rep (rp)
/-- an item, by Python's own index -/
def ixI {α : Type} [Inhabited α] (xs : List α) (i : Int) : α := if 0 ≤ i then xs.getD i.toNat default else xs.getD (i + xs.length).toNat default
def InB (n : Nat) (i : Int) : Prop := -(n : Int) ≤ i ∧ i < n
theorem atI_ix {α : Type} [Inhabited α] {xs : List α} {i : Int} (h : InB xs.length i) : atI xs i = some (ixI xs i) := by
  obtain ⟨h1, h2⟩ := h
  unfold atI ixN ixI
  by_cases h0 : 0 ≤ i
  · have hj : i.toNat < xs.length := by omega
    rw [if_pos h0, if_pos h2, if_pos h0]
    show xs[i.toNat]? = some _
    rw [List.getElem?_eq_getElem hj]
    simp [List.getD, hj]
  · have hj : (i + xs.length).toNat < xs.length := by omega
    rw [if_neg h0, if_pos h1, if_neg h0]
    show xs[(i + xs.length).toNat]? = some _
    rw [List.getElem?_eq_getElem hj]
    simp [List.getD, hj]
theorem atI_map {α β : Type} (f : α -> β) (xs : List α) (i : Int) : atI (xs.map f) i = (atI xs i).map f := by
  unfold atI
  rw [List.length_map]
  cases ixN xs.length i with
  | none => rfl
  | some j => show (xs.map f)[j]? = _; rw [List.getElem?_map]; rfl
theorem rps_atI [Rep α] {K : Fg} {F : Hp} {xs : List α} {vs : List V} {i : Int} {x : α} (r : Rps K F xs vs) (h : atI xs i = some x) : exists v, atI vs i = some v ∧ rp K F x v := by
  unfold atI at h ⊢
  rw [wk_len r]
  cases e : ixN xs.length i with
  | none => rw [e] at h; cases h
  | some j =>
    rw [e] at h
    exact rps_at r (show xs[j]? = some x from h)
section
variable {K : Fg} {Z : Addr -> Prop} {σ : St} {F H F0 H0 F1 H1 F2 H2 : Hp} {te ta tb tc : TE} {tt : TT} {t1 t2 u : TS} {D : Ends} {i : Nat} {p q : Addr}
theorem op2_ixL [Rep α] [Inhabited α] {xs : List α} {i : Int} (h : InB xs.length i) : Op2 K (rIxL K) xs i (ixI xs i) := fun F H v w s r1 r2 Q q => by
  obtain ⟨a, vs, rfl, e, r⟩ := r1
  obtain ⟨y, hy, ry⟩ := rps_atI r (atI_ix h)
  exact ⟨a, vs, i, y, rfl, r2, SqL.of (s a _ e), hy, q F H y (Gr.refl s) ry⟩
theorem op2_ixC {x : Scr} {i : Int} (h : InB x.l.length i) : Op2 K (rIxL K) x i (ixI x.l i) := fun F H v w s r1 r2 Q q => by
  obtain ⟨a, rfl, e⟩ := r1
  exact ⟨a, _, i, .int (ixI x.l i), rfl, r2, (Le.of s).sqL e, by rw [atI_map, atI_ix h]; rfl, q F H _ (Gr.refl s) rfl⟩
theorem op2_ixTn [Rep α] [Inhabited α] {xs : Tup α} {i : Int} (h : InB xs.l.length i) : Op2 K (rIxT K) xs i (ixI xs.l i) := fun F H v w s r1 r2 Q q => by
  obtain ⟨a, vs, rfl, e, r⟩ := r1
  obtain ⟨y, hy, ry⟩ := rps_atI r (atI_ix h)
  exact ⟨a, vs, i, y, rfl, r2, SqT.of (s a _ e), hy, q F H y (Gr.refl s) ry⟩
/-- places of tuples of written length -/
theorem op2_ixT0 [Rep α] [RepT β] {x : α × β} : Op2 K (rIxT K) x (0 : Int) x.1 := fun F H v w s r1 r2 Q q => by
  obtain ⟨a, vs, rfl, e, v, r, rfl, h1, h2⟩ := r1
  exact ⟨a, _, 0, v, rfl, r2, SqT.of (s a _ e), atI_nat (j := 0) rfl, q F H v (Gr.refl s) h1⟩
theorem atI_suc {v : V} {r : List V} {n : Nat} {w : V} (h : r[n]? = some w) : atI (v :: r) ((n + 1 : Nat) : Int) = some w := atI_nat (by simpa using h)
theorem op2_ixT1 [Rep α] [Rep β] {x : α × β} : Op2 K (rIxT K) x (1 : Int) x.2 := fun F H v w s r1 r2 Q q => by
  obtain ⟨a, vs, rfl, e, v, r, rfl, h1, v2, rfl, h2⟩ := r1
  exact ⟨a, _, 1, v2, rfl, r2, SqT.of (s a _ e), rfl, q F H v2 (Gr.refl s) h2⟩
theorem op2_ixT1m [Rep α] [Rep β] [RepT γ] {x : α × β × γ} : Op2 K (rIxT K) x (1 : Int) x.2.1 := fun F H v w s r1 r2 Q q => by
  obtain ⟨a, vs, rfl, e, v, r, rfl, h1, v2, r2', rfl, h2, h3⟩ := r1
  exact ⟨a, _, 1, v2, rfl, r2, SqT.of (s a _ e), atI_nat (j := 1) rfl, q F H v2 (Gr.refl s) h2⟩
theorem op2_ixT2 [Rep α] [Rep β] [Rep γ] {x : α × β × γ} : Op2 K (rIxT K) x (2 : Int) x.2.2 := fun F H v w s r1 r2 Q q => by
  obtain ⟨a, vs, rfl, e, v, r, rfl, h1, v2, r2', rfl, h2, v3, rfl, h3⟩ := r1
  exact ⟨a, _, 2, v3, rfl, r2, SqT.of (s a _ e), rfl, q F H v3 (Gr.refl s) h3⟩
theorem op2_ixT2m [Rep α] [Rep β] [Rep γ] [RepT δ] {x : α × β × γ × δ} : Op2 K (rIxT K) x (2 : Int) x.2.2.1 := fun F H v w s r1 r2 Q q => by
  obtain ⟨a, vs, rfl, e, v, r, rfl, h1, v2, r2', rfl, h2, v3, r3', rfl, h3, h4⟩ := r1
  exact ⟨a, _, 2, v3, rfl, r2, SqT.of (s a _ e), atI_nat (j := 2) rfl, q F H v3 (Gr.refl s) h3⟩
theorem op2_ixT3 [Rep α] [Rep β] [Rep γ] [Rep δ] {x : α × β × γ × δ} : Op2 K (rIxT K) x (3 : Int) x.2.2.2 := fun F H v w s r1 r2 Q q => by
  obtain ⟨a, vs, rfl, e, v, r, rfl, h1, v2, r2', rfl, h2, v3, r3', rfl, h3, v4, rfl, h4⟩ := r1
  exact ⟨a, _, 3, v4, rfl, r2, SqT.of (s a _ e), rfl, q F H v4 (Gr.refl s) h4⟩
/-- len -/
abbrev rLen' (K : Fg) : List V -> Hp -> VK -> Prop := fun xs H Q => exists p ys, xs = [.ref p] ∧ (SqL K H p ys ∨ SqT K H p ys) ∧ Q (.int ys.length) H
theorem cb_lenL [Rep α] {xs : List α} : CbV K (rLen' K) (fun F vs => exists v r, vs = v :: r ∧ rp K F xs v ∧ r = []) (xs.length : Int) := fun F H vs Q s ⟨v, r, e, ⟨a, ws, e2, e3, r2⟩, e4⟩ q => by
  subst e e2 e4
  exact ⟨a, ws, rfl, .inl (SqL.of (s a _ e3)), q F H _ (Gr.refl s) (by rw [wk_len r2]; rfl)⟩
theorem cb_lenC {x : Scr} : CbV K (rLen' K) (fun F vs => exists v r, vs = v :: r ∧ rp K F x v ∧ r = []) (x.l.length : Int) := fun F H vs Q s ⟨v, r, e, ⟨a, e2, e3⟩, e4⟩ q => by
  subst e e2 e4
  exact ⟨a, _, rfl, .inl ((Le.of s).sqL e3), q F H _ (Gr.refl s) (by rw [List.length_map]; rfl)⟩
theorem cb_lenTn [Rep α] {xs : Tup α} : CbV K (rLen' K) (fun F vs => exists v r, vs = v :: r ∧ rp K F xs v ∧ r = []) (xs.l.length : Int) := fun F H vs Q s ⟨v, r, e, ⟨a, ws, e2, e3, r2⟩, e4⟩ q => by
  subst e e2 e4
  exact ⟨a, ws, rfl, .inr (SqT.of (s a _ e3)), q F H _ (Gr.refl s) (by rw [wk_len r2]; rfl)⟩
class LenT (α : Type) [RepT α] (n : Nat) : Prop where
  len : forall {K : Fg} {F : Hp} {x : α} {vs : List V}, RepT.rt K F x vs -> vs.length = n
instance (priority := low) [Rep α] : LenT α 1 := ⟨fun ⟨v, e, _⟩ => by rw [e]; rfl⟩
instance (priority := high) [Rep α] [RepT β] [LenT β n] : LenT (α × β) (n + 1) := ⟨fun ⟨v, r, e, _, h⟩ => by rw [e, List.length_cons, LenT.len (n := n) h]⟩
theorem cb_lenT [Rep α] [RepT β] {n : Nat} [LenT (α × β) n] {x : α × β} : CbV K (rLen' K) (fun F vs => exists v r, vs = v :: r ∧ rp K F x v ∧ r = []) (n : Int) := fun F H vs Q s ⟨v, r, e, ⟨a, ws, e2, e3, r2⟩, e4⟩ q => by
  subst e e2 e4
  exact ⟨a, ws, rfl, .inr (SqT.of (s a _ e3)), q F H _ (Gr.refl s) (by rw [LenT.len (n := n) r2]; rfl)⟩
abbrev rLenS' : List V -> Hp -> VK -> Prop := fun xs H Q => exists z : PySem.Str, xs = [.str z] ∧ z.length ≤ sizeLine ∧ Q (.int z.length) H
theorem cb_lenS {z : PySem.Str} (h : z.length ≤ 100000) : CbV K rLenS' (fun F vs => exists v r, vs = v :: r ∧ rp K F z v ∧ r = []) (z.length : Int) := fun F H vs Q s ⟨v, r, e, e2, e4⟩ q => by
  subst e e4
  cases e2
  exact ⟨z, rfl, sz h, q F H _ (Gr.refl s) rfl⟩
/-- list(xs), tuple(xs) -/
abbrev rListOf (K : Fg) : List V -> Hp -> VK -> Prop := fun xs H Q => exists p ys, xs = [.ref p] ∧ (SqL K H p ys ∨ SqT K H p ys) ∧ forall l, H l = none -> Q (.ref l) (upd H l (.lst ys))
theorem cl_list [Rep α] {xs : List α} : CbL K (rListOf K) (fun F vs => exists v r, vs = v :: r ∧ rp K F xs v ∧ r = []) xs := fun F H vs Q s ⟨v, r, e, ⟨a, ws, e2, e3, r2⟩, e4⟩ q => by
  subst e e2 e4
  exact ⟨a, ws, rfl, .inl (SqL.of (s a _ e3)), fun l hl => q F _ l (Gr.put s hl) hl ⟨none_of s hl, ws, upd_same, r2⟩⟩
theorem cl_listT [Rep α] {xs : Tup α} : CbL K (rListOf K) (fun F vs => exists v r, vs = v :: r ∧ rp K F xs v ∧ r = []) xs.l := fun F H vs Q s ⟨v, r, e, ⟨a, ws, e2, e3, r2⟩, e4⟩ q => by
  subst e e2 e4
  exact ⟨a, ws, rfl, .inr (SqT.of (s a _ e3)), fun l hl => q F _ l (Gr.put s hl) hl ⟨none_of s hl, ws, upd_same, r2⟩⟩
/-- x in xs, by values -/
theorem inV_val {α : Type} [Rep α] [Flat α] [DecidableEq α] (he : forall a b : α, eqV (Flat.val a) (Flat.val b) = decide (a = b)) (x : α) (xs : List α) : inV (Flat.val x) (xs.map Flat.val) = decide (x ∈ xs) := by
  unfold inV
  induction xs with
  | nil => simp
  | cons y r ih =>
    rw [List.map_cons, List.any_cons, ih, he]
    by_cases h : y = x
    · subst h; simp
    · have h' : ¬ x = y := fun z => h z.symm
      simp [h, h']
/-- what == of the flat things gives -/
class EqF (α : Type) [Rep α] [Flat α] [DecidableEq α] : Prop where
  flat : forall x : α, flatV (Flat.val x) = true
  eq : forall a b : α, eqV (Flat.val a) (Flat.val b) = decide (a = b)
instance : EqF Int := ⟨fun _ => rfl, fun a b => by
  show eqV (.int a) (.int b) = _
  simp [eqV]; rw [Bool.eq_iff_iff]; simp⟩
instance : EqF PySem.Str := ⟨fun _ => rfl, fun a b => by
  show eqV (.str a) (.str b) = _
  simp [eqV]; try (rw [Bool.eq_iff_iff]; simp)⟩
theorem op2_inL [Rep α] [Flat α] [DecidableEq α] [EqF α] {x : α} {xs : List α} : Op2 K (rIn K false) x xs (decide (x ∈ xs)) := fun F H v w s r1 r2 Q q => by
  obtain ⟨a, vs, rfl, e, r⟩ := r2
  rw [Flat.is r1]
  have ev := rps_flat r
  subst ev
  refine ⟨a, _, rfl, .inl (SqL.of (s a _ e)), EqF.flat x, List.all_eq_true.mpr fun y hy => ?_, ?_⟩
  · obtain ⟨z, _, rfl⟩ := List.mem_map.mp hy
    exact EqF.flat z
  · rw [inV_val EqF.eq]
    exact q F H _ (Gr.refl s) rfl
theorem op2_niL [Rep α] [Flat α] [DecidableEq α] [EqF α] {x : α} {xs : List α} : Op2 K (rIn K true) x xs (!decide (x ∈ xs)) := fun F H v w s r1 r2 Q q => by
  obtain ⟨a, vs, rfl, e, r⟩ := r2
  rw [Flat.is r1]
  have ev := rps_flat r
  subst ev
  refine ⟨a, _, rfl, .inl (SqL.of (s a _ e)), EqF.flat x, List.all_eq_true.mpr fun y hy => ?_, ?_⟩
  · obtain ⟨z, _, rfl⟩ := List.mem_map.mp hy
    exact EqF.flat z
  · show Q (.bl (!inV (Flat.val x) (xs.map Flat.val))) H
    rw [inV_val EqF.eq]
    exact q F H _ (Gr.refl s) rfl
theorem op2_inT [Rep α] [Flat α] [DecidableEq α] [EqF α] {x : α} {xs : Tup α} : Op2 K (rIn K false) x xs (decide (x ∈ xs.l)) := fun F H v w s r1 r2 Q q => by
  obtain ⟨a, vs, rfl, e, r⟩ := r2
  rw [Flat.is r1]
  have ev := rps_flat r
  subst ev
  refine ⟨a, _, rfl, .inr (SqT.of (s a _ e)), EqF.flat x, List.all_eq_true.mpr fun y hy => ?_, ?_⟩
  · obtain ⟨z, _, rfl⟩ := List.mem_map.mp hy
    exact EqF.flat z
  · rw [inV_val EqF.eq]
    exact q F H _ (Gr.refl s) rfl
/-! ### lists: made -/
def OpL [Rep α] [Rep β] [Rep γ] (K : Fg) (r : R2) (x : α) (y : β) (zs : List γ) : Prop :=
  forall F H v w, Same F H -> rp K F x v -> rp K F y w -> forall Q : VK, (forall F2 H2 p, Gr F H F2 H2 -> H p = none -> MutL K F2 H2 p zs -> Q (.ref p) H2) -> r v w H Q
theorem tl_op [Rep α] [Rep β] [Rep γ] {x : α} {y : β} {zs : List γ} {r : R2} (ha : Tv K ta σ F H x) (hb : Tv K tb σ F H y) (ho : OpL K r x y zs) : TvL K (tOp r ta tb) σ F H zs := fun F1 H1 g Q q =>
  tv_bin (R := fun v w H => r v w H Q) ha hb g fun F2 H2 v w g2 r1 r2 => ho F2 H2 v w g2.sub r1 r2 Q fun F3 H3 p g3 n m => q F3 H3 p (g2.trans g3) (none_of g2.keep n) m
theorem opL_cat [Rep α] {xs ys : List α} (h : xs.length + ys.length ≤ 100000) : OpL K rCat xs ys (xs ++ ys) := fun F H v w s r1 r2 Q q => by
  obtain ⟨a, vs, rfl, e, r⟩ := r1
  obtain ⟨b, ws, rfl, e', r'⟩ := r2
  exact ⟨a, b, vs, ws, rfl, rfl, s a _ e, s b _ e', by rw [wk_len r, wk_len r']; exact sz h, fun p hp => q F _ p (Gr.put s hp) hp ⟨none_of s hp, vs ++ ws, upd_same, rps_app r r'⟩⟩
/-- xs[lo:hi] -/
def sIxI (n d : Nat) : Option Int -> Nat
  | none => d
  | some v => if v < 0 then (v + (n : Int)).toNat else min v.toNat n
def cutI {α : Type} (xs : List α) (lo hi : Option Int) : List α := (xs.drop (sIxI xs.length 0 lo)).take (sIxI xs.length xs.length hi - sIxI xs.length 0 lo)
theorem sIx_eq (n d : Nat) (o : Option Int) : HT.sIx n d o = sIxI n d o := by cases o <;> rfl
theorem rps_drop [Rep α] : forall (n : Nat) {xs : List α} {vs : List V}, Rps K F xs vs -> Rps K F (xs.drop n) (vs.drop n)
  | 0, _, _, r => r
  | _ + 1, _, _, .nil => .nil
  | n + 1, _, _, .cons _ t => rps_drop n t
theorem rps_take [Rep α] : forall (n : Nat) {xs : List α} {vs : List V}, Rps K F xs vs -> Rps K F (xs.take n) (vs.take n)
  | 0, _, _, _ => .nil
  | _ + 1, _, _, .nil => .nil
  | n + 1, _, _, .cons r t => .cons r (rps_take n t)
theorem rps_cut [Rep α] {xs : List α} {vs : List V} {lo hi : Option Int} (r : Rps K F xs vs) : Rps K F (cutI xs lo hi) (cutV vs lo hi) := by
  unfold cutI cutV
  rw [wk_len r, sIx_eq, sIx_eq]
  exact rps_take _ (rps_drop _ r)
def TvO (to : TO) (σ : St) (H : Hp) (o : Option Int) : Prop := forall H1, Same H H1 -> forall Q : Option Int -> Hp -> Prop, (forall H2, Same H1 H2 -> Q o H2) -> to σ H1 Q
theorem to_none : TvO tNoPart σ H none := fun H1 _ Q q => q H1 (Same.refl H1)
theorem to_some {n : Int} (h : Tv K te σ H H n) : TvO (tPart te) σ H (some n) := fun H1 e Q q => h H1 H1 (Gr.whole e) _ fun F2 H2 v g r => ⟨n, r, q H2 g.keep⟩
theorem tl_slice [Rep α] {xs : List α} {tl th : TO} {lo hi : Option Int} (h : Tv K te σ F H xs) (h1 : TvO tl σ H lo) (h2 : TvO th σ H hi) : TvL K (tSl (rSlL K) te tl th) σ F H (cutI xs lo hi) := fun F1 H1 g Q q =>
  h F1 H1 g _ fun F2 H2 v g2 ⟨a, vs, e, hq, hr⟩ => h1 H2 (g.keep.trans g2.keep) _ fun H3 e3 => h2 H3 ((g.keep.trans g2.keep).trans e3) _ fun H4 e4 =>
    ⟨a, vs, e, SqL.of (e4 a _ (e3 a _ (g2.sub a _ hq))), fun p hp => q F2 _ p (g2.trans ((Gr.up g2.sub (e3.trans e4)).trans (Gr.put ((g2.sub.trans e3).trans e4) hp))) (none_of ((g2.keep.trans e3).trans e4) hp) ⟨none_of ((g2.sub.trans e3).trans e4) hp, _, upd_same, rps_cut hr⟩⟩
/-! ### lists: changed -/
/-- the whole grew, and p holds something else -/
structure Md (p : Addr) (F H F1 H1 : Hp) : Prop where
  fr : F1 p = none
  go : exists H', Gr F H F1 H' ∧ exists o, H1 = upd H' p o
theorem Md.ex (m : Md p F H F1 H1) : Same F F1 := let ⟨_, g, _⟩ := m.go; g.ex
theorem Md.sub (m : Md p F H F1 H1) : Same F1 H1 := by
  obtain ⟨f, H', g, o, rfl⟩ := m
  exact same_mut g.sub f
theorem MutL.md [Rep α] {xs : List α} (m : MutL K F H q xs) (n : q ≠ p) (d : Md p F H F1 H1) : MutL K F1 H1 q xs := by
  obtain ⟨f, H', g, o, rfl⟩ := d
  exact (m.go g).past n
theorem GrZ.md (g : GrZ Z F0 H0 F H) (n : H0 p = none) (d : Md p F H F1 H1) : GrZ Z F0 H0 F1 H1 := by
  obtain ⟨f, H', g', o, rfl⟩ := d
  exact (g.then g').mut n f
theorem Md.of [Rep α] {xs : List α} (m : MutL K F H p xs) (g : Gr F H F1 H1) {o : HO} : Md p F H F1 (upd H1 p o) := ⟨(m.go g).fr, H1, g, o, rfl⟩
theorem q_app [Rep α] {β : Type} {P : β -> Prop} {xs : List α} {y : α} {k : List α -> β} (hP : P (lt (xs ++ [y]) k)) (s : Same F H) (m : MutL K F H p xs) (hi : σ[i]? = some (some (.ref p))) (he : Tv K te σ F H y) (hl : xs.length < 100000)
    (nxt : forall zs F1 H1, zs = xs ++ [y] -> Md p F H F1 H1 -> MutL K F1 H1 p zs -> P (k zs) -> u D σ H1) : tSeq (tDrop (tBM K "list" rAppend (tVar i) (tCons te tNil))) u D σ H := by
  obtain ⟨f, vs, e, r⟩ := id m
  refine ⟨.ref p, hi, .inl ⟨rfl, vs, SqL.of e⟩, he F H (Gr.refl s) _ fun F2 H2 v g rv => ?_⟩
  obtain ⟨f2, vs2, e2, r2⟩ := id (m.go g)
  refine ⟨p, vs2, v, rfl, rfl, e2, by rw [wk_len r2]; exact szl hl, nxt _ F2 _ rfl (Md.of m g) ⟨f2, _, upd_same, rps_app r2 (.cons rv .nil)⟩ (p_lt P hP)⟩
theorem q_clear [Rep α] {β : Type} {P : β -> Prop} {xs : List α} {k : List α -> β} (hP : P (lt ([] : List α) k)) (s : Same F H) (m : MutL K F H p xs) (hi : σ[i]? = some (some (.ref p)))
    (nxt : forall F1 H1, Md p F H F1 H1 -> MutL K F1 H1 p ([] : List α) -> P (k []) -> u D σ H1) : tSeq (tDrop (tBM0 K "list" rClear (tVar i))) u D σ H := by
  obtain ⟨f, vs, e, r⟩ := id m
  exact ⟨.ref p, hi, .inl ⟨rfl, vs, SqL.of e⟩, p, vs, rfl, rfl, e, nxt F _ (Md.of m (Gr.refl s)) ⟨f, _, upd_same, .nil⟩ (p_lt P hP)⟩
/-! ### comprehensions -/
def lc {α β : Type} (xs : List α) (c : α -> Bool) (f : α -> β) : List β := (xs.filter c).map f
theorem lc_snoc {α β : Type} (xs : List α) (x : α) (c : α -> Bool) (f : α -> β) : lc (xs ++ [x]) c f = lc xs c f ++ (if c x = true then [f x] else []) := by
  unfold lc
  rw [List.filter_append, List.map_append]
  congr 1
  by_cases h : c x = true
  · rw [if_pos h, List.filter_cons, if_pos h]; rfl
  · rw [if_neg h, List.filter_cons, if_neg h]; rfl
theorem lc_len {α β : Type} (xs : List α) (c : α -> Bool) (f : α -> β) : (lc xs c f).length ≤ xs.length := by
  unfold lc
  rw [List.length_map]
  exact List.length_filter_le _ _
theorem lc_true_len {α β : Type} (xs : List α) (f : α -> β) : (lc xs (fun _ => true) f).length = xs.length := by
  unfold lc
  rw [List.length_map, List.filter_eq_self.mpr (fun _ _ => rfl)]
theorem Gr.mut {o : HO} (g : Gr F H F1 H1) (n : H p = none) (f : F1 p = none) : Gr F H F1 (upd H1 p o) :=
  ⟨g.ex, fun a u e => by rw [upd_ne (ne_of_none e n)]; exact g.keep a u e, same_mut g.sub f, g.new⟩
theorem tl_lc [Rep α] [Rep β] {xs : List α} {wi : TI} {g : TG} {vs : List Nat} {S' : Hp -> Hp -> Prop} (c : α -> Bool) (f : α -> β) (hx : Itr K wi σ F H S' xs) (hS : Stb S') (h0 : S' F H) (hl : xs.length < 100000)
    (hs : forall (i : Nat) x v F' H', xs[i]? = some x -> Gr F H F' H' -> rp K F' x v -> forall R : St -> Hp -> Prop, (forall σ2, wipe σ2 vs = wipe σ vs -> Tt tt σ2 H' (c x) -> (forall H'', Same H' H'' -> c x = true -> Tv K te σ2 F' H'' (f x)) -> R σ2 H') -> g v (wipe σ vs) H' R) :
    TvL K (tLc wi g tt te vs) σ F H (lc xs c f) := fun F1 H1 gr Q q =>
  hx F1 H1 gr _ fun J F2 H2 g2 W => fun Dl hD => by
    refine ⟨fun i m H' => m = xs.length - i ∧ i ≤ xs.length ∧ exists F3, Gr F2 H2 F3 H' ∧ MutL K F3 H' Dl (lc (xs.take i) c f), ⟨xs.length, by simp, Nat.zero_le _, F2, Gr.put g2.sub hD, none_of g2.sub hD, [], upd_same, .nil⟩, ?_⟩
    rintro i m H' ⟨rfl, hi, F3, g3, md⟩
    have hf3 := md.fr
    by_cases hlt : i < xs.length
    · refine .inr ⟨W.go i F3 H' g3.ex g3.sub (hS.go ((gr.trans g2).trans g3) h0) hlt, fun H4 => exists F4, Gr F2 H2 F4 H4 ∧ MutL K F4 H4 Dl (lc (xs.take (i + 1)) c f), fun H4 ⟨F4, a1, a2⟩ => ⟨xs.length - (i + 1), by omega, rfl, hlt, F4, a1, a2⟩, fun v H4 y => ?_⟩
      obtain ⟨F4, g4, hv⟩ := W.yld i H' F3 v H4 g3.ex g3.sub (hS.go ((gr.trans g2).trans g3) h0) y hlt
      have hxi : xs[i]? = some (xs[i]'hlt) := by simp
      have g24 := g3.trans g4
      refine hs i (xs[i]'hlt) v F4 H4 hxi ((gr.trans g2).trans g24) (hv _ hxi) _ fun σ2 hw ht he => ⟨hw, ht H4 (Same.refl H4) _ fun H5 e5 => ?_⟩
      have g25 := g24.trans (Gr.up g24.sub e5)
      have md5 : MutL K F4 H5 Dl (lc (xs.take i) c f) := (md.go g4).grow e5
      rw [take_snoc hxi, lc_snoc]
      cases hc : c (xs[i]'hlt) with
      | false => exact ⟨F4, g25, by simpa using md5⟩
      | true =>
        refine he H5 e5 hc F4 H5 (Gr.refl (g24.sub.trans e5)) _ fun F6 H6 w g6 rw' => ?_
        obtain ⟨f6, ws, e6, r6⟩ := md5.go g6
        refine ⟨ws, e6, ?_, F6, (g25.trans g6).mut hD f6, f6, _, upd_same, ?_⟩
        · rw [wk_len r6]
          exact szl (Nat.lt_of_le_of_lt (lc_len _ _ _) (Nat.lt_of_le_of_lt (List.length_take_le _ _) (by omega)))
        · rw [if_pos rfl]
          exact rps_app r6 (.cons rw' .nil)
    · have e : i = xs.length := by omega
      subst e
      rw [List.take_length] at md
      exact .inl ⟨W.stop _ F3 H' g3.ex g3.sub (hS.go ((gr.trans g2).trans g3) h0) ⟨Nat.le_refl _, Nat.le_refl _⟩, q F3 H' Dl (g2.trans g3) (none_of g2.keep hD) md⟩
theorem tt_yes : Tt tYes σ H true := fun H1 e Q q => q H1 (Same.refl H1)
end
end Rf

/-! ### more: unpacking, zip, enumerate, chains, None, isinstance, data -/
namespace Rf
open PySem L2
open Rep (rp)
theorem GrZ.grow {Z : Addr -> Prop} {F0 H0 F H H1 : Hp} (g : GrZ Z F0 H0 F H) (e : Same H H1) : GrZ Z F0 H0 F H1 := g.then (Gr.up g.sub e)
theorem GrZ.newIn {Z : Addr -> Prop} {F0 H0 F H : Hp} {p : Addr} (g : GrZ Z F0 H0 F H) (n : H p = none) : H0 p = none := by
  cases q : H0 p with
  | none => rfl
  | some o =>
    obtain ⟨o', e⟩ := g.dom p o q
    rw [n] at e; cases e
@[irreducible] def ltL2 {α β : Type} [Inhabited α] (xs : List α) (k : α -> α -> β) : β := k (ixI xs 0) (ixI xs 1)
@[irreducible] def ltL3 {α β : Type} [Inhabited α] (xs : List α) (k : α -> α -> α -> β) : β := k (ixI xs 0) (ixI xs 1) (ixI xs 2)
theorem ltL2_eq {α β : Type} [Inhabited α] (xs : List α) (k : α -> α -> β) : ltL2 xs k = k (ixI xs 0) (ixI xs 1) := by unfold ltL2; rfl
theorem ltL3_eq {α β : Type} [Inhabited α] (xs : List α) (k : α -> α -> α -> β) : ltL3 xs k = k (ixI xs 0) (ixI xs 1) (ixI xs 2) := by unfold ltL3; rfl
section
variable {K : Fg} {Z : Addr -> Prop} {σ : St} {F H F0 H0 F1 H1 F2 H2 : Hp} {te ta tb tc : TE} {tt : TT} {t1 t2 u : TS} {D : Ends} {i j l : Nat} {p q : Addr}
theorem tv_neg {n : Int} (h : Tv K te σ H H n) : Tv K (tUn (rU fun i => .int (-i)) te) σ H H (-n) := fun F1 H1 g Q q =>
  h F1 H1 g _ fun F2 H2 v g2 r => ⟨n, r, q F2 H2 _ g2 rfl⟩
theorem tv_chain [Rep α] [Rep β] [Rep γ] {x : α} {y : β} {z : γ} {r r' : R2} {b c : Bool} (ha : Tv K ta σ H H x) (hb : Tv K tb σ H H y) (ho : Op2 K r x y b) (hc : Tv K tc σ H H z) (ho' : Op2 K r' y z c) : Tv K (tChain r r' ta tb tc) σ H H (b && c) := fun F1 H1 g Q q =>
  ha F1 H1 g _ fun F2 H2 v g2 r1 => hb F2 H2 (g.trans g2) _ fun F3 H3 w g3 r2 => ho F3 H3 v w g3.sub (up g3.ex r1) r2 _ fun F4 H4 k g4 rk => ⟨b, rk, by
    cases b with
    | false => exact q F4 H4 _ ((g2.trans g3).trans g4) rfl
    | true => exact hc F4 H4 (((g.trans g2).trans g3).trans g4) _ fun F5 H5 z' g5 r5 => ho' F5 H5 w z' g5.sub (up (g4.ex.trans g5.ex) r2) r5 _ fun F6 H6 k' g6 rk' => q F6 H6 k' ((((g2.trans g3).trans g4).trans g5).trans g6) rk'⟩
/-- x is None -/
class Nn (α : Type) [Rep α] : Prop where
  nn : forall {K : Fg} {F : Hp} {x : α} {v : V}, rp K F x v -> v ≠ .non
instance : Nn Int := ⟨fun h z => by rw [show _ = V.int _ from h] at z; cases z⟩
instance : Nn Bool := ⟨fun h z => by rw [show _ = V.bl _ from h] at z; cases z⟩
instance : Nn PySem.Str := ⟨fun h z => by rw [show _ = V.str _ from h] at z; cases z⟩
instance [Rep α] : Nn (List α) := ⟨fun ⟨_, _, e, _⟩ z => by rw [e] at z; cases z⟩
instance [Rep α] [RepT β] : Nn (α × β) := ⟨fun ⟨_, _, e, _⟩ z => by rw [e] at z; cases z⟩
instance [Rep α] : Nn (Tup α) := ⟨fun ⟨_, _, e, _⟩ z => by rw [e] at z; cases z⟩
theorem op2_isN [Rep α] [Nn α] {x : Option α} : Op2 K rIsN x () x.isNone := fun F H v w s r1 r2 Q q => by
  refine ⟨r2, q F H _ (Gr.refl s) ?_⟩
  cases x with
  | none => rw [show v = V.non from r1]; rfl
  | some y =>
    have n := Nn.nn (α := α) (x := y) r1
    show V.bl _ = V.bl _
    simp [n]
theorem op2_notN [Rep α] [Nn α] {x : Option α} : Op2 K rNotN x () x.isSome := fun F H v w s r1 r2 Q q => by
  refine ⟨r2, q F H _ (Gr.refl s) ?_⟩
  cases x with
  | none => rw [show v = V.non from r1]; rfl
  | some y =>
    have n := Nn.nn (α := α) (x := y) r1
    show V.bl _ = V.bl _
    simp [n]
theorem op2_isNU : Op2 K rIsN () () true := fun F H v w s r1 r2 Q q => ⟨r2, q F H _ (Gr.refl s) (by rw [show v = V.non from r1]; rfl)⟩
theorem op2_notNU : Op2 K rNotN () () false := fun F H v w s r1 r2 Q q => ⟨r2, q F H _ (Gr.refl s) (by rw [show v = V.non from r1]; rfl)⟩
theorem op2_isNF [Rep α] [Nn α] {x : α} : Op2 K rIsN x () false := fun F H v w s r1 r2 Q q => ⟨r2, q F H _ (Gr.refl s) (by show V.bl _ = V.bl _; simp [Nn.nn r1])⟩
theorem op2_notNF [Rep α] [Nn α] {x : α} : Op2 K rNotN x () true := fun F H v w s r1 r2 Q q => ⟨r2, q F H _ (Gr.refl s) (by show V.bl _ = V.bl _; simp [Nn.nn r1])⟩
/-- isinstance of a thing of a known kind -/
class Typ (α : Type) [Rep α] (n : String) : Prop where
  is : forall {K : Fg} {F H : Hp} {x : α} {v : V}, rp K F x v -> Same F H -> TyX K H v (.type n)
instance : Typ Int "int" := ⟨fun h _ => by rw [show _ = V.int _ from h]; exact .base (.int _)⟩
instance : Typ Bool "bool" := ⟨fun h _ => by rw [show _ = V.bl _ from h]; exact .base (.bl _)⟩
instance : Typ PySem.Str "str" := ⟨fun h _ => by rw [show _ = V.str _ from h]; exact .base (.str _)⟩
instance : Typ Unit "NoneType" := ⟨fun h _ => by rw [show _ = V.non from h]; exact .base .non⟩
instance [Rep α] : Typ (List α) "list" := ⟨fun ⟨a, vs, e, q, _⟩ s => by rw [e]; exact .base (.lst (s a _ q))⟩
instance [Rep α] [RepT β] : Typ (α × β) "tuple" := ⟨fun ⟨a, vs, e, q, _⟩ s => by rw [e]; exact .base (.tup (s a _ q))⟩
instance [Rep α] : Typ (Tup α) "tuple" := ⟨fun ⟨a, vs, e, q, _⟩ s => by rw [e]; exact .base (.tup (s a _ q))⟩
theorem tv_isi [Rep α] {x : α} {n c : String} {b : Bool} [Typ α n] (h : Tv K ta σ H H x) (e : kitB n c = some b) : Tv K (tCB (rIsi K) (tCons ta (tCons (tC (.ty c)) tNil))) σ H H b := fun F1 H1 g Q q =>
  h F1 H1 g _ fun F2 H2 v g2 r => ⟨v, .ty c, .type n, .type c, b, rfl, .ty c, Typ.is r g2.sub, kit_ty e, q F2 H2 _ g2 rfl⟩
/-! ### unpacking -/
theorem q_unp2 [Rep α] [Rep β] {γ : Type} {e : α × β} {k : α -> β -> γ} {P : γ -> Prop} (hP : P (lt2 e k)) (s : Same F H) (he : Tv K te σ F H e)
    (nxt : forall a b F1 H1 v w, (a, b) = e -> Gr F H F1 H1 -> rp K F1 a v -> rp K F1 b w -> P (k a b) -> u D ((σ.set i (some v)).set j (some w)) H1) : tSeq (tAsg te (gTup K 2 (gCons (gName i) (gCons (gName j) gNil)))) u D σ H :=
  he F H (Gr.refl s) _ fun F2 H2 v g r => g_tup2 (Q := fun σ' H' => u D σ' H') g.sub r fun a b ra rb => nxt e.1 e.2 F2 H2 a b rfl g ra rb (by rw [lt2_eq] at hP; exact hP)
theorem q_unp3 [Rep α] [Rep β] [Rep γ] {δ : Type} {e : α × β × γ} {k : α -> β -> γ -> δ} {P : δ -> Prop} (hP : P (lt3 e k)) (s : Same F H) (he : Tv K te σ F H e)
    (nxt : forall a b c F1 H1 v w z, (a, b, c) = e -> Gr F H F1 H1 -> rp K F1 a v -> rp K F1 b w -> rp K F1 c z -> P (k a b c) -> u D (((σ.set i (some v)).set j (some w)).set l (some z)) H1) : tSeq (tAsg te (gTup K 3 (gCons (gName i) (gCons (gName j) (gCons (gName l) gNil))))) u D σ H :=
  he F H (Gr.refl s) _ fun F2 H2 v g r => g_tup3 (Q := fun σ' H' => u D σ' H') g.sub r fun a b c ra rb rc => nxt e.1 e.2.1 e.2.2 F2 H2 a b c rfl g ra rb rc (by rw [lt3_eq] at hP; exact hP)
theorem ixI_0 {α : Type} [Inhabited α] (x : α) (r : List α) : ixI (x :: r) 0 = x := rfl
theorem ixI_1 {α : Type} [Inhabited α] (x y : α) (r : List α) : ixI (x :: y :: r) 1 = y := rfl
theorem ixI_2 {α : Type} [Inhabited α] (x y z : α) (r : List α) : ixI (x :: y :: z :: r) 2 = z := rfl
theorem q_unpL2 [Rep α] [Inhabited α] {γ : Type} {e : List α} {k : α -> α -> γ} {P : γ -> Prop} (hP : P (ltL2 e k)) (s : Same F H) (he : Tv K te σ F H e) (hl : e.length = 2)
    (nxt : forall a b F1 H1 v w, e = [a, b] -> Gr F H F1 H1 -> rp K F1 a v -> rp K F1 b w -> P (k a b) -> u D ((σ.set i (some v)).set j (some w)) H1) : tSeq (tAsg te (gLst K 2 (gCons (gName i) (gCons (gName j) gNil)))) u D σ H := by
  refine he F H (Gr.refl s) _ fun F2 H2 v g r => ?_
  obtain ⟨a, vs, rfl, q, rr⟩ := r
  match e, vs, rr, hl with
  | [x, y], _, .cons rx (.cons ry .nil), _ =>
    rw [ltL2_eq] at hP
    exact ⟨a, _, rfl, SqL.of (g.sub a _ q), rfl, _, _, rfl, _, _, rfl, rfl, nxt x y F2 H2 _ _ rfl g rx ry hP⟩
theorem q_unpL3 [Rep α] [Inhabited α] {γ : Type} {e : List α} {k : α -> α -> α -> γ} {P : γ -> Prop} (hP : P (ltL3 e k)) (s : Same F H) (he : Tv K te σ F H e) (hl : e.length = 3)
    (nxt : forall a b c F1 H1 v w z, e = [a, b, c] -> Gr F H F1 H1 -> rp K F1 a v -> rp K F1 b w -> rp K F1 c z -> P (k a b c) -> u D (((σ.set i (some v)).set j (some w)).set l (some z)) H1) : tSeq (tAsg te (gLst K 3 (gCons (gName i) (gCons (gName j) (gCons (gName l) gNil))))) u D σ H := by
  refine he F H (Gr.refl s) _ fun F2 H2 v g r => ?_
  obtain ⟨a, vs, rfl, q, rr⟩ := r
  match e, vs, rr, hl with
  | [x, y, z], _, .cons rx (.cons ry (.cons rz .nil)), _ =>
    rw [ltL3_eq] at hP
    exact ⟨a, _, rfl, SqL.of (g.sub a _ q), rfl, _, _, rfl, _, _, rfl, _, _, rfl, rfl, nxt x y z F2 H2 _ _ _ rfl g rx ry rz hP⟩
theorem tlen [Rep α] [RepT β] {n : Nat} [LenT (α × β) n] {z : α × β} (hn : n ≤ 100000) : forall F vs, RepT.rt K F z vs -> vs.length ≤ 100000 := fun F vs h => by rw [LenT.len (n := n) h]; exact hn
/-! ### zip, enumerate -/
def zipP {α β : Type} (xs : List α) (ys : List β) : List (Pr α β) := (List.zip xs ys).map fun p => ⟨p.1, p.2⟩
theorem zipP_len {α β : Type} (xs : List α) (ys : List β) : (zipP xs ys).length = min xs.length ys.length := by simp [zipP]
theorem zip_at {α β : Type} {xs : List α} {ys : List β} {i : Nat} {p : Pr α β} (h : (zipP xs ys)[i]? = some p) : xs[i]? = some p.1 ∧ ys[i]? = some p.2 := by
  unfold zipP at h
  rw [List.getElem?_map] at h
  cases e : (List.zip xs ys)[i]? with
  | none => rw [e] at h; cases h
  | some q =>
    rw [e] at h
    cases h
    rw [List.getElem?_zip_eq_some] at e
    exact e
theorem wk_zip [Rep α] [Rep β] {a b : Addr} {vs ws : List V} {xs : List α} {ys : List β} (q : F a = some (.lst vs)) (r : Rps K F xs vs) (q' : F b = some (.lst ws)) (r' : Rps K F ys ws) : Wk K (Itz K a b) F ST (zipP xs ys) where
  go := fun i G H s0 s1 _ h => by
    have s := s0.trans s1
    rw [zipP_len] at h
    exact ⟨vs, ws, vs[i]'(by rw [wk_len r]; omega), ws[i]'(by rw [wk_len r']; omega), SqL.of (s a _ q), SqL.of (s b _ q'), by simp, by simp⟩
  stop := fun i G H s0 s1 _ ⟨h, _⟩ => by
    have s := s0.trans s1
    rw [zipP_len] at h
    exact ⟨vs, ws, SqL.of (s a _ q), SqL.of (s b _ q'), by rw [wk_len r, wk_len r']; omega⟩
  yld := fun i H F3 v H' s s3 _ y h => by
    obtain ⟨T, x, z, rfl, hT, rfl, h1, h2⟩ := y
    refine ⟨_, Gr.lay s3 hT, fun p hp => ?_⟩
    obtain ⟨e1, e2⟩ := zip_at hp
    obtain ⟨v1, k1, m1⟩ := rps_at r e1
    obtain ⟨v2, k2, m2⟩ := rps_at r' e2
    have z1 := h1 vs (SqL.of (s3 a _ (s a _ q)))
    have z2 := h2 ws (SqL.of (s3 b _ (s b _ q')))
    rw [k1] at z1; rw [k2] at z2
    cases z1; cases z2
    have n := same_new (o := .tup [x, z]) (none_of s3 hT)
    exact ⟨T, x, z, rfl, upd_same, up (s.trans n) m1, up (s.trans n) m2⟩
theorem it_zip [Rep α] [Rep β] {xs : List α} {ys : List β} (h : Tv K ta σ F H xs) (h' : Tv K tb σ F H ys) : Itr K (iZip K (tCons ta (tCons tb tNil))) σ F H ST (zipP xs ys) := fun F1 H1 g R q =>
  h F1 H1 g _ fun F2 H2 v g2 ⟨a, vs, e, hq, hr⟩ => h' F2 H2 (g.trans g2) _ fun F3 H3 w g3 ⟨b, ws, e', hq', hr'⟩ =>
    ⟨a, b, vs, ws, by rw [e, e'], SqL.of (g3.sub a _ (g3.ex a _ hq)), SqL.of (g3.sub b _ hq'), q _ F3 H3 (g2.trans g3) (wk_zip (g3.ex a _ hq) (rps_mono g3.ex hr) hq' hr')⟩
def enumI {α : Type} (xs : List α) : List (Pr Int α) := zipP (rng 0 xs.length) xs
/-- a loop's or a comprehension's one name -/
theorem g_nameF [Rep α] [Flat α] {x : α} {v : V} {Q : St -> Hp -> Prop} (h : rp K F x v) (k : v = Flat.val x -> Q (σ.set i (some (Flat.val x))) H) : gName i v σ H Q := by
  have e := Flat.is h
  subst e
  exact k rfl
/-! ### == of data -/
class Dat (α : Type) [Rep α] where
  dat : α -> PyData
  dp : forall {K : Fg} {F : Hp} {x : α} {v : V}, rp K F x v -> Dp K F v (dat x)
  ok : α -> Prop
  sh : Nat
  can : forall x : α, ok x -> (dat x).canLay0 = true ∧ (dat x).depth ≤ sh
  eqv : forall x y : α, PyData.eqv (dat x) (dat y) = true ↔ x = y
instance : Dat Int := ⟨fun i => .int i, fun h => by rw [show _ = V.int _ from h]; exact .int _, fun _ => True, 0, fun x _ => ⟨by simp [PyData.canLay0], by simp [PyData.depth]⟩, fun x y => by simp [PyData.eqv]⟩
instance : Dat Bool := ⟨fun i => .bool i, fun h => by rw [show _ = V.bl _ from h]; exact .bl _, fun _ => True, 0, fun x _ => ⟨by simp [PyData.canLay0], by simp [PyData.depth]⟩, fun x y => by simp [PyData.eqv]⟩
instance : Dat Unit := ⟨fun _ => .none, fun h => by rw [show _ = V.non from h]; exact .non, fun _ => True, 0, fun x _ => ⟨by simp [PyData.canLay0], by simp [PyData.depth]⟩, fun x y => by simp [PyData.eqv]⟩
instance : Dat PySem.Str := ⟨fun i => .str i, fun h => by rw [show _ = V.str _ from h]; exact .str _, fun x => PyData.strOk x = true, 0, fun x h => ⟨by simpa [PyData.canLay0] using h, by simp [PyData.depth]⟩, fun x y => by simp [PyData.eqv]⟩
theorem dpAll [Rep α] [Dat α] {K : Fg} {F : Hp} : forall {xs : List α} {vs : List V}, Rps K F xs vs -> DpAll K F vs (xs.map Dat.dat)
  | _, _, .nil => .nil
  | _, _, .cons r t => .cons (Dat.dp r) (dpAll t)
theorem canAll [Rep α] [Dat α] : forall (xs : List α), (forall x, x ∈ xs -> Dat.ok x) -> PyData.canLayAll0 (xs.map Dat.dat) = true ∧ PyData.depthAll (xs.map Dat.dat) ≤ Dat.sh α
  | [], _ => ⟨by simp [PyData.canLayAll0], by simp [PyData.depthAll]⟩
  | x :: r, h => by
    obtain ⟨h1, h2⟩ := canAll r fun y hy => h y (List.mem_cons_of_mem _ hy)
    obtain ⟨h3, h4⟩ := Dat.can x (h x (List.mem_cons_self ..))
    constructor
    · simp [PyData.canLayAll0, h3]; simpa using h1
    · simp only [List.map_cons, PyData.depthAll]; omega
theorem eqvAll [Rep α] [Dat α] : forall (xs ys : List α), PyData.eqvAll (xs.map Dat.dat) (ys.map Dat.dat) = true ↔ xs = ys
  | [], [] => by simp [PyData.eqvAll]
  | [], y :: r => by simp [PyData.eqvAll]
  | x :: r, [] => by simp [PyData.eqvAll]
  | x :: r, y :: r' => by
    simp only [List.map_cons, PyData.eqvAll, Bool.and_eq_true, eqvAll r r', Dat.eqv, List.cons.injEq]
instance [Rep α] [Dat α] : Dat (List α) := ⟨fun xs => .list (xs.map Dat.dat), fun ⟨a, vs, e, q, r⟩ => by rw [e]; exact .lst (SqL.of q) (dpAll r), fun xs => forall x, x ∈ xs -> Dat.ok x, Dat.sh α + 1, fun xs h => by
  obtain ⟨h1, h2⟩ := canAll xs h
  exact ⟨by simpa [PyData.canLay0] using h1, by simp only [PyData.depth]; omega⟩, fun x y => by simp only [PyData.eqv]; exact eqvAll x y⟩
instance [Rep α] [Dat α] : Dat (Tup α) := ⟨fun xs => .tuple (xs.l.map Dat.dat), fun ⟨a, vs, e, q, r⟩ => by rw [e]; exact .tup (SqT.of q) (dpAll r), fun xs => forall x, x ∈ xs.l -> Dat.ok x, Dat.sh α + 1, fun xs h => by
  obtain ⟨h1, h2⟩ := canAll xs.l h
  exact ⟨by simpa [PyData.canLay0] using h1, by simp only [PyData.depth]; omega⟩, fun x y => by
  simp only [PyData.eqv]
  rw [eqvAll x.l y.l]
  cases x; cases y; simp⟩
/-- the items of a tuple -/
class DatT (α : Type) [RepT α] where
  ds : α -> List PyData
  dp : forall {K : Fg} {F : Hp} {x : α} {vs : List V}, RepT.rt K F x vs -> DpAll K F vs (ds x)
  ok : α -> Prop
  sh : Nat
  can : forall x : α, ok x -> PyData.canLayAll0 (ds x) = true ∧ PyData.depthAll (ds x) ≤ sh
  eqv : forall x y : α, PyData.eqvAll (ds x) (ds y) = true ↔ x = y
instance (priority := low) [Rep α] [Dat α] : DatT α := ⟨fun x => [Dat.dat x], fun ⟨v, e, r⟩ => by rw [e]; exact .cons (Dat.dp r) .nil, Dat.ok, Dat.sh α, fun x h => by
  obtain ⟨h1, h2⟩ := Dat.can x h
  exact ⟨by simp [PyData.canLayAll0, h1], by simp only [PyData.depthAll]; omega⟩, fun x y => by simp [PyData.eqvAll, Dat.eqv]⟩
instance (priority := high) [Rep α] [RepT β] [Dat α] [DatT β] : DatT (α × β) := ⟨fun x => Dat.dat x.1 :: DatT.ds x.2, fun ⟨v, r, e, h, t⟩ => by rw [e]; exact .cons (Dat.dp h) (DatT.dp t), fun x => Dat.ok x.1 ∧ DatT.ok x.2, max (Dat.sh α) (DatT.sh β), fun x h => by
  obtain ⟨h1, h2⟩ := Dat.can x.1 h.1
  obtain ⟨h3, h4⟩ := DatT.can x.2 h.2
  exact ⟨by simp [PyData.canLayAll0, h1, h3], by simp only [PyData.depthAll]; omega⟩, fun x y => by
  obtain ⟨x1, x2⟩ := x; obtain ⟨y1, y2⟩ := y
  simp [PyData.eqvAll, Dat.eqv, DatT.eqv]⟩
instance [Rep α] [RepT β] [Dat α] [DatT β] : Dat (α × β) := ⟨fun x => .tuple (DatT.ds x), fun ⟨a, vs, e, q, r⟩ => by rw [e]; exact .tup (SqT.of q) (DatT.dp r), fun x => DatT.ok x, DatT.sh (α × β) + 1, fun x h => by
  obtain ⟨h1, h2⟩ := DatT.can x h
  exact ⟨by simpa [PyData.canLay0] using h1, by simp only [PyData.depth]; omega⟩, fun x y => by simp only [PyData.eqv]; exact DatT.eqv x y⟩
theorem shaped_of [Rep α] [Dat α] {x : α} (h : Dat.ok x) (hs : Dat.sh α ≤ 64) : SeqAt.shaped (Dat.dat x) = true := by
  obtain ⟨h1, h2⟩ := Dat.can x h
  unfold SeqAt.shaped
  rw [h1, decide_eq_true (Nat.le_trans h2 hs)]
  rfl
theorem eqv_dec [Rep α] [Dat α] [DecidableEq α] (x y : α) : PyData.eqv (Dat.dat x) (Dat.dat y) = decide (x = y) := by
  rw [Bool.eq_iff_iff, Dat.eqv, decide_eq_true_iff]
theorem op2_eqD [Rep α] [Dat α] [DecidableEq α] {K : Fg} {x y : α} (hx : Dat.ok x) (hy : Dat.ok y) (hs : Dat.sh α ≤ 64) : Op2 K (rEqD K) x y (decide (x = y)) := fun F H v w s r1 r2 Q q =>
  ⟨Dat.dat x, Dat.dat y, Dat.dp (up s r1), Dat.dp (up s r2), shaped_of hx hs, shaped_of hy hs, by rw [eqv_dec]; exact q F H _ (Gr.refl s) rfl⟩
theorem op2_neD [Rep α] [Dat α] [DecidableEq α] {K : Fg} {x y : α} (hx : Dat.ok x) (hy : Dat.ok y) (hs : Dat.sh α ≤ 64) : Op2 K (rNeD K) x y (!decide (x = y)) := fun F H v w s r1 r2 Q q =>
  ⟨Dat.dat x, Dat.dat y, Dat.dp (up s r1), Dat.dp (up s r2), shaped_of hx hs, shaped_of hy hs, by rw [eqv_dec]; exact q F H _ (Gr.refl s) rfl⟩
/-- tuples of ints -/
class Ints (α : Type) [RepT α] where
  ii : α -> List Int
  is : forall {K : Fg} {F : Hp} {x : α} {vs : List V}, RepT.rt K F x vs -> vs = (ii x).map V.int
instance (priority := low) : Ints Int := ⟨fun x => [x], fun ⟨v, e, r⟩ => by rw [e, show v = V.int _ from r]; rfl⟩
instance (priority := high) [RepT β] [Ints β] : Ints (Int × β) := ⟨fun x => x.1 :: Ints.ii x.2, fun ⟨v, r, e, h, t⟩ => by rw [e, show v = V.int _ from h, Ints.is t]; rfl⟩
theorem op2_ltT [RepT β] [Ints β] {K : Fg} {x y : Int × β} : Op2 K (rLtT K) x y (HT.lexLt (Ints.ii x) (Ints.ii y)) := fun F H v w s ⟨a, vs, e, q, r⟩ ⟨b, ws, e', q', r'⟩ Q k => by
  have h1 := Ints.is (α := Int × β) r
  have h2 := Ints.is (α := Int × β) r'
  subst h1 h2
  exact ⟨a, b, _, _, e, e', SqT.of (s a _ q), SqT.of (s b _ q'), k F H _ (Gr.refl s) rfl⟩
end
end Rf

/-! ### defs of the text -/
namespace Rf
open PySem PySem.Spec PyProof.Rows L2
abbrev FnP (K : Fg) (x : PySem.Str) (st : Stmt) (f : Addr) (fd : FuncData) : Prop := FunD K x x (defArgs st) (defBody st) (defScope st) [] [] f fd
/-- the module's def x is there and keeps its promise -/
def Dn (P : Program) (w : World) (K : Fg) (mg : PySem.Str → Option Value) (base : Heap) (CX : CXT) (x : PySem.Str) (k : Nat) (ps : List PySem.Str) (sp : Sp) : Prop :=
  ∃ f fd, FnOk P w K mg base CX k f fd ps sp ∧ mg x = some (.ref f) ∧ PySem.W.keepIn K (.ref f) = true ∧ Binds K fd ps []
end Rf

/-! ### rules whose reading names the written part, K written out (within a comprehension's block the context is a bound one) -/
namespace Rf
open PySem PySem.Spec PyProof.Rows L2
section
variable {X : Cx} {K : Fg}
theorem ix_listK (K : Fg) (h : X.K = K := by rfl) : IxR X (rIxL K) := h ▸ ix_list
theorem ix_tupK (K : Fg) (h : X.K = K := by rfl) : IxR X (rIxT K) := h ▸ ix_tup
theorem len_seqK (K : Fg) (h : X.K = K := by rfl) : CallR X (.builtin "len") (rLen' K) := h ▸ call_len_seq
theorem list_ofK (K : Fg) (h : X.K = K := by rfl) : CallR X (.type "list") (rListOf K) := h ▸ call_list_of
theorem in_seqK (K : Fg) (h : X.K = K := by rfl) : OpR X (compareOp .In) (rIn K false) := h ▸ op_in_seq
theorem notIn_seqK (K : Fg) (h : X.K = K := by rfl) : OpR X (compareOp .NotIn) (rIn K true) := h ▸ op_notIn_seq
theorem sl_listK (K : Fg) (h : X.K = K := by rfl) : SlR X (rSlL K) := h ▸ sl_list
theorem eqDK (K : Fg) (hu : X.A.units + 64 < cLine) (h : X.K = K := by rfl) : OpR X (compareOp .Eq) (rEqD K) := h ▸ op_eqD hu
theorem neDK (K : Fg) (hu : X.A.units + 64 < cLine) (h : X.K = K := by rfl) : OpR X (compareOp .NotEq) (rNeD K) := h ▸ op_neD hu
theorem ltTK (K : Fg) (hu : X.A.units < cLine) (h : X.K = K := by rfl) : OpR X (compareOp .Lt) (rLtT K) := h ▸ op_ltT hu
theorem isiK (K : Fg) (h : X.K = K := by rfl) : CallR X (.builtin "isinstance") (rIsi K) := h ▸ call_isi
theorem pi_listK (K : Fg) {tg l : Expr} {tl : TE} (hl : PE X l tl) (h : X.K = K := by rfl) : PI X tg l (iList K tl) := h ▸ pi_list hl
theorem pi_tupK (K : Fg) {tg l : Expr} {tl : TE} (hl : PE X l tl) (h : X.K = K := by rfl) : PI X tg l (iTup K tl) := h ▸ pi_tup hl
theorem pi_zipK (K : Fg) {e e2 : Expr} {ta : TA} {p pos tpos : Pos} {elts : List Expr} {kk : Nat} (hg : Gl X "zip") (hm : X.mg "zip" = none) (ha : PA X [e, e2] ta) (h : X.K = K := by rfl)
    (hs : starEach [e, e2] X.env = (false, eval e X.env) :: starEach [e2] X.env := by rfl) (hpl : (backTo pos (starEach [e2] X.env)).any (·.1) = false := by rfl) :
    PI X (.Tuple elts kk tpos) (.Call (.Name "zip" p) [e, e2] [] pos) (iZip K ta) := h ▸ pi_zip hg hm ha hs hpl
theorem pg_tupK (K : Fg) {es : List Expr} {k : Nat} {t : TGs} {n : Nat} {pos : Pos} (hc : X.calm = true) (hp : PGs X es t) (h : X.K = K := by rfl)
    (hn : (assignEach es X.env).length = n := by rfl) (hst : (assignEach es X.env).findIdx? (·.1) = none := by rfl) : PG X (.Tuple es k pos) (gTup K n t) := h ▸ pg_tup hc hp hn hst
end
end Rf
namespace Rf
open PySem PySem.Spec PyProof.Rows L2
open Rep (rp)
/-- the items of a tuple whose items are of one kind -/
class ItemsT (τ : Type) (β : outParam Type) [RepT τ] [Rep β] where
  its : τ -> List β
  is : forall {K : Fg} {F : Hp} {x : τ} {vs : List V}, RepT.rt K F x vs -> Rps K F (its x) vs
instance (priority := low) [Rep β] : ItemsT β β := ⟨fun x => [x], fun ⟨v, e, r⟩ => by rw [e]; exact .cons r .nil⟩
instance (priority := high) [Rep β] [RepT τ] [ItemsT τ β] : ItemsT (β × τ) β := ⟨fun x => x.1 :: ItemsT.its x.2, fun ⟨v, r, e, h, t⟩ => by rw [e]; exact .cons h (ItemsT.is t)⟩
theorem it_tupI [Rep β] [RepT τ] [ItemsT τ β] {K : Fg} {te : TE} {σ : St} {F H : Hp} {x : β × τ} (h : Tv K te σ F H x) : Itr K (iTup K te) σ F H ST (ItemsT.its (τ := β × τ) x) := fun F1 H1 g R q =>
  h F1 H1 g _ fun F2 H2 v g2 ⟨a, vs, e, hq, hr⟩ => ⟨a, e, ⟨vs, SqT.of (g2.sub a _ hq)⟩, q _ F2 H2 g2 (wk_tup (SqT.of hq) (ItemsT.is (τ := β × τ) hr))⟩
end Rf
/-! ### copies out of a list that may change still -/
namespace Rf
open PySem PySem.Spec PyProof.Rows L2
open Rep (rp)
section
variable {K : Fg} {σ : St} {F H : Hp} {tb : TE} {i : Nat} {p : Addr}
theorem tl_sliceM [Rep α] {xs : List α} {tl th : TO} {lo hi : Option Int} (e : σ[i]? = some (some (.ref p))) (m : MutL K F H p xs) (h1 : TvO tl σ H lo) (h2 : TvO th σ H hi) : TvL K (tSl (rSlL K) (tVar i) tl th) σ F H (cutI xs lo hi) := fun F1 H1 g Q q => by
  obtain ⟨f, vs, e1, r⟩ := m.go g
  exact ⟨.ref p, e, h1 H1 g.keep _ fun H3 e3 => h2 H3 (g.keep.trans e3) _ fun H4 e4 =>
    ⟨p, vs, rfl, SqL.of (e4 p _ (e3 p _ e1)), fun l hl => q F1 _ l ((Gr.up g.sub (e3.trans e4)).trans (Gr.put ((g.sub.trans e3).trans e4) hl)) (none_of (e3.trans e4) hl) ⟨none_of ((g.sub.trans e3).trans e4) hl, _, upd_same, rps_cut r⟩⟩⟩
theorem tl_listM [Rep α] {xs : List α} (e : σ[i]? = some (some (.ref p))) (m : MutL K F H p xs) : TvL K (tCB (rListOf K) (tCons (tVar i) tNil)) σ F H xs := fun F1 H1 g Q q => by
  obtain ⟨f, vs, e1, r⟩ := m.go g
  exact ⟨.ref p, e, p, vs, rfl, .inl (SqL.of e1), fun l hl => q F1 _ l (Gr.put g.sub hl) hl ⟨none_of g.sub hl, vs, upd_same, r⟩⟩
theorem tv_ixM [Rep α] [Inhabited α] {xs : List α} {n : Int} (e : σ[i]? = some (some (.ref p))) (m : MutL K F H p xs) (hi : Tv K tb σ H H n) (h : InB xs.length n) : Tv K (tOp (rIxL K) (tVar i) tb) σ F H (ixI xs n) := fun F1 H1 g Q q =>
  ⟨.ref p, e, hi H1 H1 (Gr.whole g.keep) _ fun F2 H2 v g2 r2 => by
    obtain ⟨f, vs, e1, r⟩ := m.go g
    obtain ⟨y, hy, ry⟩ := rps_atI r (atI_ix h)
    exact ⟨p, vs, n, y, rfl, r2, SqL.of (g2.keep p _ e1), hy, q F1 H2 y (Gr.up g.sub g2.keep) ry⟩⟩
end
end Rf

/-! ### texts; numbers as texts; sorted; list(range(n)); pop -/
namespace Rf
open PySem PySem.Spec PyProof.Rows L2
open Rep (rp)
abbrev strI (i : Int) : PySem.Str := toString i
def fj (ys : List PySem.Str) : PySem.Str := ys.foldl (· ++ ·) Str.empty
def chI (z : PySem.Str) (i : Int) : PySem.Str := ⟨#[ixI z.cps.toList i]⟩
def signs (z : PySem.Str) : List PySem.Str := z.cps.toList.map fun c => ⟨#[c]⟩
/-- in order -/
def insI (x : Int) : List Int -> List Int
  | [] => [x]
  | y :: r => cond (decide (x ≤ y)) (x :: y :: r) (y :: insI x r)
def sortI (xs : List Int) : List Int := xs.foldr insI []
theorem insI_perm (x : Int) : forall xs : List Int, (insI x xs).Perm (x :: xs)
  | [] => .refl _
  | y :: r => by
    unfold insI
    cases decide (x ≤ y)
    · exact ((insI_perm x r).cons y).trans (.swap x y r)
    · exact .refl _
theorem sortI_perm : forall xs : List Int, (sortI xs).Perm xs
  | [] => .refl _
  | x :: r => (insI_perm x _).trans ((sortI_perm r).cons x)
theorem insI_sorted (x : Int) : forall xs : List Int, xs.Pairwise (· ≤ ·) -> (insI x xs).Pairwise (· ≤ ·)
  | [], _ => .cons (fun _ h => nomatch h) .nil
  | y :: r, h => by
    unfold insI
    cases hd : decide (x ≤ y)
    · have hxy : y ≤ x := by have := of_decide_eq_false hd; omega
      obtain ⟨h1, h2⟩ := List.pairwise_cons.mp h
      refine .cons (fun z hz => ?_) (insI_sorted x r h2)
      rcases List.mem_cons.mp ((insI_perm x r).mem_iff.mp hz) with rfl | hz
      · exact hxy
      · exact h1 z hz
    · have hxy : x ≤ y := of_decide_eq_true hd
      refine .cons (fun z hz => ?_) h
      rcases List.mem_cons.mp hz with rfl | hz
      · exact hxy
      · exact Int.le_trans hxy ((List.pairwise_cons.mp h).1 z hz)
theorem sortI_sorted : forall xs : List Int, (sortI xs).Pairwise (· ≤ ·)
  | [] => .nil
  | x :: r => insI_sorted x _ (sortI_sorted r)
theorem sorted_one : forall {xs ys : List Int}, xs.Perm ys -> xs.Pairwise (· ≤ ·) -> ys.Pairwise (· ≤ ·) -> xs = ys
  | [], ys, p, _, _ => (List.nil_perm.mp p).symm
  | x :: r, [], p, _, _ => nomatch List.perm_nil.mp p
  | x :: r, y :: r', p, hx, hy => by
    obtain ⟨h1, h2⟩ := List.pairwise_cons.mp hx
    obtain ⟨h3, h4⟩ := List.pairwise_cons.mp hy
    have e : x = y := by
      have m1 := p.mem_iff.mp (List.mem_cons_self (a := x) (l := r))
      have m2 := p.mem_iff.mpr (List.mem_cons_self (a := y) (l := r'))
      rcases List.mem_cons.mp m1 with e | m1
      · exact e
      · rcases List.mem_cons.mp m2 with e | m2
        · exact e.symm
        · exact Int.le_antisymm (h1 _ m2) (h3 _ m1)
    subst e
    rw [sorted_one (List.Perm.cons_inv p) h2 h4]
theorem sorted_is {xs ys : List Int} (p : ys.Perm xs) (h : ys.Pairwise (· ≤ ·)) : ys = sortI xs := sorted_one (p.trans (sortI_perm xs).symm) h (sortI_sorted xs)
theorem sortI_len (xs : List Int) : (sortI xs).length = xs.length := (sortI_perm xs).length_eq
section
variable {K : Fg} {Z : Addr -> Prop} {σ : St} {F H F0 H0 F1 H1 F2 H2 : Hp} {te ta tb tc to : TE} {tt : TT} {t1 t2 u : TS} {D : Ends} {i j l : Nat} {p q : Addr}
theorem op2_cats {x y : PySem.Str} (h : x.length + y.length ≤ 100000) : Op2 K rAddS x y (x ++ y) := fun F H v w s r1 r2 Q q =>
  ⟨x, y, r1, r2, sz h, q F H _ (Gr.refl s) rfl⟩
theorem op2_ixS {z : PySem.Str} {i : Int} (hz : z.length ≤ 100000) (h : InB z.length i) : Op2 K rIxS z i (chI z i) := fun F H v w s r1 r2 Q q =>
  ⟨z, i, ixI z.cps.toList i, r1, r2, sz hz, atI_ix (by rw [Array.length_toList]; exact h), q F H _ (Gr.refl s) rfl⟩
abbrev rStrI : List V -> Hp -> VK -> Prop := fun xs H Q => ∃ i, xs = [.int i] ∧ i.natAbs.log2 < 1920 ∧ Q (.str (toString i)) H
theorem cb_strI {n : Int} (h : n.natAbs.log2 < 1920) : CbV K rStrI (fun F vs => exists v r, vs = v :: r ∧ rp K F n v ∧ r = []) (strI n) := fun F H vs Q s ⟨v, r, e, e2, e4⟩ q => by
  subst e e4
  cases e2
  exact ⟨n, rfl, h, q F H _ (Gr.refl s) rfl⟩
theorem log_small {n : Int} (h1 : -(2 ^ 64) ≤ n) (h2 : n ≤ 2 ^ 64) : n.natAbs.log2 < 1920 := by
  by_cases h0 : n.natAbs = 0
  · rw [h0]; decide
  · have h3 : n.natAbs < 2 ^ 1920 := Nat.lt_of_le_of_lt (show n.natAbs ≤ 2 ^ 64 by omega) (Nat.pow_lt_pow_right (by decide) (by decide))
    exact (Nat.log2_lt h0).mpr h3
theorem cb_strS {z : PySem.Str} : CbV K (fun xs H Q => ∃ a, xs = [.str a] ∧ Q (.str a) H) (fun F vs => exists v r, vs = v :: r ∧ rp K F z v ∧ r = []) z := fun F H vs Q s ⟨v, r, e, e2, e4⟩ q => by
  subst e e4
  cases e2
  exact ⟨z, rfl, q F H _ (Gr.refl s) rfl⟩
theorem tv_bits {n : Int} (h : Tv K to σ H H n) : Tv K (tBits to) σ H H ((Builtin.Int.intBits n : Nat) : Int) := fun F1 H1 g Q q =>
  h F1 H1 g _ fun F2 H2 v g2 r => ⟨n, r, q F2 H2 _ g2 rfl⟩
/-- f'..' -/
def TvJ (ts : List TE) (σ : St) (H : Hp) (ys : List PySem.Str) : Prop := forall H1, Same H H1 -> forall (acc : PySem.Str) (Q : PySem.Str -> Hp -> Prop), acc.length + (ys.map (·.length)).sum ≤ 100000 -> (forall H2, Same H1 H2 -> Q (ys.foldl (· ++ ·) acc) H2) -> tJs ts acc σ H1 Q
theorem app_len (a b : PySem.Str) : (a ++ b).length = a.length + b.length := Array.size_append
theorem tj_nil : TvJ [] σ H [] := fun H1 _ acc Q _ q => q H1 (Same.refl H1)
theorem tj_cons {t : TE} {ts : List TE} {y : PySem.Str} {ys : List PySem.Str} (h : Tv K t σ H H y) (hr : TvJ ts σ H ys) : TvJ (t :: ts) σ H (y :: ys) := fun H1 e acc Q hl q =>
  h H1 H1 (Gr.whole e) _ fun F2 H2 v g r => ⟨y, r, by
    rw [List.map_cons, List.sum_cons] at hl
    rw [app_len]
    exact sz (by omega), hr H2 (e.trans g.keep) (acc ++ y) Q (by rw [List.map_cons, List.sum_cons] at hl; rw [app_len]; omega) fun H3 e3 => q H3 (g.keep.trans e3)⟩
theorem tv_fmtI {n : Int} (h : Tv K te σ H H n) (hn : n.natAbs.log2 < 1920) : Tv K (tFmt te) σ H H (strI n) := fun F1 H1 g Q q =>
  h F1 H1 g _ fun F2 H2 v g2 r => .inr ⟨n, r, hn, q F2 H2 _ g2 rfl⟩
theorem tv_fmtS {z : PySem.Str} (h : Tv K te σ H H z) (hz : z.length ≤ 100000) : Tv K (tFmt te) σ H H z := fun F1 H1 g Q q =>
  h F1 H1 g _ fun F2 H2 v g2 r => .inl ⟨z, r, sz hz, q F2 H2 _ g2 rfl⟩
theorem tv_joined {ts : List TE} {ys : List PySem.Str} (h : TvJ ts σ H ys) (hl : (ys.map (·.length)).sum ≤ 100000) : Tv K (fun σ H Q => tJs ts Str.empty σ H fun out H1 => Q (.str out) H1) σ H H (fj ys) := fun F1 H1 g Q q =>
  h H1 g.keep Str.empty _ (by show 0 + _ ≤ _; omega) fun H2 e => q F1 H2 _ (Gr.up g.sub e) rfl
/-- sep.join(xs) -/
abbrev rJoin (K : Fg) : V -> List V -> Hp -> VK -> Prop := fun x xs H Q => ∃ a p, ∃ ys : List PySem.Str, x = .str a ∧ xs = [.ref p] ∧ (SqL K H p (ys.map V.str) ∨ SqT K H p (ys.map V.str)) ∧
    (ys.map (·.length)).sum + ys.length * a.length ≤ 16777216 ∧ Q (.str (Txt.join a ys)) H
theorem tv_join {a : PySem.Str} {ys : List PySem.Str} (ha : Tv K ta σ H H a) (hb : Tv K tb σ H H ys) (hl : (ys.map (·.length)).sum + ys.length * a.length ≤ 16777216) : Tv K (tM1 (rJoin K) ta tb) σ H H (Txt.join a ys) := fun F1 H1 g Q q =>
  ha F1 H1 g _ fun F2 H2 v g2 r1 => ⟨⟨a, r1⟩, hb F2 H2 (g.trans g2) _ fun F3 H3 w g3 ⟨b, vs, e, e2, rr⟩ => by
    have ev := rps_flat rr
    subst ev
    subst e
    exact ⟨a, b, ys, r1, rfl, .inl (SqL.of (g3.sub b _ e2)), hl, q F3 H3 _ (g2.trans g3) rfl⟩⟩
theorem join_mK {X : Cx} (K : Fg) (h : X.K = K := by rfl) : MtR X "str.join" (rJoin K) := h ▸ mt_join
/-- list(range(n)) -/
theorem tl_listRg {n : Int} (h : Tv K ta σ H H n) (h0 : -(2 ^ 62) ≤ n) (hn : n ≤ 100000) : TvL K (tLstRg (tRg1 ta)) σ F H (rng 0 n.toNat) := fun F1 H1 g Q q =>
  h H1 H1 (Gr.whole g.keep) _ fun F2 H2 v g2 r => ⟨n, r, ⟨by omega, by omega, by omega, by omega, by omega⟩, fun p hp => q F1 _ p ((Gr.up g.sub g2.keep).trans (Gr.put (g.sub.trans g2.keep) hp)) (none_of g2.keep hp)
    ⟨none_of (g.sub.trans g2.keep) hp, _, upd_same, by
      have e : rgV 0 n = (rng 0 n.toNat).map (Flat.val (α := Int)) := by
        unfold rgV rng
        rw [List.map_map, Int.sub_zero]
        rfl
      rw [e]
      exact rps_of _⟩⟩
/-- sorted, ints -/
theorem sortedK {X : Cx} (K : Fg) (h : X.K = K := by rfl) : CallR X (.builtin "sorted") (rSortedI K) := h ▸ cr_sortedI
theorem cl_sorted {xs : List Int} : CbL K (rSortedI K) (fun F vs => exists v r, vs = v :: r ∧ rp K F xs v ∧ r = []) (sortI xs) := fun F H vs Q s ⟨v, r, e, ⟨a, ws, e2, e3, r2⟩, e4⟩ q => by
  subst e e2 e4
  have ev := rps_flat r2
  subst ev
  refine ⟨a, xs, rfl, SqL.of (s a _ e3), fun ns' p hp hs hn => ?_⟩
  rw [sorted_is hp hs]
  exact q F _ p (Gr.put s hn) hn ⟨none_of s hn, _, upd_same, rps_of _⟩
theorem tl_sortedM {xs : List Int} (e : σ[i]? = some (some (.ref p))) (m : MutL K F H p xs) : TvL K (tCB (rSortedI K) (tCons (tVar i) tNil)) σ F H (sortI xs) := fun F1 H1 g Q q => by
  obtain ⟨f, vs, e1, r⟩ := m.go g
  have ev := rps_flat r
  subst ev
  refine ⟨.ref p, e, p, xs, rfl, SqL.of e1, fun ns' l hp hs hn => ?_⟩
  rw [sorted_is hp hs]
  exact q F1 _ l (Gr.put g.sub hn) hn ⟨none_of g.sub hn, _, upd_same, rps_of _⟩
/-- xs.append(ys.pop(n)) -/
def popI {α : Type} (xs : List α) (n : Int) : List α := xs.eraseIdx (if n < 0 then n + xs.length else n).toNat
theorem popI_len {α : Type} {xs : List α} {n : Int} (h : InB xs.length n) : (popI xs n).length + 1 = xs.length := by
  obtain ⟨h1, h2⟩ := h
  unfold popI
  rw [List.length_eraseIdx_of_lt]
  · omega
  · split <;> omega
theorem rps_erase [Rep α] : forall (n : Nat) {xs : List α} {vs : List V}, Rps K F xs vs -> Rps K F (xs.eraseIdx n) (vs.eraseIdx n)
  | _, _, _, .nil => .nil
  | 0, _, _, .cons _ t => t
  | n + 1, _, _, .cons r t => .cons r (rps_erase n t)
theorem pop_at {n : Int} {m : Nat} (h : InB m n) : seqIndex? n m = some (if n < 0 then n + m else n).toNat := by
  obtain ⟨h1, h2⟩ := h
  unfold seqIndex?
  by_cases h0 : n < 0
  · simp only [h0, if_true]
    rw [decide_eq_true (show 0 ≤ n + (m : Int) by omega), decide_eq_true (show n + (m : Int) < m by omega)]
    rfl
  · simp only [h0, if_false]
    rw [decide_eq_true (show 0 ≤ n by omega), decide_eq_true (show n < (m : Int) by omega)]
    rfl
theorem ix_pop {α : Type} [Inhabited α] {xs : List α} {n : Int} (h : InB xs.length n) : xs[(if n < 0 then n + xs.length else n).toNat]? = some (ixI xs n) := by
  have h1 := atI_ix h
  obtain ⟨h2, h3⟩ := h
  unfold atI ixN at h1
  by_cases h0 : 0 ≤ n
  · rw [if_pos h0, if_pos h3] at h1
    rw [if_neg (by omega)]
    exact h1
  · rw [if_neg h0, if_pos h2] at h1
    rw [if_pos (by omega)]
    exact h1
theorem q_appPop [Rep α] [Inhabited α] {β : Type} {P : β -> Prop} {xs ys : List α} {n : Int} {k : List α -> List α -> β} (hP : P (lt2 (xs ++ [ixI ys n], popI ys n) k)) (s : Same F H) (m : MutL K F H p xs) (m2 : MutL K F H q ys) (hpq : q ≠ p)
    (hi : σ[i]? = some (some (.ref p))) (hj : σ[j]? = some (some (.ref q))) (hn : Tv K te σ H H n) (hl : xs.length < 100000) (h1 : InB ys.length n) (h2 : ys.length ≤ 100000)
    (nxt : forall zs ws F1 H1 H2, zs = xs ++ [ixI ys n] -> ws = popI ys n -> Md q F H F1 H1 -> Md p F1 H1 F1 H2 -> MutL K F1 H2 p zs -> MutL K F1 H2 q ws -> P (k zs ws) -> u D σ H2) :
    tSeq (tDrop (tBM K "list" rAppend (tVar i) (tCons (tBM K "list" rPopAt (tVar j) (tCons te tNil)) tNil))) u D σ H := by
  obtain ⟨f, vs, e, r⟩ := id m
  obtain ⟨f', vs', e', r'⟩ := id m2
  refine ⟨.ref p, hi, .inl ⟨rfl, vs, SqL.of e⟩, .ref q, hj, .inl ⟨rfl, vs', SqL.of e'⟩, hn H H (Gr.self H) _ fun F2 H2 v g rv => ?_⟩
  have g' : Gr F H F H2 := Gr.up s g.keep
  obtain ⟨f3, vs3, e3, r3⟩ := id (m2.go g')
  obtain ⟨y, hy, ry⟩ := rps_at r3 (ix_pop h1)
  have hm1 : Md q F H F (upd H2 q (.lst (vs3.eraseIdx (if n < 0 then n + (ys.length : Int) else n).toNat))) := Md.of m2 g'
  obtain ⟨f4, vs4, e4, r4⟩ := id (m.md (fun z => hpq z.symm) hm1)
  have hb := h1
  obtain ⟨hb1, hb2⟩ := hb
  refine ⟨q, vs3, n, _, y, rfl, by rw [show v = V.int n from rv], e3, by omega, by omega, by rw [wk_len r3]; exact pop_at h1, hy, p, vs4, y, rfl, rfl, e4, by rw [wk_len r4]; exact szl hl, ?_⟩
  have hm2 : Md p F (upd H2 q (.lst (vs3.eraseIdx (if n < 0 then n + (ys.length : Int) else n).toNat))) F (upd (upd H2 q (.lst (vs3.eraseIdx (if n < 0 then n + (ys.length : Int) else n).toNat))) p (.lst (vs4 ++ [y]))) :=
    Md.of (m.md (fun z => hpq z.symm) hm1) (Gr.refl hm1.sub)
  refine nxt _ _ F _ _ rfl rfl hm1 hm2 ⟨f4, _, upd_same, rps_app r4 (.cons ry .nil)⟩ ⟨f3, _, by rw [upd_ne hpq]; exact upd_same, rps_erase _ r3⟩ ?_
  rw [lt2_eq] at hP
  exact hP
/-! ### lengths, codes -/
theorem strI_len {n : Int} (h : n.natAbs.log2 < 1920) : (strI n).length ≤ 1921 := int_text_len_1921 h
theorem ok_char (d : Char) : d.toNat < 0x110000 := by
  have h := d.valid
  unfold UInt32.isValidChar Nat.isValidChar at h
  show d.val.toNat < _
  omega
theorem ok_str (s : String) : PyData.strOk (Str.ofString s) = true := by
  rw [Str.ofString_eq_toList]
  unfold PyData.strOk
  rw [← Array.all_toList, List.all_eq_true]
  intro c hc
  obtain ⟨d, _, rfl⟩ := List.mem_map.mp hc
  exact decide_eq_true (ok_char d)
theorem ok_app {a b : PySem.Str} (h1 : PyData.strOk a = true) (h2 : PyData.strOk b = true) : PyData.strOk (a ++ b) = true := by
  obtain ⟨⟨a⟩⟩ := a
  obtain ⟨⟨b⟩⟩ := b
  show (Array.all (⟨a⟩ ++ ⟨b⟩) _) = true
  rw [Array.all_append]
  exact Bool.and_eq_true_iff.mpr ⟨h1, h2⟩
/-! ### a text's signs -/
theorem signs_at {z : PySem.Str} {i c : Nat} (h : z.cps[i]? = some c) : (signs z)[i]? = some ⟨#[c]⟩ := by
  unfold signs
  rw [List.getElem?_map, Array.getElem?_toList, h]
  rfl
theorem signs_len (z : PySem.Str) : (signs z).length = z.cps.size := by simp [signs]
theorem wk_str {z : PySem.Str} : Wk K (Its z) F ST (signs z) where
  go := fun i G H s s1 _ h => by rw [signs_len] at h; exact h
  stop := fun i G H s s1 _ ⟨h, _⟩ => by rw [signs_len] at h; exact h
  yld := fun i H F3 v H' s s3 _ y h => by
    obtain ⟨rfl, c, hc, rfl⟩ := y
    exact ⟨F3, Gr.refl s3, fun x hx => by rw [signs_at hc] at hx; cases hx; rfl⟩
theorem it_str {z : PySem.Str} (h : Tv K te σ H H z) : Itr K (iStr te) σ F H ST (signs z) := fun F1 H1 g R q =>
  h H1 H1 (Gr.whole g.keep) _ fun F2 H2 v g2 r => ⟨z, r, q _ F1 H2 (Gr.up g.sub g2.keep) wk_str⟩
/-- x in z, x one sign -/
def inS (x z : PySem.Str) : Bool := decide (ixI x.cps.toList 0 ∈ z.cps.toList)
theorem op2_inS {x z : PySem.Str} (h : x.length = 1) : Op2 K (fun x y H Q => ∃ (c : Nat) (z : PySem.Str), x = .str ⟨#[c]⟩ ∧ y = .str z ∧ Q (.bl (decide (c ∈ z.cps.toList))) H) x z (inS x z) := fun F H v w s r1 r2 Q q => by
  obtain ⟨⟨l⟩⟩ := x
  match l, h with
  | [c], _ => exact ⟨c, z, r1, r2, q F H _ (Gr.refl s) rfl⟩
end
end Rf

/-! ### an error that the clause hands on: tracked behind the suite -/
namespace Rf
open PySem PySem.Spec PyProof.Rows L2
open Rep (rp)
/-- the error at a: of the class cls, its dict d -/
def Cgt (cls : Value) (d : Option Addr) (a : Addr) : HO := .ext fun h => ∃ (oe : Obj) (fl : Array Value), h.get? a = some oe ∧ Zc cls d oe ∧ oe.data = .fields fl
section
variable {X : Cx} {pins : List (Addr × Obj)} {σ : L2.St} {H : Hp} {s : Shared} {a : Addr}
theorem cgt_ok {P : Program} {w : World} {G : Hp} {h : Heap} {cls : Value} {d : Option Addr} {oe : Obj} {fl : Array Value} (e : h.get? a = some oe) (z : Zc cls d oe) (hd : oe.data = .fields fl) : ObjOk P w G h a (Cgt cls d a) :=
  ⟨⟨oe, fl, e, z, hd⟩, ⟨oe, e⟩, fun _ _ ⟨o, v, q, r⟩ k => ⟨o, v, k o q, r⟩⟩
/-- an object that stands already is looked at from now on -/
theorem track {o : HO} (I : Inv X pins σ H s) (hn : H a = none) (h0 : X.s_0.heap.get? a = none) (hL : a ≠ X.env.locals) (hc : ∀ x c, X.env.cells.lookup x = some c → c ≠ a) (hp : ∀ p ∈ X.pn ++ pins, p.1 ≠ a) (ob : ObjOk X.prog X.w (upd H a o) s.heap a o) :
    Inv X pins σ (upd H a o) s := by
  have old : ∀ {b : Addr} {u : HO}, H b = some u → upd H a o b = some u := fun {b u} e => by rw [upd_ne (ne_of_none e hn)]; exact e
  have un : Un X.fs X.ex X.H_0 (upd H a o) X.s_0.heap s.heap :=
    { keep := I.base.keep, slot := I.base.slot, there := I.base.there
      free := fun b u e n x => by
        have : b ≠ a := fun z => by rw [z, h0] at e; cases e
        rw [upd_ne this]
        exact I.base.free b u e n x
      tups := fun b xs e => old (I.base.tups b xs e)
      frzs := fun b u xs e => old (I.base.frzs b u xs e)
      tbls := fun b ps e => let ⟨m, q⟩ := I.base.tbls b ps e; ⟨m, old q⟩ }
  exact
    { ok := I.ok, os := I.os, bare := I.bare, base := un, loc := I.loc, cell := I.cell, len := I.len
      free := by rw [upd_ne (Ne.symm hL)]; exact I.free
      freeC := fun x c e => by rw [upd_ne (hc x c e)]; exact I.freeC x c e
      pin := fun p hm => let ⟨h1, h2, h3⟩ := I.pin p hm; ⟨h1, by rw [upd_ne (hp p hm)]; exact h2, h3⟩
      hok := HOk.laidN I.hok (fun _ _ e => e) hn ob }
/-- what the clause 'except c as n' wishes, the error tracked behind its suite -/
def wTrk (K : Fg) (c : Value) (i : Nat) (ts : Addr → Value → Option Addr → TS) (Wout : WX) (D : Ends) : WX := fun cls d σ H =>
  ∃ b, PySem.W.exmOne K cls c = some b ∧ (b = true → ∀ a, H a = none → ts a cls d { nx := fun σ1 H1 => D.nx (σ1.set i none) (upd H1 a (Cgt cls d a)), rt := fun v H1 => D.rt v (upd H1 a (Cgt cls d a)), bk := fun σ1 H1 => D.bk (σ1.set i none) (upd H1 a (Cgt cls d a)), ct := fun σ1 H1 => D.ct (σ1.set i none) (upd H1 a (Cgt cls d a)) } (σ.set i (some (.ref a))) H) ∧
    (b = false → Wout cls d σ H)
end
section
variable {X : Cx} {pins : List (Addr × Obj)} {σ : L2.St} {H : Hp} {sI s : Shared} {a : Addr} {B : Heap} {cls c : Value} {d : Option Addr} {x n : PySem.Str} {i : Nat} {body suite : List Stmt} {b₀ : Stmt} {np pos pos' : Pos} {tb : WX → TS} {ts : Addr → Value → Option Addr → TS} {Wout : WX}
/-- an error in our air was not there at the entry, is no pin and no frame -/
theorem air_new (J : Inv X pins σ H sI) (hex : X.ex = []) (nb : ∀ b o, sI.heap.get? b = some o → b ∉ frs X.stack → B.get? b = some o) (nB : B.get? a = none) (nf : a ∉ frs X.stack) (nL : a ≠ X.env.locals) (nF : a ∉ X.fs) :
    X.s_0.heap.get? a = none ∧ ∀ p ∈ X.pn ++ pins, p.1 ≠ a := by
  constructor
  · cases e : X.s_0.heap.get? a with
    | none => rfl
    | some o =>
      obtain ⟨o', e'⟩ := J.base.there a o e (by rw [hex]; exact fun z => nomatch z)
      have := nb a o' e' nf
      rw [nB] at this; cases this
  · intro p hm z
    obtain ⟨e, _, h1, h2, _⟩ := J.pin p hm
    have := nb p.1 p.2 e (by rw [z]; exact nf)
    rw [z, nB] at this; cases this
theorem no_frame {h : Heap} {o : Obj} {fl : Array Value} {l : List Env} (ff : h.FunFrames B l) (e : h.get? a = some o) (hd : o.data = .fields fl) : a ∉ frs l := fun hm => by
  obtain ⟨_, o', e', hn⟩ := ff.mem hm
  rw [e] at e'; cases e'
  exact hn _ hd
/-- behind the suite: the name gone, the error tracked -/
theorem suite_end {oe : Obj} {fl : Array Value} {σ6 : L2.St} {H6 : Hp} {s6 : Shared} {Q : Unit → Shared → Prop} {M : Model} {A : Around} {E : Value → Shared → Prop} (S : Inv (X.suite a ((a, oe) :: (X.pn ++ pins))) [] σ6 H6 s6) (ok : X.Ok) (z : Zc cls d oe) (hd : oe.data = .fields fl)
    (h0 : X.s_0.heap.get? a = none) (hL : a ≠ X.env.locals) (hp : ∀ p ∈ X.pn ++ pins, p.1 ≠ a) (hN : X.N.Nodup) (hi : X.N[i]? = some n) (hln : X.env.kindOf n = some .local)
    (k : ∀ s7, Inv X pins (σ6.set i none) (upd H6 a (Cgt cls d a)) s7 → Q () s7) : wpAny M A (do bindName X.env n .none; unbindBehindTheSuite X.env n pos) Q E s6 := by
  obtain ⟨he, hn, _, _, hcl⟩ := S.pin (a, oe) (List.mem_append_left _ (List.mem_cons_self ..))
  have U := S.unsuite ok
  refine gone_ok (track (o := Cgt cls d a) U hn h0 hL (fun y c e z2 => ?_) hp (cgt_ok he z hd)) hN hi hln k
  obtain ⟨v, q⟩ := U.cell y c e
  rw [z2] at q
  obtain ⟨o, e1, e2⟩ := q
  rw [he] at e1; cases e1
  exact hcl _ e2
/-- the clause takes it -/
theorem clause_takes (hs : X.stack = X.env :: X.outer) (hf : X.env.frame = some X.env.locals) (hN : X.N.Nodup) (hi : X.N[i]? = some n) (hln : X.env.kindOf n = some .local) (hc : Names X x c) (tk : Takes X Wout) (hex : X.ex = [])
    (hsu : ∀ (a : Addr) (oe : Obj) (cls : Value) (d : Option Addr) (pn : List (Addr × Obj)), Zc cls d oe → (∃ vs, oe.data = .fields vs) → PSs (X.suite a ((a, oe) :: pn)) (b₀ :: suite) (ts a cls d))
    {D : Ends} (ok : X.Ok) {u : Value} (xx : XE (X.tr (X.pn ++ pins) fun _ _ => True) (wTrk X.K c i ts Wout D) u s) :
    wpAny (model X.prog X.w) X.A (noteFrame u X.env) (fun _ s₂ => wpAny (model X.prog X.w) X.A (setFlight u none) (fun _ s₃ =>
      wpAny (model X.prog X.w) X.A (handleBy u X.env [.ExceptHandler (some (.Name x np)) (some n) (b₀ :: suite) pos']) (SP X pins D) X.xe s₃) X.xe s₂) X.xe s := by
  have hfr : X.A.frames = some (X.env :: X.outer) := by rw [ok.frames, hs]
  obtain ⟨a, B, sI, pins1, σ1, H1, cls, d, rfl, J0, nb, up, sky, na, os, ag, b, hb, yes, no⟩ := xx
  have J : Inv X pins σ1 H1 sI := J0.ofTry ok
  refine Sky.land Zc.steady hfr hf (by rw [← hs]; exact sky) fun h3 fl3 up3 => ?_
  have L3 : Inv X pins σ1 H1 { s with heap := h3 } := J.landed nb fl3.1 (up.trans up3) os ag
  obtain ⟨o3, v3, e3, z3, d3⟩ := fl3.there
  have nfr : a ∉ frs (X.env :: X.outer) := no_frame fl3.2.2.1 e3 d3
  have nL : a ≠ X.env.locals := fun z => nfr (List.mem_filterMap.mpr ⟨X.env, List.mem_cons_self, by rw [hf, z]⟩)
  have nF : a ∉ X.fs := fun hm => let ⟨e, he, q⟩ := List.mem_filterMap.mp hm; nfr (List.mem_filterMap.mpr ⟨e, List.mem_cons_of_mem _ he, q⟩)
  obtain ⟨n0, np1⟩ := air_new J hex nb fl3.2.1 (by rw [hs]; exact nfr) nL nF
  have T3 := L3.suite e3 d3 na nL nF
  refine wpAny_handleBy_cons (codeAny_handlers_test ?_) (by intro q; cases q)
  have lt3 : PySem.W.Looks (model X.prog X.w) h3 (typeOf (.ref a)) cls := fun _ _ _ _ k q => wpAny_typeOf_ref (k _ _ e3) (by rw [z3.1]; exact q)
  have m3 := PySem.W.exm_one (M := model X.prog X.w) L3.kIn lt3 hb
  have nm : ∀ {Q : Value → Shared → Prop} {E : Value → Shared → Prop}, Q c { s with heap := h3 } → wpAny (model X.prog X.w) (X.A.mark (some (.ref a))) (eval (.Name x np) X.env) Q E { s with heap := h3 } := fun q => by
    obtain ⟨g1, g2, g3 | ⟨g3, g4, g5⟩⟩ := hc
    · exact ld_glob (X := X.suite a ((a, o3) :: (X.pn ++ pins))) T3 g1 g3 q g2
    · exact ld_blt (X := X.suite a ((a, o3) :: (X.pn ++ pins))) T3 g1 g3 g4 q g5 g2
  refine nm (m3.here ?_)
  cases b with
  | true =>
    refine codeAny_handlers_suite_as (HandSPX.lands_againZ fl3 fun h4 fl4 up4 => ?_)
    have L4 : Inv X pins σ1 H1 { s with heap := h4 } := J.landed nb fl4.1 ((up.trans up3).trans up4) os ag
    obtain ⟨o4, v4, e4, z4, d4⟩ := fl4.there
    refine store_ok (X := X.suite a ((a, o4) :: (X.pn ++ pins))) (v := .ref a) (L4.suite e4 d4 na nL nF) hN hi (.inl hln) rfl (fun s5 T5 => ?_) (.inr hln)
    refine wpAny_mono ((hsu a o4 cls d (X.pn ++ pins) z4 ⟨_, d4⟩).run [] s5 _ H1 _ T5 (yes rfl a na)) (fun f s6 sp => ?_) fun _ _ z => z.elim
    cases f with
    | next =>
      obtain ⟨_, _, T6, q⟩ := sp
      exact suite_end T6 ok z4 d4 n0 nL np1 hN hi hln fun s7 T7 => ⟨_, _, T7, q⟩
    | brk =>
      obtain ⟨_, _, T6, q⟩ := sp
      exact suite_end T6 ok z4 d4 n0 nL np1 hN hi hln fun s7 T7 => ⟨_, _, T7, q⟩
    | cont =>
      obtain ⟨_, _, T6, q⟩ := sp
      exact suite_end T6 ok z4 d4 n0 nL np1 hN hi hln fun s7 T7 => ⟨_, _, T7, q⟩
    | ret w =>
      obtain ⟨_, _, _, T6, r6, q⟩ := sp
      exact suite_end T6 ok z4 d4 n0 nL np1 hN hi hln fun s7 T7 => ⟨_, _, _, T7, r6, q⟩
  | false =>
    show wpAny _ X.A (handleBy (.ref a) X.env []) _ _ _
    refine wpAny_handleBy_nil ?_
    obtain ⟨_, _, _, oe, fv, T, oT, tsx, he, hz, hd, h1, hr⟩ := id fl3
    unfold PySem.passOn
    refine wpAny_bind (wpAny_field he hd h1 ?_)
    rw [if_neg (by simp)]
    have goes : wpAny (model X.prog X.w) X.A (setFlight (.ref a) X.env.frame) (fun _ s4 => wpAny (model X.prog X.w) X.A (throw (.ref a) : Sem Flow) (SP X pins D) X.xe s4) X.xe { s with heap := h3 } := by
      rw [hf]
      exact HandSPX.setFlight_upZ fl3 fun h4 held up4 => wpAny_throw (tk _ _ ⟨a, B, sI, pins, σ1, H1, cls, d, rfl, J, nb, (up.trans up3).trans up4, .inr (.inr (by rw [hs]; exact held)), na, os, ag, no rfl⟩)
    first
      | exact wpAny_bind (wpAny_pure (wpAny_bind goes))
      | exact wpAny_bind goes
/-- try: body / except x as n: suite, the error tracked behind it -/
theorem ps_tryT (hs : X.stack = X.env :: X.outer) (hf : X.env.frame = some X.env.locals) (hN : X.N.Nodup) (hi : X.N[i]? = some n) (hln : X.env.kindOf n = some .local) (hc : Names X x c) (tk : Takes X Wout) (hex : X.ex = [])
    (hb : ∀ (W : WX) (pn : List (Addr × Obj)) (xe : Value → Shared → Prop), Takes (X.tr pn xe) W → PassesOwn (model X.prog X.w) X.A X.env xe → PSs (X.tr pn xe) body (tb W))
    (hsu : ∀ (a : Addr) (oe : Obj) (cls : Value) (d : Option Addr) (pn : List (Addr × Obj)), Zc cls d oe → (∃ vs, oe.data = .fields vs) → PSs (X.suite a ((a, oe) :: pn)) (b₀ :: suite) (ts a cls d)) :
    PS X (.Try body [.ExceptHandler (some (.Name x np)) (some n) (b₀ :: suite) pos'] [] [] pos) (fun D σ H => tb (wTrk X.K c i ts Wout D) D σ H) := by
  refine ⟨fun pins s σ H D I h => wpAny_Try_except ?_⟩
  have ok := I.ok
  have xe : Value → Shared → Prop := X.xe
  refine wpAny_mono ((hb (wTrk X.K c i ts Wout D) (X.pn ++ pins) (fun e s₁ => wpAny (model X.prog X.w) X.A (noteFrame e X.env) (fun _ s₂ => wpAny (model X.prog X.w) X.A (setFlight e none) (fun _ s₃ =>
    wpAny (model X.prog X.w) X.A (handleBy e X.env [.ExceptHandler (some (.Name x np)) (some n) (b₀ :: suite) pos']) (SP X pins D) X.xe s₃) X.xe s₂) X.xe s₁) (fun u s' xx => clause_takes hs hf hN hi hln hc tk hex hsu ok ?_) PassesOwn.looking).run [] s σ H D (I.toTry _) h) (fun f s1 sp => ?_) fun _ _ q => q
  · obtain ⟨a, B, sI, p1, σ1, H1, cls, d, r1, J0, rest⟩ := xx
    exact ⟨a, B, sI, p1, σ1, H1, cls, d, r1, ⟨J0.ok.ofTry.toTry _ _, J0.os, J0.bare, J0.base, J0.loc, J0.cell, J0.free, J0.freeC, J0.pin, J0.hok, J0.len⟩, rest⟩
  · cases f with
    | next => exact let ⟨σ1, H1, J1, q⟩ := sp; wpAny_execs_nil ⟨σ1, H1, J1.ofTry ok, q⟩
    | brk => exact let ⟨σ1, H1, J1, q⟩ := sp; ⟨σ1, H1, J1.ofTry ok, q⟩
    | cont => exact let ⟨σ1, H1, J1, q⟩ := sp; ⟨σ1, H1, J1.ofTry ok, q⟩
    | ret w => exact let ⟨v, σ1, H1, J1, r, q⟩ := sp; ⟨v, σ1, H1, J1.ofTry ok, r, q⟩
/-- .. the reading by its name -/
def tTryT (K : Fg) (c : Value) (i j : Nat) (tb : WX → TS) : TS := fun D σ H => tb (wTrk K c i (fun _ _ _ => tAsg (tVar i) (gName j)) (fun _ _ _ _ => False) D) D σ H
theorem ps_tryK (K : Fg) {j : Nat} (hK : X.K = K) (hs : X.stack = X.env :: X.outer) (hf : X.env.frame = some X.env.locals) (hN : X.N.Nodup) (hi : X.N[i]? = some n) (hln : X.env.kindOf n = some .local) (hc : Names X x c) (tk : Takes X (fun _ _ _ _ => False)) (hex : X.ex = [])
    (hb : ∀ (W : WX) (pn : List (Addr × Obj)) (xe : Value → Shared → Prop), Takes (X.tr pn xe) W → PassesOwn (model X.prog X.w) X.A X.env xe → PSs (X.tr pn xe) body (tb W))
    (hsu : ∀ (a : Addr) (oe : Obj) (cls : Value) (d : Option Addr) (pn : List (Addr × Obj)), Zc cls d oe → (∃ vs, oe.data = .fields vs) → PSs (X.suite a ((a, oe) :: pn)) (b₀ :: suite) (tAsg (tVar i) (gName j))) :
    PS X (.Try body [.ExceptHandler (some (.Name x np)) (some n) (b₀ :: suite) pos'] [] [] pos) (tTryT K c i j tb) := by
  subst hK
  exact ps_tryT (ts := fun _ _ _ => tAsg (tVar i) (gName j)) (Wout := fun _ _ _ _ => False) hs hf hN hi hln hc tk hex hb hsu
end
end Rf

/-! ### errors: mirrors in Except -/
namespace Rf
open PySem PySem.Spec PyProof.Rows L2
open Rep (rp)
/-- an error: its class's name, its fields -/
structure Exn where
  c : PySem.Str
  fs : List (PySem.Str × V)
instance : Inhabited Exn := ⟨⟨default, []⟩⟩
/-- the class and the dict of an error that stands for e -/
def XOk (K : Fg) (F : Hp) (e : Exn) (cls : Value) (d : Option Addr) : Prop := cls = .ref (He.ga K e.c) ∧ ((e.fs = [] ∧ d = none) ∨ ∃ dd, d = some dd ∧ F dd = some (.xd e.fs) ∧ e.fs ≠ [])
theorem XOk.le {K : Fg} {F F' : Hp} {e : Exn} {cls : Value} {d : Option Addr} (l : Le F F') (h : XOk K F e cls d) : XOk K F' e cls d :=
  ⟨h.1, h.2.imp id fun ⟨dd, e1, e2, e3⟩ => ⟨dd, e1, l.at_ e2 (fun _ z => nomatch z) (fun _ _ z => nomatch z), e3⟩⟩
instance : Rep Exn := ⟨fun K F e v => exists a cls d, v = .ref a ∧ F a = some (Cgt cls d a) ∧ XOk K F e cls d, fun l ⟨a, cls, d, h1, h2, h3⟩ => ⟨a, cls, d, h1, l.ext h2, h3.le l⟩⟩
instance : Nn Exn := ⟨fun ⟨_, _, _, e, _⟩ z => by rw [e] at z; cases z⟩
theorem nf_ {T : TS} {D : Ends} {σ σ' : St} {H : Hp} (e : σ = σ') (h : T D σ' H) : T D σ H := e ▸ h
@[irreducible] def lx {α β : Type} (r : Except Exn α) (k : α -> Except Exn β) : Except Exn β := match r with
  | .ok y => k y
  | .error e => .error e
theorem lx_ok {α β : Type} (y : α) (k : α -> Except Exn β) : lx (.ok y) k = k y := by unfold lx; rfl
theorem lx_er {α β : Type} (e : Exn) (k : α -> Except Exn β) : lx (.error e) k = .error e := by unfold lx; rfl
theorem q_lx {α β : Type} {P : Except Exn β -> Prop} {r : Except Exn α} {k : α -> Except Exn β} {G : Prop} (hP : P (lx r k)) (ok : forall y, r = .ok y -> P (k y) -> G) (er : forall e, r = .error e -> P (.error e) -> G) : G := by
  cases h : r with
  | ok y => rw [h, lx_ok] at hP; exact ok y h hP
  | error e => rw [h, lx_er] at hP; exact er e h hP
def RetX [Rep β] (K : Fg) (Z : Addr -> Prop) (F0 H0 : Hp) (Q : VK) (E : XK) : Except Exn β -> Prop
  | .ok y => Ret K Z F0 H0 Q y
  | .error e => forall F' H' cls d, GrZ Z F0 H0 F' H' -> XOk K F' e cls d -> E cls d H'
def RetXL [Rep β] (K : Fg) (Z : Addr -> Prop) (F0 H0 : Hp) (Q : VK) (E : XK) : Except Exn (List β) -> Prop
  | .ok y => RetL K Z F0 H0 Q y
  | .error e => forall F' H' cls d, GrZ Z F0 H0 F' H' -> XOk K F' e cls d -> E cls d H'
theorem retx_ok [Rep β] {K : Fg} {Z : Addr -> Prop} {F0 H0 : Hp} {Q : VK} {E : XK} {y : β} (h : RetX K Z F0 H0 Q E (.ok y)) : Ret K Z F0 H0 Q y := h
theorem retxL_ok [Rep β] {K : Fg} {Z : Addr -> Prop} {F0 H0 : Hp} {Q : VK} {E : XK} {y : List β} (h : RetXL K Z F0 H0 Q E (.ok y)) : RetL K Z F0 H0 Q y := h
/-- what the top says of an error's class without an __init__ of its own -/
structure Xc (K : Fg) (mg : PySem.Str → Option Value) (c : PySem.Str) : Prop where
  q : PySem.W.excIn K (He.ga K c) He.veBase "ValueError.__new__" = true
  g : mg c = some (.ref (He.ga K c))
  k : PySem.W.keepIn K (.ref (He.ga K c)) = true
  r1 : PySem.W.subIn K (.ref (He.ga K c)) (.type "BaseException") = some true
  r2 : PySem.W.typeIn K (.ref (He.ga K c)) = some (.type "type")
/-- .. of a class in an except clause or in isinstance -/
structure Xg (K : Fg) (mg : PySem.Str → Option Value) (c : PySem.Str) : Prop where
  g : mg c = some (.ref (He.ga K c))
/-- a Bool that tells ExcC -/
def excC (K : Fg) (D : Addr) : Bool := decide (PySem.W.findIn K (.ref D) "__getattribute__" = some (some (.builtin "BaseException.__getattribute__"))) && (decide (PySem.W.findIn K (.ref D) "__getattr__" = some none) && (decide (PySem.W.subIn K (.ref D) (.type "BaseException") = some true) && (PySem.W.hasDictIn K D && (decide (PySem.W.findIn K (.ref D) "__class__" = some (some (.builtin "object.__class__"))) &&
  (decide (PySem.W.specialIn K (.builtin "object.__class__") "__get__" = some (some (.builtin "getset_descriptor.__get__"))) && (decide (PySem.W.takesIn K (.builtin "object.__class__") = some true) && decide (PySem.W.mroIn K D (.type "object") = some true)))))))
theorem excC_ok {K : Fg} {D : Addr} (h : excC K D = true) : ExcC K D := by
  unfold excC at h
  simp only [Bool.and_eq_true, decide_eq_true_eq] at h
  obtain ⟨h1, h2, h3, h4, h5, h6, h7, h8⟩ := h
  exact ⟨h1, h2, h3, h4, h5, h6, h7, h8⟩
section
variable {K : Fg} {Z : Addr -> Prop} {σ : St} {F H F0 H0 F1 H1 F2 H2 : Hp} {te ta tb tc : TE} {tt : TT} {t1 t2 u : TS} {D : Ends} {i j l : Nat} {p q : Addr} {W : WX} {e : Exn}
/-- a promise that may end in an error -/
def SpVX [Rep β] (K : Fg) (sp : Sp) (P : Hp -> List V -> Prop) (r : Except Exn β) : Prop := forall F H vs Q E, Same F H -> P F vs -> (forall y, r = .ok y -> forall F' H' v, Gr F H F' H' -> rp K F' y v -> Q v H') -> (forall e, r = .error e -> forall F' H' cls d, Gr F H F' H' -> XOk K F' e cls d -> E cls d H') -> sp vs H Q E
def SpLX [Rep β] (K : Fg) (sp : Sp) (P : Hp -> List V -> Prop) (r : Except Exn (List β)) : Prop := forall F H vs Q E, Same F H -> P F vs -> (forall y, r = .ok y -> forall F' H' p, Gr F H F' H' -> H p = none -> MutL K F' H' p y -> Q (.ref p) H') -> (forall e, r = .error e -> forall F' H' cls d, Gr F H F' H' -> XOk K F' e cls d -> E cls d H') -> sp vs H Q E
/-- a reading that ends in the error e -/
def TvE (K : Fg) (te : TE) (σ : St) (F H : Hp) (e : Exn) (W : WX) : Prop := forall F1 H1, Gr F H F1 H1 -> (forall F2 H2 cls d, Gr F1 H1 F2 H2 -> XOk K F2 e cls d -> W cls d σ H2) -> forall Q, te σ H1 Q
theorem tv_callX [Rep β] {y : β} {r : Except Exn β} {t : TA} {sp : Sp} {E : St -> XK} {P : Hp -> List V -> Prop} (h : TvA t σ F H P) (hs : SpVX K sp P r) (hr : r = .ok y) : Tv K (tCallS sp E t) σ F H y := fun F1 H1 g Q q =>
  h F1 H1 g _ fun F2 H2 vs g2 p => hs F2 H2 vs Q _ g2.sub p (fun z hz F3 H3 v g3 rv => by rw [hr] at hz; cases hz; exact q F3 H3 v (g2.trans g3) rv) fun e he => by rw [hr] at he; cases he
theorem tl_callX [Rep β] {ys : List β} {r : Except Exn (List β)} {t : TA} {sp : Sp} {E : St -> XK} {P : Hp -> List V -> Prop} (h : TvA t σ F H P) (hs : SpLX K sp P r) (hr : r = .ok ys) : TvL K (tCallS sp E t) σ F H ys := fun F1 H1 g Q q =>
  h F1 H1 g _ fun F2 H2 vs g2 p => hs F2 H2 vs Q _ g2.sub p (fun z hz F3 H3 v g3 n m => by rw [hr] at hz; cases hz; exact q F3 H3 v (g2.trans g3) (none_of g2.keep n) m) fun e he => by rw [hr] at he; cases he
theorem te_call [Rep β] {r : Except Exn β} {t : TA} {sp : Sp} {P : Hp -> List V -> Prop} (h : TvA t σ F H P) (hs : SpVX K sp P r) (hr : r = .error e) : TvE K (tCallS sp (WE W) t) σ F H e W := fun F1 H1 g k Q =>
  h F1 H1 g _ fun F2 H2 vs g2 p => hs F2 H2 vs Q _ g2.sub p (fun z hz => by rw [hr] at hz; cases hz) fun e' he F3 H3 cls d g3 x => by rw [hr] at he; cases he; exact k F3 H3 cls d (g2.trans g3) x
theorem te_callL [Rep β] {r : Except Exn (List β)} {t : TA} {sp : Sp} {P : Hp -> List V -> Prop} (h : TvA t σ F H P) (hs : SpLX K sp P r) (hr : r = .error e) : TvE K (tCallS sp (WE W) t) σ F H e W := fun F1 H1 g k Q =>
  h F1 H1 g _ fun F2 H2 vs g2 p => hs F2 H2 vs Q _ g2.sub p (fun z hz => by rw [hr] at hz; cases hz) fun e' he F3 H3 cls d g3 x => by rw [hr] at he; cases he; exact k F3 H3 cls d (g2.trans g3) x
/-- the error goes on outwards -/
theorem te_lc {g : TG} {vs : List Nat} (h : TvE K ta σ F H e W) : TvE K (tLc (iList K ta) g tt te vs) σ F H e W := fun F1 H1 gr k Q => h F1 H1 gr k _
theorem q_setE {g : TG} (s : Same F H) (h : TvE K te σ F H e W) (k : forall F2 H2 cls d, Gr F H F2 H2 -> XOk K F2 e cls d -> W cls d σ H2) : tSeq (tAsg te g) u D σ H := h F H (Gr.refl s) k _
theorem q_dropE (s : Same F H) (h : TvE K te σ F H e W) (k : forall F2 H2 cls d, Gr F H F2 H2 -> XOk K F2 e cls d -> W cls d σ H2) : tSeq (tDrop te) u D σ H := h F H (Gr.refl s) k _
theorem q_retE (s : Same F H) (h : TvE K te σ F H e W) (k : forall F2 H2 cls d, Gr F H F2 H2 -> XOk K F2 e cls d -> W cls d σ H2) : tSeq (tRet te) u D σ H := h F H (Gr.refl s) k _
theorem q_forE {g : TG} {t : TS} (s : Same F H) (h : TvE K te σ F H e W) (k : forall F2 H2 cls d, Gr F H F2 H2 -> XOk K F2 e cls d -> W cls d σ H2) : tSeq (tFor (iList K te) g t) u D σ H := h F H (Gr.refl s) k _
/-- raise C('..'), C without an __init__ of its own -/
theorem q_raise {c : PySem.Str} (s : Same F H) (k : forall F2 H2 cls d, Gr F H F2 H2 -> XOk K F2 ⟨c, []⟩ cls d -> W cls d σ H2) : tSeq (fun _ σ H => (fun _ H Q => Q (.ref (He.ga K c)) none H : St -> Hp -> XK -> Prop) σ H fun cls d H' => W cls d σ H') u D σ H :=
  k F H _ _ (Gr.refl s) ⟨rfl, .inl ⟨rfl, rfl⟩⟩
/-- try: .. except c as n: x = n -/
def tryC {S : Type} (rb : Except Exn S) (s0 : S) : Option Exn × S := match rb with
  | .ok s => (none, s)
  | .error e => (some e, s0)
theorem q_tryC {S β : Type} {P : β -> Prop} {rb : Except Exn S} {s0 : S} {k : Option Exn × S -> β} {c : Value} {tb : WX -> TS} (hP : P (lt (tryC rb s0) k)) (M : Hp -> Hp -> St -> Option Exn × S -> Prop) (ME : Hp -> Hp -> St -> Prop)
    (hx : forall e, rb = .error e -> PySem.W.exmOne K (.ref (He.ga K e.c)) c = some true)
    (hb : forall (N : St -> Hp -> Prop) (W : WX) (P' : Except Exn S -> Prop), P' rb -> (forall s, P' (.ok s) -> forall F2 H2 σ2, Same F F2 -> M F2 H2 σ2 (none, s) -> N σ2 H2) -> (forall e, P' (.error e) -> forall F2 H2 σ2 cls d, Same F F2 -> XOk K F2 e cls d -> ME F2 H2 σ2 -> W cls d σ2 H2) -> tb W { D with nx := N } σ H)
    (hw : forall e F2 H2 σ2 cls d, rb = .error e -> Same F F2 -> XOk K F2 e cls d -> ME F2 H2 σ2 -> i < σ2.length ∧ Same F2 H2 ∧ forall a, H2 a = none -> M (upd F2 a (Cgt cls d a)) (upd H2 a (Cgt cls d a)) (((σ2.set i (some (.ref a))).set j (some (.ref a))).set i none) (some e, s0))
    (nxt : forall st F2 H2 σ2, st = tryC rb s0 -> Same F F2 -> M F2 H2 σ2 st -> P (k st) -> u D σ2 H2) :
    tSeq (tTryT K c i j tb) u D σ H := by
  have hk := p_lt P hP
  refine hb (u D) _ (fun r => r = rb) rfl (fun s hs F2 H2 σ2 q m => ?_) (fun e he F2 H2 σ2 cls d q x m => ?_)
  · have e1 : tryC rb s0 = (none, s) := by rw [← hs]; rfl
    rw [e1] at hk
    exact nxt _ F2 H2 σ2 e1.symm q m hk
  · have e1 : tryC rb s0 = (some e, s0) := by rw [← he]; rfl
    obtain ⟨h1, h2, h3⟩ := hw e F2 H2 σ2 cls d he.symm q x m
    refine ⟨true, by rw [x.1]; exact hx e he.symm, fun _ a ha => ⟨.ref a, List.getElem?_set_self h1, ?_⟩, fun z => nomatch z⟩
    rw [e1] at hk
    exact nxt _ _ _ _ e1.symm (q.trans (same_new (none_of h2 ha))) (h3 a ha) hk
end
/-! ### isinstance of an error -/
/-- isinstance(e, c), e a tracked error without a dict -/
def rIsC (K : Fg) : List V -> Hp -> VK -> Prop := fun xs H Q => ∃ (a D : Addr) (c : V) (cv : Value) (b : Bool), xs = [.ref a, c] ∧ H a = some (Cgt (.ref D) none a) ∧ ExcC K D ∧ ClsV c cv ∧ PySem.W.kitOne K (.ref D) cv = some b ∧ Q (.bl b) H
theorem call_isC {X : Cx} (K : Fg) (h : X.K = K := by rfl) : CallR X (.builtin "isinstance") (rIsC K) := by
  subst h
  intro pins s σ H xs us Q I r h
  obtain ⟨a, D, c, cv, b, rfl, ha, C, hc, e, q⟩ := h
  obtain ⟨u1, u2, rfl, r1, r2⟩ := vals2 r
  cases (show u1 = Value.ref a from r1)
  have e2 := hc.eq r2
  subst e2
  obtain ⟨⟨oe, fl, hget, hz, hv⟩, _, _⟩ := (show ObjOk X.prog X.w H s.heap a (Cgt (.ref D) none a) from I.hok a _ ha)
  have J : PySem.W.InstAt s.heap a oe D none := by
    obtain ⟨oc, od, oda, osl⟩ := oe
    obtain ⟨h1, h2⟩ := hz
    dsimp only at h1 h2 hv
    subst h1 h2 hv
    exact ⟨hget, rfl, rfl, trivial⟩
  exact PySem.W.kia_one (PySem.W.handS_kitx_exc C.hg C.hk C.hs C.hd C.ha C.hn C.ht C.hm) I.kIn J e (fun z => nomatch z) fun tk => ⟨.bl b, H, I.kept (t' := tk) fun _ _ z => z, rfl, q⟩
section
variable {K : Fg} {σ : St} {F H : Hp} {ta tb : TE}
theorem tv_isC {e : Exn} {n : PySem.Str} {c : V} {cv : Value} {b : Bool} (h : Tv K ta σ H H e) (he : e = ⟨n, []⟩) (hc : ClsV c cv) (hC : ExcC K (He.ga K n)) (hk : PySem.W.kitOne K (.ref (He.ga K n)) cv = some b) : Tv K (tCB (rIsC K) (tCons ta (tCons (tC c) tNil))) σ H H b := by
  subst he
  exact fun F1 H1 g Q q =>
  h F1 H1 g _ fun F2 H2 v g2 ⟨a, cls, d, e1, e2, e3, e4⟩ => by
    rcases e4 with ⟨_, e4⟩ | ⟨dd, e4, e5, e6⟩
    · subst e1 e3 e4
      exact ⟨a, _, c, cv, b, rfl, g2.sub a _ e2, hC, hc, hk, q F2 H2 _ g2 rfl⟩
    · exact (e6 rfl).elim
end
end Rf

/-! ### values of many kinds; x is True; xs[i] = v; narrowing -/
namespace Rf
open PySem PySem.Spec PyProof.Rows L2
open Rep (rp)
inductive Dy where
  | non | bl (b : Bool) | int (i : Int) | str (z : PySem.Str) | lst (xs : List Int)
  deriving DecidableEq
instance : Inhabited Dy := ⟨.non⟩
instance : Rep Dy := ⟨fun K F x v => match x with
  | .non => v = .non
  | .bl b => v = .bl b
  | .int i => v = .int i
  | .str z => v = .str z
  | .lst xs => rp K F xs v, fun {K F F' x v} l h => by
  cases x with
  | lst xs => exact Rep.mono (x := xs) l h
  | _ => exact h⟩
def Dy.ty : Dy → String
  | .non => "NoneType"
  | .bl _ => "bool"
  | .int _ => "int"
  | .str _ => "str"
  | .lst _ => "list"
/-- isinstance(x, c) -/
def dyIsT (c t : String) : Bool := decide (c = t) || (decide (t = "bool") && decide (c = "int"))
def dyIs (c : String) (x : Dy) : Bool := dyIsT c x.ty
def dI : Dy → Int
  | .int i => i
  | _ => 0
def isI : Dy → Bool
  | .int _ => true
  | _ => false
section
variable {K : Fg} {Z : Addr -> Prop} {σ : St} {F H F0 H0 F1 H1 F2 H2 : Hp} {te ta tb tc to : TE} {tt : TT} {t1 t2 u : TS} {D : Ends} {i j l : Nat} {p q : Addr} {v : V}
theorem tv_dyI {n : Int} (h : Tv K te σ F H n) : Tv K te σ F H (Dy.int n) := fun F1 H1 g Q q => h F1 H1 g Q fun F2 H2 v g2 r => q F2 H2 v g2 r
theorem tv_dyB {b : Bool} (h : Tv K te σ F H b) : Tv K te σ F H (Dy.bl b) := fun F1 H1 g Q q => h F1 H1 g Q fun F2 H2 v g2 r => q F2 H2 v g2 r
theorem tv_dyN {x : Unit} (h : Tv K te σ F H x) : Tv K te σ F H Dy.non := fun F1 H1 g Q q => h F1 H1 g Q fun F2 H2 v g2 r => q F2 H2 v g2 r
theorem tv_dyS {z : PySem.Str} (h : Tv K te σ F H z) : Tv K te σ F H (Dy.str z) := fun F1 H1 g Q q => h F1 H1 g Q fun F2 H2 v g2 r => q F2 H2 v g2 r
theorem tv_dyLs {xs : List Int} (h : Tv K te σ F H xs) : Tv K te σ F H (Dy.lst xs) := fun F1 H1 g Q q => h F1 H1 g Q fun F2 H2 v g2 r => q F2 H2 v g2 r
theorem rps_dy {F : Hp} : forall {xs : List Int} {vs : List V}, Rps K F xs vs -> Rps K F (xs.map Dy.int) vs
  | _, _, .nil => .nil
  | _, _, .cons r t => .cons r (rps_dy t)
theorem rp_dyL {xs : List Int} (h : rp K F xs v) : rp K F (xs.map Dy.int) v := let ⟨a, vs, e, q, r⟩ := h; ⟨a, vs, e, q, rps_dy r⟩
theorem tv_dyL {xs : List Int} (h : Tv K te σ F H xs) : Tv K te σ F H (xs.map Dy.int) := fun F1 H1 g Q q => h F1 H1 g Q fun F2 H2 v g2 r => q F2 H2 v g2 (rp_dyL r)
theorem tl_dyM {xs : List Int} (h : TvL K te σ F H xs) : TvL K te σ F H (xs.map Dy.int) := fun F1 H1 g Q q => h F1 H1 g Q fun F2 H2 p g2 n m => q F2 H2 p g2 n (let ⟨f, vs, e, r⟩ := m; ⟨f, vs, e, rps_dy r⟩)
theorem rp_dI {x : Dy} (hi : isI x = true) (h : rp K F x v) : v = .int (dI x) := by
  cases x with
  | int n => exact h
  | _ => cases hi
theorem tv_dI {x : Dy} (hi : isI x = true) (h : Tv K te σ H H x) : Tv K te σ H H (dI x) := fun F1 H1 g Q q => h F1 H1 g Q fun F2 H2 v g2 r => q F2 H2 v g2 (rp_dI hi r)
theorem dyTy {x : Dy} (h : rp K F x v) (s : Same F H) : TyX K H v (.type x.ty) := by
  cases x with
  | non => exact Typ.is (n := "NoneType") (α := Unit) (x := ()) h s
  | bl b => exact Typ.is (n := "bool") (x := b) h s
  | int n => exact Typ.is (n := "int") (x := n) h s
  | str z => exact Typ.is (n := "str") (x := z) h s
  | lst xs => exact Typ.is (n := "list") (x := xs) h s
theorem tv_isiDy {x : Dy} {c : String} (h : Tv K ta σ H H x) (e : kitB x.ty c = some (dyIs c x)) : Tv K (tCB (rIsi K) (tCons ta (tCons (tC (.ty c)) tNil))) σ H H (dyIs c x) := fun F1 H1 g Q q =>
  h F1 H1 g _ fun F2 H2 v g2 r => ⟨v, .ty c, .type x.ty, .type c, dyIs c x, rfl, .ty c, dyTy r g2.sub, kit_ty e, q F2 H2 _ g2 rfl⟩
theorem kit_dy (c : String) (h : ∀ t ∈ ["NoneType", "bool", "int", "str", "list"], kitB t c = some (dyIsT c t)) (x : Dy) : kitB x.ty c = some (dyIs c x) := by
  refine h x.ty ?_
  cases x <;> simp [Dy.ty]
theorem kit_int (x : Dy) : kitB x.ty "int" = some (dyIs "int" x) := kit_dy "int" (by decide +kernel) x
theorem kit_bool (x : Dy) : kitB x.ty "bool" = some (dyIs "bool" x) := kit_dy "bool" (by decide +kernel) x
theorem kit_str (x : Dy) : kitB x.ty "str" = some (dyIs "str" x) := kit_dy "str" (by decide +kernel) x
theorem kit_list (x : Dy) : kitB x.ty "list" = some (dyIs "list" x) := kit_dy "list" (by decide +kernel) x
theorem dyI_is {x : Dy} (h1 : dyIs "int" x = true) (h2 : dyIs "bool" x = false) : isI x = true := by
  cases x with
  | int n => rfl
  | non => exact absurd (show dyIsT "int" "NoneType" = true from h1) (by decide)
  | bl b => exact absurd (show dyIsT "bool" "bool" = false from h2) (by decide)
  | str z => exact absurd (show dyIsT "int" "str" = true from h1) (by decide)
  | lst xs => exact absurd (show dyIsT "int" "list" = true from h1) (by decide)
/-- x is True, x None or a truth -/
def rIsB (neg : Bool) : R2 := fun x y H Q => ∃ d : Bool, y = .bl d ∧ (x = .non ∨ ∃ c : Bool, x = .bl c) ∧ Q (.bl (if neg then !decide (x = y) else decide (x = y))) H
theorem op_isB {X : Cx} : OpR X (compareOp .Is) (rIsB false) := by
  intro pins s σ H x y v w Q I rx ry h
  obtain ⟨d, rfl, hx, q⟩ := h
  cases ry
  rcases hx with rfl | ⟨c, rfl⟩
  · cases rx
    exact wpAny_pure (fin_bl I q (by cases d <;> rfl))
  · cases rx
    exact is_bool (fin_bl I q (by cases c <;> cases d <;> rfl))
theorem op_notB {X : Cx} : OpR X (compareOp .IsNot) (rIsB true) := by
  intro pins s σ H x y v w Q I rx ry h
  obtain ⟨d, rfl, hx, q⟩ := h
  cases ry
  rcases hx with rfl | ⟨c, rfl⟩
  · cases rx
    exact wpAny_pure (fin_bl I q (by cases d <;> rfl))
  · cases rx
    exact isnot_bool (fin_bl I q (by cases c <;> cases d <;> rfl))
theorem op2_isB {x : Option Bool} {d : Bool} : Op2 K (rIsB false) x d (decide (x = some d)) := fun F H v w s r1 r2 Q q => by
  cases x with
  | none => cases (show v = .non from r1); cases (show w = .bl d from r2); exact ⟨d, rfl, .inl rfl, q F H _ (Gr.refl s) (by cases d <;> rfl)⟩
  | some c => cases (show v = .bl c from r1); cases (show w = .bl d from r2); exact ⟨d, rfl, .inr ⟨c, rfl⟩, q F H _ (Gr.refl s) (by cases c <;> cases d <;> rfl)⟩
theorem op2_notB {x : Option Bool} {d : Bool} : Op2 K (rIsB true) x d (!decide (x = some d)) := fun F H v w s r1 r2 Q q => by
  cases x with
  | none => cases (show v = .non from r1); cases (show w = .bl d from r2); exact ⟨d, rfl, .inl rfl, q F H _ (Gr.refl s) (by cases d <;> rfl)⟩
  | some c => cases (show v = .bl c from r1); cases (show w = .bl d from r2); exact ⟨d, rfl, .inr ⟨c, rfl⟩, q F H _ (Gr.refl s) (by cases c <;> cases d <;> rfl)⟩
/-- xs[n] = y -/
def setI {α : Type} (xs : List α) (n : Int) (y : α) : List α := xs.set (if 0 ≤ n then n else n + xs.length).toNat y
theorem ixN_of {m : Nat} {n : Int} (h : InB m n) : ixN m n = some (if 0 ≤ n then n else n + m).toNat := by
  obtain ⟨h1, h2⟩ := h
  unfold ixN
  by_cases h0 : 0 ≤ n
  · simp only [h0, h2, if_true]
  · simp only [h0, if_false]; rw [if_pos h1]
theorem rps_set [Rep α] {y : α} : forall (n : Nat) {xs : List α} {vs : List V}, Rps K F xs vs -> rp K F y v -> Rps K F (xs.set n y) (vs.set n v)
  | _, _, _, .nil, _ => .nil
  | 0, _, _, .cons _ t, h => .cons h t
  | n + 1, _, _, .cons r t, h => .cons r (rps_set n t h)
theorem q_setIx [Rep α] {β : Type} {P : β -> Prop} {xs : List α} {y : α} {n : Int} {k : List α -> β} (hP : P (lt (setI xs n y) k)) (s : Same F H) (m : MutL K F H p xs) (hi : σ[i]? = some (some (.ref p))) (he : Tv K te σ F H y) (hn : Tv K ta σ H H n) (h1 : InB xs.length n)
    (nxt : forall zs F1 H1, zs = setI xs n y -> Md p F H F1 H1 -> MutL K F1 H1 p zs -> P (k zs) -> u D σ H1) : tSeq (tAsg te (gSub (tVar i) ta rSetL)) u D σ H :=
  he F H (Gr.refl s) _ fun F2 H2 v g rv => ⟨.ref p, hi, hn H2 H2 (Gr.whole g.keep) _ fun F3 H3 w g3 rw' => by
    have g' : Gr F H F2 H3 := g.trans (Gr.up g.sub g3.keep)
    obtain ⟨f3, vs3, e3, r3⟩ := id (m.go g')
    refine ⟨p, vs3, n, _, rfl, by rw [show w = V.int n from rw'], e3, by rw [wk_len r3]; exact ixN_of h1, nxt _ F2 _ rfl (Md.of m g') ⟨f3, _, upd_same, rps_set _ r3 rv⟩ (p_lt P hP)⟩⟩
theorem setI_len {α : Type} (xs : List α) (n : Int) (y : α) : (setI xs n y).length = xs.length := by unfold setI; exact List.length_set ..
/-- the thing that is there -/
def gt {α : Type} [Inhabited α] (x : Option α) : α := x.getD default
theorem gt_some {α : Type} [Inhabited α] {x : Option α} (h : x.isNone = false) : x = some (gt x) := by cases x with | none => cases h | some y => rfl
theorem rp_gt [Rep α] [Inhabited α] {x : Option α} (h : x.isNone = false) (r : rp K F x v) : rp K F (gt x) v := by
  rw [gt_some h] at r
  exact r
theorem rp_eq [Rep α] {x y : α} (e : x = y) (r : rp K F x v) : rp K F y v := e ▸ r
theorem tryC_er {S : Type} {rb : Except Exn S} {s0 : S} {c : Option Exn} {u : S} {n : Exn} (h : (c, u) = tryC rb s0) (er : ∀ e, rb = .error e → e = n) (hc : c.isNone = false) : gt c = n := by
  cases rb with
  | ok y => cases h; cases hc
  | error e => cases h; exact er e rfl
end
end Rf

/-! ### cells: the objects that may change -/
namespace Rf
open PySem L2
open Rep (rp)
/-- what a cell holds; what of it stands for good stands in the frozen part -/
structure CP where
  p : Hp → HO → Prop
  up : ∀ {F F' : Hp} {o : HO}, Same F F' → p F o → p F' o
abbrev Cell := Addr × CP
abbrev ads (L : List Cell) : List Addr := L.map (·.1)
abbrev zn (L : List Cell) : Addr → Prop := fun a => a ∈ ads L
/-- cells at F, H -/
structure Cl (F H : Hp) (L : List Cell) : Prop where
  sub : Same F H
  nd : (ads L).Nodup
  ok : ∀ c ∈ L, F c.1 = none ∧ ∃ o, H c.1 = some o ∧ c.2.p F o
/-- .. within a def that began at F0, H0, whose caller's cells are Zd -/
structure Sg (Zd : Addr → Prop) (F0 H0 F H : Hp) (L : List Cell) : Prop where
  g : GrZ Zd F0 H0 F H
  al : ∀ c ∈ L, Zd c.1 ∨ H0 c.1 = none
  cl : Cl F H L
section
variable {K : Fg} {Zd : Addr → Prop} {F0 H0 F H F1 H1 : Hp} {L L' A B R : List Cell} {p q : Addr} {o : HO} {c : CP}
theorem Sg.s (M : Sg Zd F0 H0 F H L) : Same F H := M.cl.sub
theorem Cl.gr (M : Cl F H L) (g : Gr F H F1 H1) : Cl F1 H1 L := ⟨g.sub, M.nd, fun c h => by
  obtain ⟨f, o, e, r⟩ := M.ok c h
  exact ⟨(g.new c.1 o e).trans f, o, g.keep c.1 o e, c.2.up g.ex r⟩⟩
theorem Cl.perm (M : Cl F H L) (p : L.Perm L') : Cl F H L' := ⟨M.sub, (p.map (·.1)).nodup_iff.mp M.nd, fun c h => M.ok c (p.mem_iff.mpr h)⟩
theorem Cl.left (M : Cl F H (A ++ B)) : Cl F H A := ⟨M.sub, (List.nodup_append.mp (by simpa using M.nd)).1, fun c h => M.ok c (List.mem_append_left _ h)⟩
theorem Cl.right (M : Cl F H (A ++ B)) : Cl F H B := ⟨M.sub, (List.nodup_append.mp (by simpa using M.nd)).2.1, fun c h => M.ok c (List.mem_append_right _ h)⟩
theorem Cl.nil (s : Same F H) : Cl F H [] := ⟨s, .nil, fun _ h => nomatch h⟩
theorem Sg.gr (M : Sg Zd F0 H0 F H L) (g : Gr F H F1 H1) : Sg Zd F0 H0 F1 H1 L := ⟨M.g.then g, M.al, M.cl.gr g⟩
theorem Sg.grow (M : Sg Zd F0 H0 F H L) (e : Same H H1) : Sg Zd F0 H0 F H1 L := M.gr (Gr.up M.s e)
theorem Sg.perm (M : Sg Zd F0 H0 F H L) (p : L.Perm L') : Sg Zd F0 H0 F H L' := ⟨M.g, fun c h => M.al c (p.mem_iff.mpr h), M.cl.perm p⟩
theorem Sg.drop (M : Sg Zd F0 H0 F H (A ++ B)) : Sg Zd F0 H0 F H B := ⟨M.g, fun c h => M.al c (List.mem_append_right _ h), M.cl.right⟩
/-- what is not touched stands as it stood -/
theorem Cl.keepZ {Z : Addr → Prop} (M : Cl F H R) (g : GrZ Z F H F1 H1) (n : ∀ a ∈ ads R, ¬ Z a) : Cl F1 H1 R := ⟨g.sub, M.nd, fun c h => by
  obtain ⟨f, o, e, r⟩ := M.ok c h
  exact ⟨(g.new c.1 o e).trans f, o, g.keep c.1 o (n c.1 (List.mem_map_of_mem h)) e, c.2.up g.ex r⟩⟩
theorem Cl.join (a : Cl F H A) (b : Cl F H B) (d : ∀ x ∈ ads A, x ∉ ads B) : Cl F H (A ++ B) := ⟨a.sub, by
  rw [show ads (A ++ B) = ads A ++ ads B from List.map_append]
  exact List.nodup_append.mpr ⟨a.nd, b.nd, fun x hx y hy e => d x hx (e ▸ hy)⟩, fun c h => (List.mem_append.mp h).elim (a.ok c) (b.ok c)⟩
theorem ads_app : ads (A ++ B) = ads A ++ ads B := List.map_append
theorem Cl.apart (M : Cl F H (A ++ B)) : ∀ x ∈ ads A, x ∉ ads B := fun x hx hy => by
  have n := M.nd
  rw [ads_app, List.nodup_append] at n
  exact n.2.2 x hx x hy rfl
theorem Cl.at_ (M : Cl F H L) {x : Addr} (h : x ∈ ads L) : ∃ o, H x = some o := by
  obtain ⟨c, hc, rfl⟩ := List.mem_map.mp h
  obtain ⟨_, o, e, _⟩ := M.ok c hc
  exact ⟨o, e⟩
/-- a part changes (by a call, say), the rest stays -/
theorem Cl.foc (M : Cl F H L) (p : L.Perm (A ++ R)) {B : List Cell} (g : GrZ (zn A) F H F1 H1) (b : Cl F1 H1 B) (n : ∀ x ∈ ads B, x ∈ ads A ∨ H x = none) : Cl F1 H1 (B ++ R) := by
  have M' := M.perm p
  have r := M'.right.keepZ g fun a ha ha' => M'.apart a ha' ha
  refine b.join r fun x hx hy => ?_
  rcases n x hx with h | h
  · exact M'.apart x h hy
  · obtain ⟨o, e⟩ := M'.right.at_ hy
    rw [h] at e; cases e
theorem Sg.foc (M : Sg Zd F0 H0 F H L) (p : L.Perm (A ++ R)) {B : List Cell} (g : GrZ (zn A) F H F1 H1) (b : Cl F1 H1 B) (n : ∀ x ∈ ads B, x ∈ ads A ∨ H x = none) (p' : L'.Perm (B ++ R)) : Sg Zd F0 H0 F1 H1 L' := by
  have al : ∀ x ∈ ads A, Zd x ∨ H0 x = none := fun x hx => by
    obtain ⟨c, hc, rfl⟩ := List.mem_map.mp hx
    exact M.al c (p.mem_iff.mpr (List.mem_append_left _ hc))
  refine ⟨M.g.thenZ g al, fun c hc => ?_, (M.cl.foc p g b n).perm p'.symm⟩
  rcases List.mem_append.mp (p'.mem_iff.mp hc) with h | h
  · rcases n c.1 (List.mem_map_of_mem h) with h | h
    · exact al _ h
    · exact .inr (M.g.newIn h)
  · exact M.al c (p.mem_iff.mpr (List.mem_append_right _ h))
theorem Sg.part (M : Sg Zd F0 H0 F H L) (p : L.Perm (A ++ R)) : Cl F H A := (M.cl.perm p).left
/-- one cell changes -/
theorem grz_md (m : Md p F H F1 H1) (h : H p = some o) : GrZ (fun x => x = p) F H F1 H1 := by
  obtain ⟨f, H', g, o', rfl⟩ := m
  refine ⟨g.ex, fun a u n e => by rw [upd_ne n]; exact g.keep a u e, fun a u e => ?_, same_mut g.sub f, g.new⟩
  by_cases q : a = p
  · subst q; exact ⟨_, upd_same⟩
  · exact ⟨u, by rw [upd_ne q]; exact g.keep a u e⟩
theorem GrZ.wide {Z Z' : Addr → Prop} (g : GrZ Z F H F1 H1) (h : ∀ x, Z x → Z' x) : GrZ Z' F H F1 H1 := ⟨g.ex, fun a o n e => g.keep a o (fun z => n (h a z)) e, g.dom, g.sub, g.new⟩
theorem Cl.one (s : Same F H) (f : F p = none) (e : H p = some o) (r : c.p F o) : Cl F H [(p, c)] := ⟨s, by simp [ads], fun x hx => by
  rw [List.mem_singleton] at hx; subst hx; exact ⟨f, o, e, r⟩⟩
theorem Sg.cell (M : Sg Zd F0 H0 F H L) (p' : L.Perm ((p, c) :: R)) {c' : CP} {o' : HO} (m : Md p F H F1 H1) (e : H1 p = some o') (r : c'.p F1 o') (pl : L'.Perm ((p, c') :: R)) : Sg Zd F0 H0 F1 H1 L' := by
  obtain ⟨f, o, e0, _⟩ := M.cl.ok (p, c) (p'.mem_iff.mpr (List.mem_cons_self ..))
  exact M.foc (A := [(p, c)]) (R := R) p' ((grz_md m e0).wide fun x h => by simp [zn, ads, h]) (Cl.one m.sub m.fr e r) (fun x hx => .inl hx) pl
/-- a new cell -/
theorem Sg.add (M : Sg Zd F0 H0 F H L) (g : Gr F H F1 H1) (n : H p = none) (f : F1 p = none) (e : H1 p = some o) (r : c.p F1 o) (pl : L'.Perm ((p, c) :: L)) : Sg Zd F0 H0 F1 H1 L' := by
  have M1 := M.gr g
  refine ⟨M1.g, fun x hx => ?_, ((Cl.one g.sub f e r).join M1.cl fun x hx hy => ?_).perm pl.symm⟩
  · rcases List.mem_cons.mp (pl.mem_iff.mp hx) with h | h
    · subst h; exact .inr (M.g.newIn n)
    · exact M.al x h
  · obtain rfl : x = p := by simpa [ads] using hx
    obtain ⟨o', e'⟩ := M.cl.at_ hy
    rw [n] at e'; cases e'
/-- what a caller gives -/
theorem Sg.begin (M : Cl F H L) : Sg (zn L) F H F H L := ⟨GrZ.refl M.sub, fun c h => .inl (List.mem_map_of_mem h), M⟩
/-- a part that is only read -/
theorem Cl.z0 (M : Cl F0 H0 L) (g : GrZ Z0 F0 H0 F H) : Cl F H L := M.keepZ g fun _ _ z => z
/-! a list in a cell -/
def cLst [Rep α] (K : Fg) (xs : List α) : CP := ⟨fun F o => ∃ vs, o = .lst vs ∧ Rps K F xs vs, fun s ⟨vs, e, r⟩ => ⟨vs, e, rps_mono s r⟩⟩
theorem Sg.mutL [Rep α] {xs : List α} (M : Sg Zd F0 H0 F H L) (h : (p, cLst K xs) ∈ L) : MutL K F H p xs := by
  obtain ⟨f, o, e, vs, rfl, r⟩ := M.cl.ok _ h
  exact ⟨f, vs, e, r⟩
theorem Sg.setL [Rep α] [Rep β] {xs : List α} {ys : List β} (M : Sg Zd F0 H0 F H L) (p' : L.Perm ((p, cLst K xs) :: R)) (m : Md p F H F1 H1) (r : MutL K F1 H1 p ys) (pl : L'.Perm ((p, cLst K ys) :: R)) : Sg Zd F0 H0 F1 H1 L' := by
  obtain ⟨f, vs, e, r⟩ := r
  exact M.cell (c' := cLst K ys) p' m e ⟨vs, rfl, r⟩ pl
theorem Sg.addL [Rep α] {xs : List α} (M : Sg Zd F0 H0 F H L) (g : Gr F H F1 H1) (n : H p = none) (r : MutL K F1 H1 p xs) (pl : L'.Perm ((p, cLst K xs) :: L) := by exact List.Perm.refl _) : Sg Zd F0 H0 F1 H1 L' := by
  obtain ⟨f, vs, e, r⟩ := r
  exact M.add (c := cLst K xs) g n f e ⟨vs, rfl, r⟩ pl
end
end Rf

/-! ### dicts -/
namespace Rf
open PySem PySem.Spec PyProof.Rows L2
open Rep (rp)
section
variable {X : Cx} {pins : List (Addr × Obj)} {σ : L2.St} {H : Hp} {s : Shared}
/-- d.copy() -/
def rCopyD : V → List V → Hp → VK → Prop := fun x xs H Q => ∃ (a : Addr) (kvs : List (Key × V)), x = .ref a ∧ xs = [] ∧ Rd H a (.dK kvs) ∧ ∀ p, H p = none → Q (.ref p) (upd H p (.dK kvs))
theorem mt_copyD : MtR X "dict.copy" rCopyD := by
  intro pins s σ H x xs v us Q I rx rxs h
  obtain ⟨a, kvs, rfl, rfl, ha, q⟩ := h
  cases rx
  have hus := rxs.zero
  subst hus
  obtain ⟨z, hd, vs, rel, dd⟩ := dk_rd I.hok ha
  have hl : kvs.length = vs.length := Paired.length rel
  refine call_meetsIn PySem.F.slot_dict_copy dd.typeIs PySem.F.entry_dict_copy (PySem.F.args_dict_copy_1 _) (meets_dict_copy (mixKind X.prog X.w) a hd) ⟨vs, dd, by omega, fun h' d1 d2 k => ?_⟩
  have ob : ObjOk X.prog X.w (upd H s.heap.objs.size (.dK kvs)) h' s.heap.objs.size (.dK kvs) :=
    dk_new z (by
      have := I.big
      simpa using Nat.ne_of_gt this) rel d1
  have J : Inv X pins σ (upd H s.heap.objs.size (.dK kvs)) { s with heap := h' } := I.laid (t' := s.toks) k (Nat.le_refl _) ob
  show EP X pins σ Q (.ref s.heap.objs.size) _
  exact ⟨.ref _, _, J, rfl, q _ I.fresh⟩
def tDCopy (to : TE) : TE := fun σ H Q => to σ H fun x H1 => rCopyD x [] H1 Q
theorem pe_dcopy {o : Expr} {apos cpos : Pos} {to : TE} (ho : PE X o to) (hbase : attributeBase o "copy" X.env (eval o X.env) = eval o X.env := by rfl) (hline : (apos.endLine == cpos.line) = true := by rfl) :
    PE X (.Call (.Attribute o "copy" apos) [] [] cpos) (tDCopy to) := by
  refine ⟨fun pins s σ H Q I h => ?_⟩
  refine wpAny_Call_method0_late hbase hline (thn (ho.run pins s σ H _ I h) fun v s1 ⟨x, H1, I1, r1, q1⟩ => ?_)
  obtain ⟨a, kvs, e, e2, rd, q2⟩ := id q1
  subst e
  obtain rfl : v = Value.ref a := r1
  obtain ⟨h1, h2, _⟩ := isD_at I1 (.inl ⟨kvs, rd⟩)
  exact ⟨"dict", "dict.copy", PySem.F.plainAttrs_dict, PySem.F.slot_dict_copy, PySem.F.type_dict_copy, h1, h2, Calls.callWith_builtin rfl (PySem.evalArgs_none (mt_copyD pins s1 σ H1 (.ref a) [] _ [] Q I1 rfl .nil q1))⟩
/-- a thing is frozen for good, behind an expression -/
def tIce (t : TE) : TE := fun σ H Q => t σ H fun v H1 => ∃ d u, H1 d = some u ∧ Mut (some u) ∧ ∀ od, Q v (upd H1 d (.frz od u))
theorem pe_ice {e : Expr} {t : TE} (h : PE X e t) : PE X e (tIce t) := by
  refine ⟨fun pins s σ H Q I q => ?_⟩
  refine thn (h.run pins s σ H _ I q) fun u s1 ⟨v, H1, I1, r, d, o, e, mu, q1⟩ => ?_
  obtain ⟨od, I2⟩ := I1.lock e mu
  exact ⟨v, _, I2, r, q1 od⟩
end
end Rf

namespace Rf
open PySem PySem.Spec PyProof.Rows L2
open Rep (rp)
/-! ### association lists -/
section
variable {κ α β : Type} [DecidableEq κ]
def dget : List (κ × α) → κ → Option α
  | [], _ => none
  | p :: r, k => if p.1 = k then some p.2 else dget r k
def dput (l : List (κ × α)) (k : κ) (v : α) : List (κ × α) := if (l.any fun p => decide (p.1 = k)) = true then l.map (fun p => if p.1 = k then (p.1, v) else p) else l ++ [(k, v)]
def ddrop (l : List (κ × α)) (k : κ) : List (κ × α) := l.filter fun p => decide (p.1 ≠ k)
def dhas (l : List (κ × α)) (k : κ) : Bool := (dget l k).isSome
def dgetD (l : List (κ × α)) (k : κ) (d : α) : α := (dget l k).getD d
/-- d[k], k there -/
def dat [Inhabited α] (l : List (κ × α)) (k : κ) : α := (dget l k).getD default
theorem dat_some [Inhabited α] {l : List (κ × α)} {k : κ} (h : dhas l k = true) : dget l k = some (dat l k) := by
  unfold dhas at h; unfold dat
  cases e : dget l k with
  | none => rw [e] at h; cases h
  | some x => rfl
end
/-- a dict that never changes any more -/
structure Dc (κ α : Type) where
  l : List (κ × α)
  deriving DecidableEq
instance : Inhabited (Dc κ α) := ⟨⟨[]⟩⟩
/-- what a key is in the heap -/
class KeyD (κ : Type) [Rep κ] where
  KT : Type
  dec : DecidableEq KT
  enc : κ → KT
  inj : ∀ {a b}, enc a = enc b → a = b
  ho : List (KT × V) → HO
  muta : ∀ l, Mut (some (ho l))
  hinj : ∀ {l m}, ho l = ho m → l = m
  isD : ∀ {H : Hp} {a : Addr} {kvs : List (KT × V)}, Rd H a (ho kvs) → IsD H a
  get : ∀ {K : Fg} {F H : Hp} {a : Addr} {kvs : List (KT × V)} {k : κ} {v : V}, Rd H a (ho kvs) → Same F H → rp K F k v → DGet H a v (valV (κ := KT) kvs (enc k))
  put : ∀ {K : Fg} {F H : Hp} {a : Addr} {kvs : List (KT × V)} {k : κ} {v w : V}, H a = some (ho kvs) → Same F H → rp K F k v → kvs.length < sizeLine → DPut H a v w (upd H a (ho (putK (κ := KT) kvs (enc k) w)))
instance [Rep κ] [KeyD κ] : DecidableEq (KeyD.KT κ) := KeyD.dec
instance : KeyD Int where
  KT := Key
  dec := inferInstance
  enc := Sum.inl
  inj := fun h => Sum.inl.inj h
  ho := .dK
  muta := fun _ => trivial
  hinj := fun h => HO.dK.inj h
  isD := fun h => .inl ⟨_, h⟩
  get := fun {K F H a kvs k v} h s r => by
    rw [show v = .int k from r]; exact .inl ⟨kvs, .inl k, h, rfl, rfl⟩
  put := fun {K F H a kvs k v w} h s r z => by
    rw [show v = .int k from r]; exact DPut.k (k := .inl k) h z
instance : KeyD PySem.Str where
  KT := Key
  dec := inferInstance
  enc := Sum.inr
  inj := fun h => Sum.inr.inj h
  ho := .dK
  muta := fun _ => trivial
  hinj := fun h => HO.dK.inj h
  isD := fun h => .inl ⟨_, h⟩
  get := fun {K F H a kvs k v} h s r => by
    rw [show v = .str k from r]; exact .inl ⟨kvs, .inr k, h, rfl, rfl⟩
  put := fun {K F H a kvs k v w} h s r z => by
    rw [show v = .str k from r]; exact DPut.k (k := .inr k) h z
/-- the items of a key that is a tuple -/
class KeyT (τ : Type) [RepT τ] where
  enc : τ → List Key
  inj : ∀ {a b}, enc a = enc b → a = b
  is : ∀ {K : Fg} {F : Hp} {x : τ} {vs : List V}, RepT.rt K F x vs → vs = (enc x).map kV
instance (priority := low) : KeyT Int := ⟨fun x => [.inl x], fun h => by simpa using h, fun ⟨v, e, r⟩ => by rw [e, show v = V.int _ from r]; rfl⟩
instance (priority := low) : KeyT PySem.Str := ⟨fun x => [.inr x], fun h => by simpa using h, fun ⟨v, e, r⟩ => by rw [e, show v = V.str _ from r]; rfl⟩
instance (priority := high) [RepT β] [KeyT β] : KeyT (Int × β) := ⟨fun x => .inl x.1 :: KeyT.enc x.2, fun {a b} h => by
  obtain ⟨a1, a2⟩ := a; obtain ⟨b1, b2⟩ := b
  simp only [List.cons.injEq, Sum.inl.injEq] at h
  rw [h.1, KeyT.inj h.2], fun ⟨v, r, e, h, t⟩ => by rw [e, show v = V.int _ from h, KeyT.is t]; rfl⟩
instance (priority := high) [RepT β] [KeyT β] : KeyT (PySem.Str × β) := ⟨fun x => .inr x.1 :: KeyT.enc x.2, fun {a b} h => by
  obtain ⟨a1, a2⟩ := a; obtain ⟨b1, b2⟩ := b
  simp only [List.cons.injEq, Sum.inr.injEq] at h
  rw [h.1, KeyT.inj h.2], fun ⟨v, r, e, h, t⟩ => by rw [e, show v = V.str _ from h, KeyT.is t]; rfl⟩
instance [Rep α] [RepT β] [KeyT (α × β)] : KeyD (α × β) where
  KT := List Key
  dec := inferInstance
  enc := KeyT.enc
  inj := KeyT.inj
  ho := .dT
  muta := fun _ => trivial
  hinj := fun h => HO.dT.inj h
  isD := fun h => .inr ⟨_, h⟩
  get := fun {K F H a kvs k v} h s ⟨b, vs, e, q, r⟩ => by
    rw [e]; exact .inr ⟨kvs, _, b, h, rfl, by rw [s b _ q, KeyT.is (τ := α × β) r], rfl⟩
  put := fun {K F H a kvs k v w} h s ⟨b, vs, e, q, r⟩ z => by
    rw [e]; exact DPut.t h (by rw [s b _ q, KeyT.is (τ := α × β) r]) z
/-! ### what a dict's object holds -/
abbrev KTo (κ : Type) [Rep κ] [KeyD κ] : Type := KeyD.KT κ
def KPs [Rep κ] [KeyD κ] [Rep α] (K : Fg) (F : Hp) (d : List (κ × α)) (kvs : List (KTo κ × V)) : Prop := Paired (fun x y => y.1 = KeyD.enc x.1 ∧ rp K F x.2 y.2) d kvs
section
variable {κ α : Type} [Rep κ] [KeyD κ] [Rep α] {K : Fg} {F F' H : Hp}
theorem kps_mono {d : List (κ × α)} {kvs : List (KTo κ × V)} (s : Same F F') (h : KPs K F d kvs) : KPs K F' d kvs := Paired.mono (fun _ _ r => ⟨r.1, up s r.2⟩) h
theorem kps_len {d : List (κ × α)} {kvs : List (KTo κ × V)} (h : KPs K F d kvs) : kvs.length = d.length := (Paired.length h).symm
theorem kps_get [DecidableEq κ] {k : κ} : ∀ {d : List (κ × α)} {kvs : List (KTo κ × V)}, KPs K F d kvs → match dget d k with
    | some x => ∃ v, valV kvs (KeyD.enc k) = some v ∧ rp K F x v
    | none => valV kvs (KeyD.enc k) = none
  | _, _, .nil => rfl
  | x :: r, y :: t, .cons h hs => by
    have ih := kps_get (k := k) hs
    unfold dget
    by_cases e : x.1 = k
    · rw [if_pos e]
      exact ⟨y.2, valV_pos (by rw [h.1, e]), h.2⟩
    · rw [if_neg e]
      have e2 : ¬ y.1 = KeyD.enc k := fun z => e (KeyD.inj (h.1.symm.trans z))
      cases q : dget r k with
      | none => rw [q] at ih; exact (valV_neg e2).trans ih
      | some z => rw [q] at ih; obtain ⟨v, h1, h2⟩ := ih; exact ⟨v, (valV_neg e2).trans h1, h2⟩
theorem kps_some [DecidableEq κ] {k : κ} {d : List (κ × α)} {kvs : List (KTo κ × V)} {x : α} (h : KPs K F d kvs) (e : dget d k = some x) : ∃ v, valV kvs (KeyD.enc k) = some v ∧ rp K F x v := by
  have q := kps_get (k := k) h
  rw [e] at q; exact q
theorem kps_none [DecidableEq κ] {k : κ} {d : List (κ × α)} {kvs : List (KTo κ × V)} (h : KPs K F d kvs) (e : dget d k = none) : valV kvs (KeyD.enc k) = none := by
  have q := kps_get (k := k) h
  rw [e] at q; exact q
theorem kps_isSome [DecidableEq κ] {k : κ} {d : List (κ × α)} {kvs : List (KTo κ × V)} (h : KPs K F d kvs) : (valV kvs (KeyD.enc k)).isSome = dhas d k := by
  unfold dhas
  cases e : dget d k with
  | none => rw [kps_none h e]; rfl
  | some x => obtain ⟨v, e2, _⟩ := kps_some h e; rw [e2]; rfl
theorem kps_any [DecidableEq κ] {k : κ} : ∀ {d : List (κ × α)} {kvs : List (KTo κ × V)}, KPs K F d kvs → (kvs.any fun y => decide (y.1 = KeyD.enc k)) = d.any fun x => decide (x.1 = k)
  | _, _, .nil => rfl
  | x :: r, y :: t, .cons h hs => by
    rw [List.any_cons, List.any_cons, kps_any hs]
    congr 1
    exact decide_eq_decide.mpr ⟨fun z => KeyD.inj (h.1.symm.trans z), fun z => by rw [h.1, z]⟩
theorem kps_map [DecidableEq κ] {k : κ} {x : α} {v : V} (hx : rp K F x v) : ∀ {d : List (κ × α)} {kvs : List (KTo κ × V)}, KPs K F d kvs → KPs K F (d.map fun p => if p.1 = k then (p.1, x) else p) (kvs.map fun y => if y.1 = KeyD.enc k then (y.1, v) else y)
  | _, _, .nil => .nil
  | a :: r, b :: t, .cons h hs => by
    refine .cons ?_ (kps_map hx hs)
    dsimp only
    by_cases e : a.1 = k
    · rw [if_pos e, if_pos (show b.1 = KeyD.enc k by rw [h.1, e])]; exact ⟨h.1, hx⟩
    · rw [if_neg e, if_neg (show ¬ b.1 = KeyD.enc k from fun z => e (KeyD.inj (h.1.symm.trans z)))]; exact h
theorem kps_app : ∀ {d d' : List (κ × α)} {kvs kvs' : List (KTo κ × V)}, KPs K F d kvs → KPs K F d' kvs' → KPs K F (d ++ d') (kvs ++ kvs')
  | _, _, _, _, .nil, h => h
  | _, _, _, _, .cons h t, h' => .cons h (kps_app t h')
theorem kps_put [DecidableEq κ] {d : List (κ × α)} {kvs : List (KTo κ × V)} {k : κ} {x : α} {v : V} (h : KPs K F d kvs) (hx : rp K F x v) : KPs K F (dput d k x) (putK kvs (KeyD.enc k) v) := by
  unfold dput putK
  rw [kps_any h]
  split
  · exact kps_map hx h
  · exact kps_app h (.cons ⟨rfl, hx⟩ .nil)
theorem kps_drop [DecidableEq κ] {k : κ} : ∀ {d : List (κ × α)} {kvs : List (KTo κ × V)}, KPs K F d kvs → KPs K F (ddrop d k) (dropK kvs (KeyD.enc k))
  | _, _, .nil => .nil
  | a :: r, b :: t, .cons h hs => by
    have ih := kps_drop (k := k) hs
    unfold ddrop dropK at ih ⊢
    by_cases e : a.1 = k
    · rw [List.filter_cons_of_neg (by simp [e]), List.filter_cons_of_neg (by simp [h.1, e])]; exact ih
    · rw [List.filter_cons_of_pos (by simp [e]), List.filter_cons_of_pos (by
        have : ¬ b.1 = KeyD.enc k := fun z => e (KeyD.inj (h.1.symm.trans z))
        simp [this])]; exact .cons h ih
theorem kps_at {d : List (κ × α)} {kvs : List (KTo κ × V)} {i : Nat} {k : KTo κ} {v : V} (h : KPs K F d kvs) (e : kvs[i]? = some (k, v)) : ∃ x, d[i]? = some x ∧ k = KeyD.enc x.1 ∧ rp K F x.2 v := by
  induction h generalizing i with
  | nil => simp at e
  | cons r t ih =>
    cases i with
    | zero => simp only [List.getElem?_cons_zero, Option.some.injEq] at e; subst e; exact ⟨_, rfl, r.1, r.2⟩
    | succ j => simp only [List.getElem?_cons_succ] at e ⊢; exact ih e
end
instance [Rep κ] [KeyD κ] [Rep α] : Rep (Dc κ α) := ⟨fun K F d v => ∃ a ob kvs, v = .ref a ∧ F a = some (.frz ob (KeyD.ho kvs)) ∧ KPs K F d.l kvs, fun s ⟨a, ob, kvs, e, q, r⟩ => ⟨a, ob, kvs, e, s a _ q, kps_mono s r⟩⟩
instance [Rep κ] [KeyD κ] [Rep α] : Nn (Dc κ α) := ⟨fun ⟨_, _, _, e, _⟩ z => by rw [e] at z; cases z⟩
/-- a dict as it stands at H: frozen, or in a cell -/
def DV [Rep κ] [KeyD κ] [Rep α] (K : Fg) (F H : Hp) (d : List (κ × α)) (v : V) : Prop := ∃ a kvs, v = .ref a ∧ Rd H a (KeyD.ho kvs) ∧ KPs K F d kvs
/-- a list as it stands -/
def LV [Rep α] (K : Fg) (F H : Hp) (xs : List α) (v : V) : Prop := ∃ a vs, v = .ref a ∧ H a = some (.lst vs) ∧ Rps K F xs vs
structure MutD [Rep κ] [KeyD κ] [Rep α] (K : Fg) (F H : Hp) (p : Addr) (d : List (κ × α)) : Prop where
  fr : F p = none
  at_ : ∃ kvs, H p = some (KeyD.ho kvs) ∧ KPs K F d kvs
def cDic [Rep κ] [KeyD κ] [Rep α] (K : Fg) (d : List (κ × α)) : CP := ⟨fun F o => ∃ kvs, o = KeyD.ho kvs ∧ KPs K F d kvs, fun s ⟨kvs, e, r⟩ => ⟨kvs, e, kps_mono s r⟩⟩
/-- a reading that gives a value of which R holds -/
def TvX (te : TE) (σ : L2.St) (F H : Hp) (R : Hp → Hp → V → Prop) : Prop := ∀ F1 H1, Gr F H F1 H1 → ∀ Q : VK, (∀ F2 H2 v, Gr F1 H1 F2 H2 → R F2 H2 v → Q v H2) → te σ H1 Q
/-- a new dict -/
def TvD [Rep κ] [KeyD κ] [Rep α] (K : Fg) (te : TE) (σ : L2.St) (F H : Hp) (d : List (κ × α)) : Prop :=
  ∀ F1 H1, Gr F H F1 H1 → ∀ Q : VK, (∀ F2 H2 p, Gr F1 H1 F2 H2 → H1 p = none → MutD K F2 H2 p d → Q (.ref p) H2) → te σ H1 Q
section
variable {κ α : Type} [Rep κ] [KeyD κ] [Rep α] {K : Fg} {Zd : Addr → Prop} {F0 H0 F H F1 H1 : Hp} {σ : L2.St} {te td ta tb tk : TE} {L L' R : List Cell} {d : List (κ × α)} {v : V} {p : Addr} {i : Nat}
theorem DV.gr (h : DV K F H d v) (g : Gr F H F1 H1) : DV K F1 H1 d v := by
  obtain ⟨a, kvs, e, q, r⟩ := h
  exact ⟨a, kvs, e, q.imp (g.keep a _) (fun ⟨o, q⟩ => ⟨o, g.keep a _ q⟩), kps_mono g.ex r⟩
theorem DV.of {d : Dc κ α} (s : Same F H) (h : rp K F d v) : DV K F H d.l v := by
  obtain ⟨a, ob, kvs, e, q, r⟩ := h
  exact ⟨a, kvs, e, .inr ⟨ob, s a _ q⟩, r⟩
theorem LV.gr [Rep β] {xs : List β} (h : LV K F H xs v) (g : Gr F H F1 H1) : LV K F1 H1 xs v := by
  obtain ⟨a, kvs, e, q, r⟩ := h
  exact ⟨a, kvs, e, g.keep a _ q, rps_mono g.ex r⟩
theorem LV.of [Rep β] {xs : List β} (s : Same F H) (h : rp K F xs v) : LV K F H xs v := by
  obtain ⟨a, vs, e, q, r⟩ := h
  exact ⟨a, vs, e, s a _ q, r⟩
theorem Sg.mutD (M : Sg Zd F0 H0 F H L) (h : (p, cDic K d) ∈ L) : MutD K F H p d := by
  obtain ⟨f, o, e, kvs, rfl, r⟩ := M.cl.ok _ h
  exact ⟨f, kvs, e, r⟩
theorem MutD.dv (m : MutD K F H p d) : DV K F H d (.ref p) := let ⟨_, kvs, e, r⟩ := m; ⟨p, kvs, rfl, .inl e, r⟩
theorem MutL.lv [Rep β] {xs : List β} (m : MutL K F H p xs) : LV K F H xs (.ref p) := let ⟨_, vs, e, r⟩ := m; ⟨p, vs, rfl, e, r⟩
theorem Sg.setD {κ' β : Type} [Rep κ'] [KeyD κ'] [Rep β] {c : CP} {d' : List (κ' × β)} (M : Sg Zd F0 H0 F H L) (p' : L.Perm ((p, c) :: R)) (m : Md p F H F1 H1) (r : MutD K F1 H1 p d') (pl : L'.Perm ((p, cDic K d') :: R)) : Sg Zd F0 H0 F1 H1 L' := by
  obtain ⟨f, vs, e, r⟩ := r
  exact M.cell (c' := cDic K d') p' m e ⟨vs, rfl, r⟩ pl
theorem Sg.addD (M : Sg Zd F0 H0 F H L) (g : Gr F H F1 H1) (n : H p = none) (r : MutD K F1 H1 p d) (pl : L'.Perm ((p, cDic K d) :: L) := by exact List.Perm.refl _) : Sg Zd F0 H0 F1 H1 L' := by
  obtain ⟨f, vs, e, r⟩ := r
  exact M.add (c := cDic K d) g n f e ⟨vs, rfl, r⟩ pl
/-- frozen behind the expression -/
theorem TvD.ice {d : Dc κ α} (h : TvD K te σ F H d.l) : Tv K (tIce te) σ F H d := fun F1 H1 g Q q =>
  h F1 H1 g _ fun F2 H2 p g2 n ⟨f, kvs, e, r⟩ => ⟨p, KeyD.ho kvs, e, KeyD.muta kvs, fun od => q (upd F2 p (.frz od (KeyD.ho kvs))) _ _ (by
    have g3 : Gr F1 H1 F2 (upd H2 p (.frz od (KeyD.ho kvs))) := g2.mut n f
    exact g3.ice n upd_same f) ⟨p, od, kvs, rfl, upd_same, kps_mono (same_new f) r⟩⟩
theorem TvX.of [Rep β] {x : β} (h : Tv K te σ F H x) : TvX te σ F H (fun F _ v => rp K F x v) := h
theorem vx_d {d : Dc κ α} (h : Tv K te σ F H d) : TvX te σ F H (fun F H v => DV K F H d.l v) := fun F1 H1 g Q q => h F1 H1 g Q fun F2 H2 v g2 r => q F2 H2 v g2 (.of g2.sub r)
theorem vx_l [Rep β] {xs : List β} (h : Tv K te σ F H xs) : TvX te σ F H (fun F H v => LV K F H xs v) := fun F1 H1 g Q q => h F1 H1 g Q fun F2 H2 v g2 r => q F2 H2 v g2 (.of g2.sub r)
theorem vx_var (e : σ[i]? = some (some v)) {R : Hp → Hp → V → Prop} (h : R F H v) (hR : ∀ {F1 H1}, Gr F H F1 H1 → R F H v → R F1 H1 v) : TvX (tVar i) σ F H R := fun F1 H1 g Q q => ⟨v, e, q F1 H1 v (Gr.refl g.sub) (hR g h)⟩
theorem vx_varD (e : σ[i]? = some (some (.ref p))) (m : MutD K F H p d) : TvX (tVar i) σ F H (fun F H v => DV K F H d v) := vx_var e m.dv fun g h => h.gr g
theorem vx_varL [Rep β] {xs : List β} (e : σ[i]? = some (some (.ref p))) (m : MutL K F H p xs) : TvX (tVar i) σ F H (fun F H v => LV K F H xs v) := vx_var e m.lv fun g h => h.gr g
/-! {} -/
theorem td_new : TvD K (te := tDNewK) (κ := PySem.Str) (α := α) σ F H [] := fun F1 H1 g Q q => fun p hp => q F1 _ p (Gr.put g.sub hp) hp ⟨none_of g.sub hp, [], upd_same, .nil⟩
theorem td_newI : TvD K (te := tDNewK) (κ := Int) (α := α) σ F H [] := fun F1 H1 g Q q => fun p hp => q F1 _ p (Gr.put g.sub hp) hp ⟨none_of g.sub hp, [], upd_same, .nil⟩
theorem td_newT [Rep α'] [RepT β'] [KeyT (α' × β')] : TvD K (te := tDNewT) (κ := α' × β') (α := α) σ F H [] := fun F1 H1 g Q q => fun p hp => q F1 _ p (Gr.put g.sub hp) hp ⟨none_of g.sub hp, [], upd_same, .nil⟩
/-! reading -/
theorem tv_dget [DecidableEq κ] [Inhabited α] {k : κ} (hd : TvX td σ F H (fun F H v => DV K F H d v)) (hk : Tv K tk σ F H k) (h : dhas d k = true) : Tv K (tDGet td tk) σ F H (dat d k) := fun F1 H1 g Q q =>
  hd F1 H1 g _ fun F2 H2 x g2 dv => hk F2 H2 (g.trans g2) _ fun F3 H3 y g3 ry => by
    obtain ⟨a, kvs, e, rd, r⟩ := dv.gr g3
    obtain ⟨v, hv, rv⟩ := kps_some r (dat_some h)
    exact ⟨a, v, e, hv ▸ KeyD.get rd g3.sub ry, q F3 H3 v (g2.trans g3) rv⟩
theorem tv_din [DecidableEq κ] {k : κ} (hk : Tv K tk σ F H k) (hd : TvX td σ F H (fun F H v => DV K F H d v)) : Tv K (tDIn tk td) σ F H (dhas d k) := fun F1 H1 g Q q =>
  hk F1 H1 g _ fun F2 H2 y g2 ry => hd F2 H2 (g.trans g2) _ fun F3 H3 x g3 dv => by
    obtain ⟨a, kvs, e, rd, r⟩ := dv
    exact ⟨a, _, e, KeyD.get rd g3.sub (up g3.ex ry), by rw [kps_isSome r]; exact q F3 H3 _ (g2.trans g3) rfl⟩
theorem tv_dni [DecidableEq κ] {k : κ} (hk : Tv K tk σ F H k) (hd : TvX td σ F H (fun F H v => DV K F H d v)) : Tv K (tDNotIn tk td) σ F H (!dhas d k) := fun F1 H1 g Q q =>
  hk F1 H1 g _ fun F2 H2 y g2 ry => hd F2 H2 (g.trans g2) _ fun F3 H3 x g3 dv => by
    obtain ⟨a, kvs, e, rd, r⟩ := dv
    exact ⟨a, _, e, KeyD.get rd g3.sub (up g3.ex ry), by rw [kps_isSome r]; exact q F3 H3 _ (g2.trans g3) rfl⟩
theorem tv_dgetD [DecidableEq κ] {k : κ} {x : α} (hd : TvX td σ F H (fun F H v => DV K F H d v)) (hk : Tv K tk σ F H k) (hx : Tv K te σ F H x) : Tv K (tDGet2 td tk te) σ F H (dgetD d k x) := fun F1 H1 g Q q =>
  hd F1 H1 g _ fun F2 H2 z g2 dv => by
    obtain ⟨a, kvs, e, rd, r⟩ := id dv
    refine ⟨a, e, KeyD.isD rd, hk F2 H2 (g.trans g2) _ fun F3 H3 y g3 ry => hx F3 H3 ((g.trans g2).trans g3) _ fun F4 H4 w g4 rw' => ?_⟩
    obtain ⟨a', kvs', e', rd', r'⟩ := dv.gr (g3.trans g4)
    obtain rfl : a = a' := by rw [e] at e'; exact V.ref.inj e'
    refine ⟨_, KeyD.get rd' g4.sub (up g4.ex ry), ?_⟩
    unfold dgetD at q
    cases q1 : dget d k with
    | none => rw [q1] at q; rw [kps_none r' q1]; exact q F4 H4 w ((g2.trans g3).trans g4) rw'
    | some y1 => rw [q1] at q; obtain ⟨v1, e1, r1⟩ := kps_some r' q1; rw [e1]; exact q F4 H4 v1 ((g2.trans g3).trans g4) r1
theorem tv_dget1 [DecidableEq κ] {k : κ} (hd : TvX td σ F H (fun F H v => DV K F H d v)) (hk : Tv K tk σ F H k) : Tv K (tDGet1 td tk) σ F H (dget d k) := fun F1 H1 g Q q =>
  hd F1 H1 g _ fun F2 H2 z g2 dv => by
    obtain ⟨a, kvs, e, rd, r⟩ := id dv
    refine ⟨a, e, KeyD.isD rd, hk F2 H2 (g.trans g2) _ fun F3 H3 y g3 ry => ?_⟩
    obtain ⟨a', kvs', e', rd', r'⟩ := dv.gr g3
    obtain rfl : a = a' := by rw [e] at e'; exact V.ref.inj e'
    refine ⟨_, KeyD.get rd' g3.sub ry, ?_⟩
    cases q1 : dget d k with
    | none => rw [q1] at q; rw [kps_none r' q1]; exact q F3 H3 _ (g2.trans g3) (rfl : V.non = V.non)
    | some y1 => rw [q1] at q; obtain ⟨v1, e1, r1⟩ := kps_some r' q1; rw [e1]; exact q F3 H3 v1 (g2.trans g3) r1
/-- d.copy() -/
theorem td_copy {d : List (PySem.Str × α)} (hd : TvX td σ F H (fun F H v => DV K F H d v)) : TvD K (tDCopy td) σ F H d := fun F1 H1 g Q q =>
  hd F1 H1 g _ fun F2 H2 x g2 dv => by
    obtain ⟨a, kvs, e, rd, r⟩ := dv
    exact ⟨a, kvs, e, rfl, rd, fun p hp => q F2 _ p (g2.trans (Gr.put g2.sub hp)) (none_of g2.keep hp) ⟨none_of g2.sub hp, kvs, upd_same, r⟩⟩
theorem td_copyI {d : List (Int × α)} (hd : TvX td σ F H (fun F H v => DV K F H d v)) : TvD K (tDCopy td) σ F H d := fun F1 H1 g Q q =>
  hd F1 H1 g _ fun F2 H2 x g2 dv => by
    obtain ⟨a, kvs, e, rd, r⟩ := dv
    exact ⟨a, kvs, e, rfl, rd, fun p hp => q F2 _ p (g2.trans (Gr.put g2.sub hp)) (none_of g2.keep hp) ⟨none_of g2.sub hp, kvs, upd_same, r⟩⟩
end
end Rf

namespace Rf
open PySem PySem.Spec PyProof.Rows L2
open Rep (rp)
/-- a reading that gives just this value -/
def TvQ (te : TE) (σ : L2.St) (H : Hp) (v : V) : Prop := ∀ H1, Same H H1 → ∀ Q : VK, Q v H1 → te σ H1 Q
theorem p_let {α β : Type} {P : β → Prop} {e : α} {k : α → β} {G : Prop} (hP : P (lt e k)) (nxt : ∀ x, x = e → P (k x) → G) : G := nxt e rfl (p_lt P hP)
class KeyS (κ : Type) [Rep κ] [Flat κ] [KeyD κ] : Prop where
  kt : KeyD.KT κ = Key
  val : ∀ (x : κ) (kvs : List (KeyD.KT κ × V)), ∃ ks : List (Key × V), KeyD.ho kvs = .dK ks ∧ ks.length = kvs.length ∧ (∀ (i : Nat) (k : Key) (v : V), ks[i]? = some (k, v) → ∃ k', kvs[i]? = some (k', v) ∧ ∀ y : κ, k' = KeyD.enc y → kV k = Flat.val y)
instance : KeyS Int := ⟨rfl, fun _ kvs => ⟨kvs, rfl, rfl, fun i k v h => ⟨k, h, fun y e => by rw [show k = Sum.inl y from e]; rfl⟩⟩⟩
instance : KeyS PySem.Str := ⟨rfl, fun _ kvs => ⟨kvs, rfl, rfl, fun i k v h => ⟨k, h, fun y e => by rw [show k = Sum.inr y from e]; rfl⟩⟩⟩
section
variable {κ α : Type} [Rep κ] [KeyD κ] [Rep α] [DecidableEq κ] {K : Fg} {Zd : Addr → Prop} {F0 H0 F H F1 H1 : Hp} {σ : L2.St} {te td ta tb tk ty : TE} {t t1 t2 u : TS} {D : Ends} {L L' R : List Cell} {d : List (κ × α)} {v : V} {p q : Addr} {i : Nat} {k : κ}
theorem tq_var (e : σ[i]? = some (some v)) : TvQ (tVar i) σ H v := fun H1 _ Q q => ⟨v, e, q⟩
theorem TvQ.x {R : Hp → Hp → V → Prop} (h : TvQ te σ H v) (r : R F H v) (hR : ∀ {F1 H1}, Gr F H F1 H1 → R F1 H1 v) : TvX te σ F H R := fun F1 H1 g Q q => h H1 g.keep Q (q F1 H1 v (Gr.refl g.sub) (hR g))
theorem vx_qD (h : TvQ te σ H (.ref p)) (m : MutD K F H p d) : TvX te σ F H (fun F H v => DV K F H d v) := h.x m.dv fun g => m.dv.gr g
theorem vx_qL [Rep β] {xs : List β} (h : TvQ te σ H (.ref p)) (m : MutL K F H p xs) : TvX te σ F H (fun F H v => LV K F H xs v) := h.x m.lv fun g => m.lv.gr g
theorem x_set [Rep β] {x e : β} (s : Same F H) (he : Tv K te σ F H e) (hx : x = e) (nxt : ∀ F1 H1 v, Gr F H F1 H1 → rp K F1 x v → u D (σ.set i (some v)) H1) : tSeq (tAsg te (gName i)) u D σ H :=
  he F H (Gr.refl s) _ fun F2 H2 v g r => nxt F2 H2 v g (hx ▸ r)
theorem x_setF [Rep β] [Flat β] {x e : β} (he : Tv K te σ H H e) (hx : x = e) (nxt : ∀ H1, Same H H1 → u D (σ.set i (some (Flat.val x))) H1) : tSeq (tAsg te (gName i)) u D σ H :=
  he H H (Gr.self H) _ fun F2 H2 v g r => by
    rw [Flat.is r, ← hx]
    exact nxt H2 g.keep
theorem x_setM [Rep β] {x e : List β} (s : Same F H) (he : TvL K te σ F H e) (hx : x = e) (nxt : ∀ F1 H1 p, Gr F H F1 H1 → H p = none → MutL K F1 H1 p x → u D (σ.set i (some (.ref p))) H1) : tSeq (tAsg te (gName i)) u D σ H :=
  he F H (Gr.refl s) _ fun F2 H2 p g n m => nxt F2 H2 p g n (hx ▸ m)
theorem x_setD {x e : List (κ × α)} (s : Same F H) (he : TvD K te σ F H e) (hx : x = e) (nxt : ∀ F1 H1 p, Gr F H F1 H1 → H p = none → MutD K F1 H1 p x → u D (σ.set i (some (.ref p))) H1) : tSeq (tAsg te (gName i)) u D σ H :=
  he F H (Gr.refl s) _ fun F2 H2 p g n m => nxt F2 H2 p g n (hx ▸ m)
theorem TvL.ice [Rep β] {xs : List β} (h : TvL K te σ F H xs) : Tv K te σ F H xs := h.tv
theorem MutD.go (m : MutD K F H p d) (g : Gr F H F1 H1) : MutD K F1 H1 p d := by
  obtain ⟨f, kvs, e, r⟩ := m
  exact ⟨(g.new p _ e).trans f, kvs, g.keep p _ e, kps_mono g.ex r⟩
theorem MdD.of (m : MutD K F H p d) (g : Gr F H F1 H1) {o : HO} : Md p F H F1 (upd H1 p o) := ⟨(m.go g).fr, H1, g, o, rfl⟩
/-- d[k] = x -/
theorem x_dput {x : α} {d' : List (κ × α)} (s : Same F H) (m : MutD K F H p d) (hd : TvQ td σ H (.ref p)) (hv : Tv K te σ F H x) (hk : Tv K ty σ F H k) (hl : d.length < 100000) (hx : d' = dput d k x)
    (nxt : ∀ F1 H1, Md p F H F1 H1 → MutD K F1 H1 p d' → u D σ H1) : tSeq (sDPut td ty te) u D σ H :=
  hv F H (Gr.refl s) _ fun F2 H2 v g2 rv => hd H2 g2.keep _ <| hk F2 H2 g2 _ fun F3 H3 y g3 ry => by
    have g := g2.trans g3
    obtain ⟨f, kvs, e, r⟩ := m.go g
    refine ⟨p, _, rfl, KeyD.put e g3.sub ry (by rw [kps_len r]; exact szl hl), nxt F3 _ (MdD.of m g) ⟨f, _, upd_same, ?_⟩⟩
    rw [hx]
    exact kps_put r (up g3.ex rv)
end
/-! d.pop for the two kinds of simple keys -/
section
variable {α : Type} [Rep α] {K : Fg} {Zd : Addr → Prop} {F0 H0 F H F1 H1 : Hp} {σ : L2.St} {te td ta tb tk ty : TE} {t t1 t2 u : TS} {D : Ends} {v : V} {p q : Addr} {i : Nat}
/-- what is popped, and the rest -/
def TvPop (K : Fg) (te : TE) (σ : L2.St) (F H : Hp) (p : Addr) {κ : Type} [Rep κ] [KeyD κ] (x : α) (d' : List (κ × α)) : Prop :=
  ∀ Q : VK, (∀ F2 H2 v, Md p F H F2 H2 → rp K F2 x v → MutD K F2 H2 p d' → Q v H2) → te σ H Q
theorem tp_popI [Inhabited α] {d : List (Int × α)} {k : Int} (s : Same F H) (m : MutD K F H p d) (hd : TvQ td σ H (.ref p)) (hk : Tv K ty σ H H k) (h : dhas d k = true) : TvPop K (tDPop1 td ty) σ F H p (dat d k) (ddrop d k) := fun Q q =>
  hd H (Same.refl H) _ ⟨p, rfl, by
    obtain ⟨f, kvs, e, r⟩ := m
    exact KeyD.isD (κ := Int) (.inl e), hk H H (Gr.self H) _ fun F2 H2 y g2 ry => by
    have g := Gr.up s g2.keep
    obtain ⟨f, kvs, e, r⟩ := m.go g
    obtain ⟨v, hv, rv⟩ := kps_some r (dat_some h)
    exact ⟨kvs, .inl k, v, e, ry, hv, q F _ v (MdD.of m g) rv ⟨f, _, upd_same, kps_drop r⟩⟩⟩
theorem tp_popS [Inhabited α] {d : List (PySem.Str × α)} {k : PySem.Str} (s : Same F H) (m : MutD K F H p d) (hd : TvQ td σ H (.ref p)) (hk : Tv K ty σ H H k) (h : dhas d k = true) : TvPop K (tDPop1 td ty) σ F H p (dat d k) (ddrop d k) := fun Q q =>
  hd H (Same.refl H) _ ⟨p, rfl, by
    obtain ⟨f, kvs, e, r⟩ := m
    exact KeyD.isD (κ := PySem.Str) (.inl e), hk H H (Gr.self H) _ fun F2 H2 y g2 ry => by
    have g := Gr.up s g2.keep
    obtain ⟨f, kvs, e, r⟩ := m.go g
    obtain ⟨v, hv, rv⟩ := kps_some r (dat_some h)
    exact ⟨kvs, .inr k, v, e, ry, hv, q F _ v (MdD.of m g) rv ⟨f, _, upd_same, kps_drop r⟩⟩⟩
theorem x_drop [Rep β] {e : β} (s : Same F H) (he : Tv K te σ F H e) (nxt : ∀ F1 H1, Gr F H F1 H1 → u D σ H1) : tSeq (tDrop te) u D σ H :=
  he F H (Gr.refl s) _ fun F2 H2 v g r => nxt F2 H2 g
theorem x_popDrop {κ : Type} [Rep κ] [KeyD κ] {x : α} {d' d'' : List (κ × α)} (h : TvPop K te σ F H p x d') (hx : d'' = d') (nxt : ∀ F1 H1, Md p F H F1 H1 → MutD K F1 H1 p d'' → u D σ H1) : tSeq (tDrop te) u D σ H :=
  h _ fun F2 H2 v m r md => nxt F2 H2 m (hx ▸ md)
theorem x_popSet {κ : Type} [Rep κ] [KeyD κ] {x y : α} {d' d'' : List (κ × α)} (h : TvPop K te σ F H p x d') (hx : d'' = d') (hy : y = x) (nxt : ∀ F1 H1 v, Md p F H F1 H1 → rp K F1 y v → MutD K F1 H1 p d'' → u D (σ.set i (some v)) H1) : tSeq (tAsg te (gName i)) u D σ H :=
  h _ fun F2 H2 v m r md => nxt F2 H2 v m (hy ▸ r) (hx ▸ md)
end
/-! walks of frozen dicts -/
section
variable {κ α : Type} [Rep κ] [Flat κ] [KeyD κ] [KeyS κ] [Rep α] {K : Fg} {F H F1 H1 : Hp} {σ : L2.St} {te : TE} {a : Addr} {ob : Obj} {d : List (κ × α)}
theorem wk_keys [Inhabited κ] {kvs : List (KTo κ × V)} (q : F a = some (.frz ob (KeyD.ho kvs))) (r : KPs K F d kvs) : ∃ ks, F a = some (.frz ob (.dK ks)) ∧ Wk K (Itk a ob ks) F ST (d.map (·.1)) := by
  obtain ⟨ks, e, el, hk⟩ := KeyS.val (default : κ) kvs
  refine ⟨ks, e ▸ q, ⟨fun i G H s0 s1 _ h => ⟨(s0.trans s1) a _ (e ▸ q), ?_⟩, fun i G H s0 s1 _ ⟨h, _⟩ => ⟨(s0.trans s1) a _ (e ▸ q), ?_⟩, fun i H F3 v H' s s3 _ y h => ?_⟩⟩
  · rw [el, kps_len r]; rw [List.length_map] at h; exact h
  · rw [el, kps_len r]; rw [List.length_map] at h; exact h
  · obtain ⟨rfl, k, w, h1, rfl⟩ := y
    refine ⟨F3, Gr.refl s3, fun x hx => ?_⟩
    obtain ⟨k', h2, h3⟩ := hk i k w h1
    obtain ⟨z, hz, e1, _⟩ := kps_at r h2
    rw [List.getElem?_map, hz] at hx
    cases hx
    rw [h3 _ e1]
    exact Flat.of _
theorem wk_vals [Inhabited κ] {kvs : List (KTo κ × V)} (q : F a = some (.frz ob (KeyD.ho kvs))) (r : KPs K F d kvs) : ∃ ks, F a = some (.frz ob (.dK ks)) ∧ Wk K (Itd a ob ks) F ST (d.map (·.2)) := by
  obtain ⟨ks, e, el, hk⟩ := KeyS.val (default : κ) kvs
  refine ⟨ks, e ▸ q, ⟨fun i G H s0 s1 _ h => ⟨(s0.trans s1) a _ (e ▸ q), ?_⟩, fun i G H s0 s1 _ ⟨h, _⟩ => ⟨(s0.trans s1) a _ (e ▸ q), ?_⟩, fun i H F3 v H' s s3 _ y h => ?_⟩⟩
  · rw [el, kps_len r]; rw [List.length_map] at h; exact h
  · rw [el, kps_len r]; rw [List.length_map] at h; exact h
  · obtain ⟨rfl, k, h1⟩ := y
    refine ⟨F3, Gr.refl s3, fun x hx => ?_⟩
    obtain ⟨k', h2, h3⟩ := hk i k v h1
    obtain ⟨z, hz, e1, rz⟩ := kps_at r h2
    rw [List.getElem?_map, hz] at hx
    cases hx
    exact up s rz
def prs (d : List (κ × α)) : List (Pr κ α) := d.map fun p => ⟨p.1, p.2⟩
theorem wk_items [Inhabited κ] {kvs : List (KTo κ × V)} (q : F a = some (.frz ob (KeyD.ho kvs))) (r : KPs K F d kvs) : ∃ ks, F a = some (.frz ob (.dK ks)) ∧ Wk K (Iti a ob ks) F ST (prs d) := by
  obtain ⟨ks, e, el, hk⟩ := KeyS.val (default : κ) kvs
  have hl : (prs d).length = d.length := by unfold prs; rw [List.length_map]
  refine ⟨ks, e ▸ q, ⟨fun i G H s0 s1 _ h => ⟨(s0.trans s1) a _ (e ▸ q), ?_⟩, fun i G H s0 s1 _ ⟨h, _⟩ => ⟨(s0.trans s1) a _ (e ▸ q), ?_⟩, fun i H F3 v H' s s3 _ y h => ?_⟩⟩
  · rw [el, kps_len r]; rw [hl] at h; exact h
  · rw [el, kps_len r]; rw [hl] at h; exact h
  · obtain ⟨T, k, w, h1, rfl, hT, rfl⟩ := y
    refine ⟨_, Gr.lay s3 hT, fun x hx => ?_⟩
    obtain ⟨k', h2, h3⟩ := hk i k w h1
    obtain ⟨z, hz, e1, rz⟩ := kps_at r h2
    unfold prs at hx
    rw [List.getElem?_map, hz] at hx
    cases hx
    have n := same_new (o := .tup [kV k, w]) (none_of s3 hT)
    exact ⟨T, _, _, rfl, upd_same, by rw [h3 _ e1]; exact Flat.of _, up (s.trans n) rz⟩
theorem it_keys [Inhabited κ] {d : Dc κ α} (h : Tv K te σ F H d) : Itr K (iKeys te) σ F H ST (d.l.map (·.1)) := fun F1 H1 g R q =>
  h F1 H1 g _ fun F2 H2 v g2 ⟨a, ob, kvs, e, hq, hr⟩ => by
    obtain ⟨ks, e2, w⟩ := wk_keys hq hr
    exact ⟨a, ob, e, .inl ⟨ks, g2.sub a _ e2, q _ F2 H2 g2 w⟩⟩
theorem it_vals [Inhabited κ] {d : Dc κ α} (h : Tv K te σ F H d) : Itr K (iVals te) σ F H ST (d.l.map (·.2)) := fun F1 H1 g R q =>
  h F1 H1 g _ fun F2 H2 v g2 ⟨a, ob, kvs, e, hq, hr⟩ => by
    obtain ⟨ks, e2, w⟩ := wk_vals hq hr
    exact ⟨a, ob, ks, e, g2.sub a _ e2, q _ F2 H2 g2 w⟩
theorem it_items [Inhabited κ] {d : Dc κ α} (h : Tv K te σ F H d) : Itr K (iItems te) σ F H ST (prs d.l) := fun F1 H1 g R q =>
  h F1 H1 g _ fun F2 H2 v g2 ⟨a, ob, kvs, e, hq, hr⟩ => by
    obtain ⟨ks, e2, w⟩ := wk_items hq hr
    exact ⟨a, ob, ks, e, g2.sub a _ e2, q _ F2 H2 g2 w⟩
end
end Rf

/-! ### data of any kind -/
namespace Rf
open PySem PySem.Spec PyProof.Rows L2
open Rep (rp)
inductive Dv where
  | non | bl (b : Bool) | int (i : Int) | str (z : PySem.Str) | lst (xs : List Dv) | tup (xs : List Dv)
instance : Inhabited Dv := ⟨.non⟩
mutual
def Dv.decEq : (a b : Dv) → Decidable (a = b)
  | .non, .non => .isTrue rfl
  | .bl a, .bl b => if h : a = b then .isTrue (h ▸ rfl) else .isFalse fun z => h (Dv.bl.inj z)
  | .int a, .int b => if h : a = b then .isTrue (h ▸ rfl) else .isFalse fun z => h (Dv.int.inj z)
  | .str a, .str b => if h : a = b then .isTrue (h ▸ rfl) else .isFalse fun z => h (Dv.str.inj z)
  | .lst a, .lst b => match Dv.decEqs a b with
    | .isTrue h => .isTrue (h ▸ rfl)
    | .isFalse h => .isFalse fun z => h (Dv.lst.inj z)
  | .tup a, .tup b => match Dv.decEqs a b with
    | .isTrue h => .isTrue (h ▸ rfl)
    | .isFalse h => .isFalse fun z => h (Dv.tup.inj z)
  | .non, .bl _ => .isFalse nofun | .non, .int _ => .isFalse nofun | .non, .str _ => .isFalse nofun | .non, .lst _ => .isFalse nofun | .non, .tup _ => .isFalse nofun
  | .bl _, .non => .isFalse nofun | .bl _, .int _ => .isFalse nofun | .bl _, .str _ => .isFalse nofun | .bl _, .lst _ => .isFalse nofun | .bl _, .tup _ => .isFalse nofun
  | .int _, .non => .isFalse nofun | .int _, .bl _ => .isFalse nofun | .int _, .str _ => .isFalse nofun | .int _, .lst _ => .isFalse nofun | .int _, .tup _ => .isFalse nofun
  | .str _, .non => .isFalse nofun | .str _, .bl _ => .isFalse nofun | .str _, .int _ => .isFalse nofun | .str _, .lst _ => .isFalse nofun | .str _, .tup _ => .isFalse nofun
  | .lst _, .non => .isFalse nofun | .lst _, .bl _ => .isFalse nofun | .lst _, .int _ => .isFalse nofun | .lst _, .str _ => .isFalse nofun | .lst _, .tup _ => .isFalse nofun
  | .tup _, .non => .isFalse nofun | .tup _, .bl _ => .isFalse nofun | .tup _, .int _ => .isFalse nofun | .tup _, .str _ => .isFalse nofun | .tup _, .lst _ => .isFalse nofun
def Dv.decEqs : (a b : List Dv) → Decidable (a = b)
  | [], [] => .isTrue rfl
  | [], _ :: _ => .isFalse nofun
  | _ :: _, [] => .isFalse nofun
  | a :: r, b :: t => match Dv.decEq a b, Dv.decEqs r t with
    | .isTrue h, .isTrue h' => .isTrue (by rw [h, h'])
    | .isFalse h, _ => .isFalse fun z => h (List.cons.inj z).1
    | _, .isFalse h => .isFalse fun z => h (List.cons.inj z).2
end
instance : DecidableEq Dv := Dv.decEq
mutual
def Dv.R (F : Hp) : Dv → V → Prop
  | .non, v => v = .non
  | .bl b, v => v = .bl b
  | .int i, v => v = .int i
  | .str z, v => v = .str z
  | .lst xs, v => ∃ a vs, v = .ref a ∧ F a = some (.lst vs) ∧ Dv.Rs F xs vs
  | .tup xs, v => ∃ a vs, v = .ref a ∧ F a = some (.tup vs) ∧ Dv.Rs F xs vs
def Dv.Rs (F : Hp) : List Dv → List V → Prop
  | [], vs => vs = []
  | x :: r, vs => ∃ v t, vs = v :: t ∧ Dv.R F x v ∧ Dv.Rs F r t
end
mutual
theorem Dv.R_mono {F F' : Hp} (l : Same F F') : ∀ {x : Dv} {v : V}, Dv.R F x v → Dv.R F' x v
  | .non, _, h => h
  | .bl _, _, h => h
  | .int _, _, h => h
  | .str _, _, h => h
  | .lst xs, _, h => by
    unfold Dv.R at h ⊢
    obtain ⟨a, vs, e, q, r⟩ := h
    exact ⟨a, vs, e, l a _ q, Dv.Rs_mono l r⟩
  | .tup xs, _, h => by
    unfold Dv.R at h ⊢
    obtain ⟨a, vs, e, q, r⟩ := h
    exact ⟨a, vs, e, l a _ q, Dv.Rs_mono l r⟩
theorem Dv.Rs_mono {F F' : Hp} (l : Same F F') : ∀ {xs : List Dv} {vs : List V}, Dv.Rs F xs vs → Dv.Rs F' xs vs
  | [], _, h => h
  | x :: r, _, h => by
    unfold Dv.Rs at h ⊢
    obtain ⟨v, t, e, q, r⟩ := h
    exact ⟨v, t, e, Dv.R_mono l q, Dv.Rs_mono l r⟩
end
instance : Rep Dv := ⟨fun _ F x v => Dv.R F x v, fun l h => Dv.R_mono l h⟩
theorem dvs_rps {K : Fg} {F : Hp} : ∀ {xs : List Dv} {vs : List V}, Dv.Rs F xs vs → Rps K F xs vs
  | [], _, h => by unfold Dv.Rs at h; rw [h]; exact .nil
  | x :: r, _, h => by unfold Dv.Rs at h; obtain ⟨v, t, e, q, h⟩ := h; rw [e]; exact .cons q (dvs_rps h)
theorem rps_dvs {K : Fg} {F : Hp} : ∀ {xs : List Dv} {vs : List V}, Rps K F xs vs → Dv.Rs F xs vs
  | [], _, .nil => by unfold Dv.Rs; rfl
  | x :: r, _, .cons q h => by unfold Dv.Rs; exact ⟨_, _, rfl, q, rps_dvs h⟩
def Dv.ty : Dv → String
  | .non => "NoneType"
  | .bl _ => "bool"
  | .int _ => "int"
  | .str _ => "str"
  | .lst _ => "list"
  | .tup _ => "tuple"
def dvIs (c : String) (x : Dv) : Bool := dyIsT c x.ty
def vI : Dv → Int | .int i => i | _ => 0
def vS : Dv → PySem.Str | .str z => z | _ => default
def vL : Dv → List Dv | .lst xs => xs | .tup xs => xs | _ => []
def isDI : Dv → Bool | .int _ => true | _ => false
def isDS : Dv → Bool | .str _ => true | _ => false
def isDL : Dv → Bool | .lst _ => true | _ => false
section
variable {K : Fg} {σ : L2.St} {F H F1 H1 : Hp} {te ta tb : TE} {v : V} {x : Dv}
theorem rp_vI (h : isDI x = true) (r : rp K F x v) : v = .int (vI x) := by cases x <;> first | exact r | cases h
theorem rp_vS (h : isDS x = true) (r : rp K F x v) : v = .str (vS x) := by cases x <;> first | exact r | cases h
theorem rp_vL (h : isDL x = true) (r : rp K F x v) : rp K F (vL x) v := by
  cases x with
  | lst xs => obtain ⟨a, vs, e, q, r⟩ := r; exact ⟨a, vs, e, q, dvs_rps r⟩
  | _ => cases h
theorem tv_vI (h : isDI x = true) (r : Tv K te σ H H x) : Tv K te σ H H (vI x) := fun F1 H1 g Q q => r F1 H1 g Q fun F2 H2 v g2 r => q F2 H2 v g2 (rp_vI h r)
theorem tv_vS (h : isDS x = true) (r : Tv K te σ H H x) : Tv K te σ H H (vS x) := fun F1 H1 g Q q => r F1 H1 g Q fun F2 H2 v g2 r => q F2 H2 v g2 (rp_vS h r)
theorem tv_vL (h : isDL x = true) (r : Tv K te σ F H x) : Tv K te σ F H (vL x) := fun F1 H1 g Q q => r F1 H1 g Q fun F2 H2 v g2 r => q F2 H2 v g2 (rp_vL h r)
theorem tv_dvI {n : Int} (h : Tv K te σ F H n) : Tv K te σ F H (Dv.int n) := fun F1 H1 g Q q => h F1 H1 g Q fun F2 H2 v g2 r => q F2 H2 v g2 r
theorem tv_dvB {n : Bool} (h : Tv K te σ F H n) : Tv K te σ F H (Dv.bl n) := fun F1 H1 g Q q => h F1 H1 g Q fun F2 H2 v g2 r => q F2 H2 v g2 r
theorem tv_dvS {n : PySem.Str} (h : Tv K te σ F H n) : Tv K te σ F H (Dv.str n) := fun F1 H1 g Q q => h F1 H1 g Q fun F2 H2 v g2 r => q F2 H2 v g2 r
theorem tv_dvN {n : Unit} (h : Tv K te σ F H n) : Tv K te σ F H Dv.non := fun F1 H1 g Q q => h F1 H1 g Q fun F2 H2 v g2 r => q F2 H2 v g2 r
theorem rp_dvL {xs : List Dv} (h : rp K F xs v) : rp K F (Dv.lst xs) v := by
  obtain ⟨a, vs, e, q, r⟩ := h
  exact ⟨a, vs, e, q, rps_dvs r⟩
theorem tv_dvL {xs : List Dv} (h : Tv K te σ F H xs) : Tv K te σ F H (Dv.lst xs) := fun F1 H1 g Q q => h F1 H1 g Q fun F2 H2 v g2 r => q F2 H2 v g2 (rp_dvL r)
theorem rps_mapI : ∀ {xs : List Int} {vs : List V}, Rps K F xs vs → Rps K F (xs.map Dv.int) vs
  | _, _, .nil => .nil
  | _, _, .cons r t => .cons r (rps_mapI t)
theorem rps_mapS : ∀ {xs : List PySem.Str} {vs : List V}, Rps K F xs vs → Rps K F (xs.map Dv.str) vs
  | _, _, .nil => .nil
  | _, _, .cons r t => .cons r (rps_mapS t)
theorem tv_mapI {xs : List Int} (h : Tv K te σ F H xs) : Tv K te σ F H (xs.map Dv.int) := fun F1 H1 g Q q => h F1 H1 g Q fun F2 H2 v g2 ⟨a, vs, e, e2, r⟩ => q F2 H2 v g2 ⟨a, vs, e, e2, rps_mapI r⟩
theorem tv_mapS {xs : List PySem.Str} (h : Tv K te σ F H xs) : Tv K te σ F H (xs.map Dv.str) := fun F1 H1 g Q q => h F1 H1 g Q fun F2 H2 v g2 ⟨a, vs, e, e2, r⟩ => q F2 H2 v g2 ⟨a, vs, e, e2, rps_mapS r⟩
theorem tl_mapI {xs : List Int} (h : TvL K te σ F H xs) : TvL K te σ F H (xs.map Dv.int) := fun F1 H1 g Q q => h F1 H1 g Q fun F2 H2 p g2 n ⟨f, vs, e, r⟩ => q F2 H2 p g2 n ⟨f, vs, e, rps_mapI r⟩
theorem tl_mapS {xs : List PySem.Str} (h : TvL K te σ F H xs) : TvL K te σ F H (xs.map Dv.str) := fun F1 H1 g Q q => h F1 H1 g Q fun F2 H2 p g2 n ⟨f, vs, e, r⟩ => q F2 H2 p g2 n ⟨f, vs, e, rps_mapS r⟩
theorem dvTy (h : rp K F x v) (s : Same F H) : TyX K H v (.type x.ty) := by
  cases x with
  | non => exact Typ.is (n := "NoneType") (α := Unit) (x := ()) h s
  | bl b => exact Typ.is (n := "bool") (x := b) h s
  | int n => exact Typ.is (n := "int") (x := n) h s
  | str z => exact Typ.is (n := "str") (x := z) h s
  | lst xs => obtain ⟨a, vs, e, q, r⟩ := h; exact Typ.is (n := "list") (x := xs) ⟨a, vs, e, q, dvs_rps (K := K) r⟩ s
  | tup xs => obtain ⟨a, vs, e, q, r⟩ := h; exact Typ.is (n := "tuple") (x := Tup.mk xs) ⟨a, vs, e, q, dvs_rps (K := K) r⟩ s
theorem kitv (c : String) (h : ∀ t ∈ ["NoneType", "bool", "int", "str", "list", "tuple"], kitB t c = some (dyIsT c t)) (x : Dv) : kitB x.ty c = some (dvIs c x) := by
  refine h x.ty ?_
  cases x <;> simp [Dv.ty]
theorem kitv_int (x : Dv) : kitB x.ty "int" = some (dvIs "int" x) := kitv "int" (by decide +kernel) x
theorem kitv_bool (x : Dv) : kitB x.ty "bool" = some (dvIs "bool" x) := kitv "bool" (by decide +kernel) x
theorem kitv_str (x : Dv) : kitB x.ty "str" = some (dvIs "str" x) := kitv "str" (by decide +kernel) x
theorem kitv_list (x : Dv) : kitB x.ty "list" = some (dvIs "list" x) := kitv "list" (by decide +kernel) x
theorem kitv_tuple (x : Dv) : kitB x.ty "tuple" = some (dvIs "tuple" x) := kitv "tuple" (by decide +kernel) x
theorem tv_isiDv {c : String} (h : Tv K ta σ H H x) (e : kitB x.ty c = some (dvIs c x)) : Tv K (tCB (rIsi K) (tCons ta (tCons (tC (.ty c)) tNil))) σ H H (dvIs c x) := fun F1 H1 g Q q =>
  h F1 H1 g _ fun F2 H2 v g2 r => ⟨v, .ty c, .type x.ty, .type c, dvIs c x, rfl, .ty c, dvTy r g2.sub, kit_ty e, q F2 H2 _ g2 rfl⟩
theorem dvI_is (h1 : dvIs "int" x = true) (h2 : dvIs "bool" x = false) : isDI x = true := by
  cases x with
  | int n => rfl
  | non => exact absurd (show dyIsT "int" "NoneType" = true from h1) (by decide)
  | bl b => exact absurd (show dyIsT "bool" "bool" = false from h2) (by decide)
  | str z => exact absurd (show dyIsT "int" "str" = true from h1) (by decide)
  | lst xs => exact absurd (show dyIsT "int" "list" = true from h1) (by decide)
  | tup xs => exact absurd (show dyIsT "int" "tuple" = true from h1) (by decide)
theorem dvS_is (h1 : dvIs "str" x = true) : isDS x = true := by
  cases x with
  | str n => rfl
  | non => exact absurd (show dyIsT "str" "NoneType" = true from h1) (by decide)
  | bl b => exact absurd (show dyIsT "str" "bool" = true from h1) (by decide)
  | int z => exact absurd (show dyIsT "str" "int" = true from h1) (by decide)
  | lst xs => exact absurd (show dyIsT "str" "list" = true from h1) (by decide)
  | tup xs => exact absurd (show dyIsT "str" "tuple" = true from h1) (by decide)
theorem dvL_is (h1 : dvIs "list" x = true) : isDL x = true := by
  cases x with
  | lst n => rfl
  | non => exact absurd (show dyIsT "list" "NoneType" = true from h1) (by decide)
  | bl b => exact absurd (show dyIsT "list" "bool" = true from h1) (by decide)
  | int z => exact absurd (show dyIsT "list" "int" = true from h1) (by decide)
  | str xs => exact absurd (show dyIsT "list" "str" = true from h1) (by decide)
  | tup xs => exact absurd (show dyIsT "list" "tuple" = true from h1) (by decide)
end
/-! == of data of any kind: by PyData.eqv -/
mutual
def Dv.dat : Dv → PyData
  | .non => .none
  | .bl b => .bool b
  | .int i => .int i
  | .str z => .str z
  | .lst xs => .list (Dv.dats xs)
  | .tup xs => .tuple (Dv.dats xs)
def Dv.dats : List Dv → List PyData
  | [] => []
  | x :: r => x.dat :: Dv.dats r
end
mutual
theorem Dv.dp {K : Fg} {F : Hp} : ∀ {x : Dv} {v : V}, Dv.R F x v → Dp K F v x.dat
  | .non, _, h => by rw [show _ = V.non from h]; exact .non
  | .bl _, _, h => by rw [show _ = V.bl _ from h]; exact .bl _
  | .int _, _, h => by rw [show _ = V.int _ from h]; exact .int _
  | .str _, _, h => by rw [show _ = V.str _ from h]; exact .str _
  | .lst xs, _, h => by
    unfold Dv.R at h
    obtain ⟨a, vs, e, q, r⟩ := h
    rw [e]; unfold Dv.dat; exact .lst (SqL.of q) (Dv.dps r)
  | .tup xs, _, h => by
    unfold Dv.R at h
    obtain ⟨a, vs, e, q, r⟩ := h
    rw [e]; unfold Dv.dat; exact .tup (SqT.of q) (Dv.dps r)
theorem Dv.dps {K : Fg} {F : Hp} : ∀ {xs : List Dv} {vs : List V}, Dv.Rs F xs vs → DpAll K F vs (Dv.dats xs)
  | [], _, h => by unfold Dv.Rs at h; rw [h]; unfold Dv.dats; exact .nil
  | x :: r, _, h => by unfold Dv.Rs at h; obtain ⟨v, t, e, q, h⟩ := h; rw [e]; unfold Dv.dats; exact .cons (Dv.dp q) (Dv.dps h)
end
theorem op2_eqV {K : Fg} {x y : Dv} (hx : SeqAt.shaped x.dat = true) (hy : SeqAt.shaped y.dat = true) : Op2 K (rEqD K) x y (PyData.eqv x.dat y.dat) := fun F H v w s r1 r2 Q q =>
  ⟨x.dat, y.dat, Dv.dp (up s r1), Dv.dp (up s r2), hx, hy, q F H _ (Gr.refl s) rfl⟩
theorem op2_neV {K : Fg} {x y : Dv} (hx : SeqAt.shaped x.dat = true) (hy : SeqAt.shaped y.dat = true) : Op2 K (rNeD K) x y (!PyData.eqv x.dat y.dat) := fun F H v w s r1 r2 Q q =>
  ⟨x.dat, y.dat, Dv.dp (up s r1), Dv.dp (up s r2), hx, hy, q F H _ (Gr.refl s) rfl⟩
/-! ### errors with fields -/
structure Er where
  c : PySem.Str
  fs : List (PySem.Str × Dv)
  deriving DecidableEq
instance : Inhabited Er := ⟨⟨default, []⟩⟩
def FsR (F : Hp) (fs : List (PySem.Str × Dv)) (vs : List (PySem.Str × V)) : Prop := Paired (fun x y => y.1 = x.1 ∧ Dv.R F x.2 y.2) fs vs
theorem FsR.mono {F F' : Hp} {fs : List (PySem.Str × Dv)} {vs : List (PySem.Str × V)} (s : Same F F') (h : FsR F fs vs) : FsR F' fs vs := Paired.mono (fun _ _ r => ⟨r.1, Dv.R_mono s r.2⟩) h
/-- the class and the dict of an error that stands for e -/
def EOk (K : Fg) (F : Hp) (e : Er) (cls : Value) (d : Option Addr) : Prop := cls = .ref (He.ga K e.c) ∧ ((e.fs = [] ∧ d = none) ∨ ∃ dd vs, d = some dd ∧ F dd = some (.xd vs) ∧ FsR F e.fs vs ∧ e.fs ≠ [])
theorem EOk.mono {K : Fg} {F F' : Hp} {e : Er} {cls : Value} {d : Option Addr} (s : Same F F') (h : EOk K F e cls d) : EOk K F' e cls d :=
  ⟨h.1, h.2.imp id fun ⟨dd, vs, e1, e2, e3, e4⟩ => ⟨dd, vs, e1, s dd _ e2, e3.mono s, e4⟩⟩
instance : Rep Er := ⟨fun K F e v => ∃ a cls d, v = .ref a ∧ F a = some (Cgt cls d a) ∧ EOk K F e cls d, fun l ⟨a, cls, d, h1, h2, h3⟩ => ⟨a, cls, d, h1, l a _ h2, h3.mono l⟩⟩
instance : Nn Er := ⟨fun ⟨_, _, _, e, _⟩ z => by rw [e] at z; cases z⟩
@[irreducible] def bx {ε α β : Type} (r : Except ε α) (k : α → Except ε β) : Except ε β := match r with
  | .ok y => k y
  | .error e => .error e
theorem bx_ok {ε α β : Type} (y : α) (k : α → Except ε β) : bx (.ok y) k = k y := by unfold bx; rfl
theorem bx_er {ε α β : Type} (e : ε) (k : α → Except ε β) : bx (.error e) k = .error e := by unfold bx; rfl
theorem p_bx {ε α β : Type} {P : Except ε β → Prop} {r : Except ε α} {k : α → Except ε β} {G : Prop} (hP : P (bx r k)) (ok : ∀ y, r = .ok y → P (k y) → G) (er : ∀ e, r = .error e → P (.error e) → G) : G := by
  cases h : r with
  | ok y => rw [h, bx_ok] at hP; exact ok y h hP
  | error e => rw [h, bx_er] at hP; exact er e h hP
/-- a call that does not fail -/
def okE {ε α : Type} [Inhabited α] (r : Except ε α) : α := match r with
  | .ok y => y
  | .error _ => default
def isOk {ε α : Type} (r : Except ε α) : Bool := match r with
  | .ok _ => true
  | .error _ => false
theorem okE_is {ε α : Type} [Inhabited α] {r : Except ε α} (h : isOk r = true) : r = .ok (okE r) := by
  cases r with
  | ok y => rfl
  | error e => cases h
end Rf

/-! ### errors: made, raised, caught, read -/
namespace Rf
open PySem PySem.Spec PyProof.Rows L2
open Rep (rp)
theorem cls_some {K : Fg} {C : Addr} (h : PySem.W.hasDictIn K C = true) : (PySem.W.clsIn K C).isSome = true := by
  unfold PySem.W.hasDictIn at h
  cases e : PySem.W.clsIn K C with
  | none => rw [e] at h; cases h
  | some c => rfl
section
variable {X : Cx}
/-- isinstance(e, c), e a tracked error -/
def rIsE (K : Fg) : List V → Hp → VK → Prop := fun xs H Q => ∃ (a D : Addr) (d : Option Addr) (c : V) (cv : Value) (b : Bool), xs = [.ref a, c] ∧ H a = some (Cgt (.ref D) d a) ∧ (d = none ∨ ∃ dd fs, d = some dd ∧ H dd = some (.xd fs)) ∧ ExcC K D ∧ ClsV c cv ∧ PySem.W.kitOne K (.ref D) cv = some b ∧ Q (.bl b) H
/-- a tracked error with its dict -/
theorem cgt_inst {pins : List (Addr × Obj)} {σ : L2.St} {H : Hp} {s : Shared} {a D dd : Addr} {fs : List (PySem.Str × V)} (I : Inv X pins σ H s) (ha : H a = some (Cgt (.ref D) (some dd) a)) (hdd : H dd = some (.xd fs)) :
    ∃ oe od mA, PySem.W.InstAt s.heap a oe D (some od) ∧ s.heap.Ns1 dd mA ∧ (∀ f, RelO (fs.lookup f) (mA f)) ∧ ∀ x, PySem.W.lookIn x od = some (mA x) := by
  obtain ⟨⟨oe, fl, hget, hz, hv⟩, _, _⟩ := (show ObjOk X.prog X.w H s.heap a (Cgt (.ref D) (some dd) a) from I.hok a _ ha)
  obtain ⟨mA, hns, hr⟩ := (show ObjOk X.prog X.w H s.heap dd (.xd fs) from I.hok dd _ hdd)
  obtain ⟨od, ho, hl⟩ := lookIn_ns hns
  refine ⟨oe, od, mA, ?_, hns, hr, hl⟩
  obtain ⟨oc, od', oda, osl⟩ := oe
  obtain ⟨h1, h2⟩ := hz
  dsimp only at h1 h2 hv
  subst h1 h2 hv
  exact ⟨hget, rfl, rfl, ho⟩
theorem call_isEr (K : Fg) (h : X.K = K := by rfl) : CallR X (.builtin "isinstance") (rIsE K) := by
  subst h
  intro pins s σ H xs us Q I r h
  obtain ⟨a, D, d, c, cv, b, rfl, ha, hd, C, hc, e, q⟩ := h
  obtain ⟨u1, u2, rfl, r1, r2⟩ := vals2 r
  cases (show u1 = Value.ref a from r1)
  have e2 := hc.eq r2
  subst e2
  rcases hd with rfl | ⟨dd, fs, rfl, hdd⟩
  · obtain ⟨⟨oe, fl, hget, hz, hv⟩, _, _⟩ := (show ObjOk X.prog X.w H s.heap a (Cgt (.ref D) none a) from I.hok a _ ha)
    have J : PySem.W.InstAt s.heap a oe D none := by
      obtain ⟨oc, od, oda, osl⟩ := oe
      obtain ⟨h1, h2⟩ := hz
      dsimp only at h1 h2 hv
      subst h1 h2 hv
      exact ⟨hget, rfl, rfl, trivial⟩
    exact PySem.W.kia_one (PySem.W.kitx_exc (cls_some C.hd) C.hg C.hk C.hs C.ha C.hn C.ht C.hm) I.kIn J e (fun z => nomatch z) fun tk => ⟨.bl b, H, I.kept (t' := tk) fun _ _ z => z, rfl, q⟩
  · obtain ⟨oe, od, mA, J, _⟩ := cgt_inst I ha hdd
    exact PySem.W.kia_one (PySem.W.kitx_exc (cls_some C.hd) C.hg C.hk C.hs C.ha C.hn C.ht C.hm) I.kIn J e (fun z => nomatch z) fun tk => ⟨.bl b, H, I.kept (t' := tk) fun _ _ z => z, rfl, q⟩
/-- e.f, e a tracked error -/
def tEf (K : Fg) (f : PySem.Str) (te : TE) : TE := fun σ H Q => te σ H fun x H1 => ∃ (a C dd : Addr) (fs : List (PySem.Str × V)) (v : V), x = .ref a ∧ H1 a = some (Cgt (.ref C) (some dd) a) ∧ ExcC K C ∧ PySem.W.findIn K (.ref C) f = some none ∧ H1 dd = some (.xd fs) ∧ fs.lookup f = some v ∧ Q v H1
theorem pe_ef {e : Expr} {te : TE} {pos : Pos} {n : PySem.Str} (K : Fg) (he : PE X e te) (h : X.K = K := by rfl) (hb : attributeBase e n X.env (eval e X.env) = eval e X.env := by rfl) : PE X (.Attribute e n pos) (tEf K n te) := by
  subst h
  refine ⟨fun pins s σ H Q I h => ?_⟩
  refine attr_of hb (thn (he.run pins s σ H _ I h) fun u s1 hh => ?_)
  obtain ⟨x, H1, I1, rx, a, C, dd, fs, v, ex, ha, T, hno, hdd, l, q⟩ := hh
  subst ex
  obtain rfl : u = Value.ref a := rx
  obtain ⟨oe, od, mA, J, hns, hr, hl⟩ := cgt_inst I1 ha hdd
  obtain ⟨u, hu, ru⟩ := RelO.some_of (v := v) (o := mA n) (by rw [← l]; exact hr n)
  exact HandSPX.exc_get I1.kIn J T.hg T.hk T.hs (PySem.W.findObj_own T.hd hno rfl (by rw [hl, hu])) (handed_of ru) ⟨v, H1, I1.tok _, ru, q⟩
end
end Rf

/-! ### promises and calls -/
namespace Rf
open PySem PySem.Spec PyProof.Rows L2
open Rep (rp)
section
variable {X : Cx} {CX : CXT} {k : Nat} {f : Addr} {fd : FuncData} {ps : List PySem.Str} {sp : Sp} {E : L2.St → XK} {C : Addr} {m : PySem.Str} {apos pos : Pos} {o e : Expr} {es : List Expr} {ta : TE} {t : TA}
/-- o.m(e, ..), what it raises wished for at the slots -/
def tMS (C : Addr) (m : PySem.Str) (sp : Sp) (E : L2.St → XK) (ta : TE) (t : TA) : TE := fun σ H Q => ta σ H fun x H1 => ∃ a dx fs, x = .ref a ∧ H1 a = some (.ins C dx fs) ∧ fs.lookup m = none ∧ t σ H1 fun vs H2 => sp (x :: vs) H2 Q (E σ)
theorem pe_mS {pl : Sem Bool} (he : PE X o ta) (c : Cls X.K C) (hm : Meth X.K C m f) (F : FnOk X.prog X.w X.K X.mg X.base CX k f fd ps sp) (hr : Room k X.A) (hb : Binds X.K fd ps []) (hx : ∀ σ, PassesAt CX X σ (E σ)) (ha : PA X (e :: es) t)
    (hst : starEach (e :: es) X.env = (false, eval e X.env) :: starEach es X.env := by rfl) (hpl : (backTo pos (starEach es X.env)).any (·.1) = false := by rfl)
    (ht : eval (.Call (.Attribute o m apos) (e :: es) [] pos) X.env = (do
      let ov ← eval o X.env
      standAt apos.atName
      let (f, first) ← holding [ov] (getMethod ov m pl)
      callWith pos f first (backTo pos (starEach (e :: es) X.env)) (backToKw pos (keywordEach [] X.env))) := by rfl) :
    PE X (.Call (.Attribute o m apos) (e :: es) [] pos) (tMS C m sp E ta t) := by
  refine ⟨fun pins s σ H Q I h => ?_⟩
  refine PySem.W.methodCall_KW (pl := pl) (thn (he.run pins s σ H _ I h) fun u s1 ⟨x, H1, I1, rx, a, dx, fs, ex, ea, l, q⟩ => ?_) ht
  subst ex
  obtain rfl : u = Value.ref a := rx
  refine getmeth_ok I1 ea c hm l ?_
  refine PySem.W.callWith_K (first := [.ref a]) (h₀ := X.base) I.ok.mod.kin hm.kp (thn (ha.run pos pins s1 σ H1 _ I1 q) fun us s2 ⟨vs, H2, I2, r, q2⟩ => ⟨I2.kIn, ?_⟩) hst hpl
  exact run_fnSD (dvs := []) (us := .ref a :: us) (vs := .ref a :: vs) F hr hb .nil (hx σ) I2 (.cons rfl r) (by rw [List.append_nil]; exact q2)
theorem pe_mS0 {pl : Sem Bool} (he : PE X o ta) (c : Cls X.K C) (hm : Meth X.K C m f) (F : FnOk X.prog X.w X.K X.mg X.base CX k f fd ps sp) (hr : Room k X.A) (hb : Binds X.K fd ps []) (hx : ∀ σ, PassesAt CX X σ (E σ))
    (ht : eval (.Call (.Attribute o m apos) [] [] pos) X.env = (do
      let ov ← eval o X.env
      standAt apos.atName
      let (f, first) ← holding [ov] (getMethod ov m pl)
      callWith pos f first (backTo pos (starEach [] X.env)) (backToKw pos (keywordEach [] X.env))) := by rfl) :
    PE X (.Call (.Attribute o m apos) [] [] pos) (tMS C m sp E ta tNil) := by
  refine ⟨fun pins s σ H Q I h => ?_⟩
  refine PySem.W.methodCall_KW (pl := pl) (thn (he.run pins s σ H _ I h) fun u s1 ⟨x, H1, I1, rx, a, dx, fs, ex, ea, l, q⟩ => ?_) ht
  subst ex
  obtain rfl : u = Value.ref a := rx
  refine getmeth_ok I1 ea c hm l ?_
  exact PySem.W.callWith_K0 (first := [.ref a]) I1.kIn hm.kp (run_fnSD (dvs := []) (us := [.ref a]) (vs := [.ref a]) F hr hb .nil (hx σ) I1 (.cons rfl .nil) (by rw [List.append_nil]; exact q))
end
/-- what an error leaves -/
def PEr (K : Fg) (F H : Hp) (E : XK) (e : Er) : Prop := ∀ F' H' cls d, Gr F H F' H' → EOk K F' e cls d → E cls d H'
abbrev RR := Hp → Hp → Hp → Hp → V → Prop
def rV [Rep β] (K : Fg) (y : β) : RR := fun F H F' H' v => Gr F H F' H' ∧ rp K F' y v
def rL [Rep β] (K : Fg) (ys : List β) : RR := fun F H F' H' v => Gr F H F' H' ∧ ∃ p, v = .ref p ∧ H p = none ∧ MutL K F' H' p ys
def rD [Rep κ] [KeyD κ] [Rep β] (K : Fg) (d : List (κ × β)) : RR := fun F H F' H' v => Gr F H F' H' ∧ ∃ p, v = .ref p ∧ H p = none ∧ MutD K F' H' p d
/-- how a def ends -/
def En (R : α → RR) (F H : Hp) (Q : VK) (y : α) : Prop := ∀ F' H' v, R y F H F' H' v → Q v H'
def EnX (K : Fg) (R : α → RR) (F H : Hp) (Q : VK) (E : XK) : Except Er α → Prop
  | .ok y => En R F H Q y
  | .error e => PEr K F H E e
theorem enx_ok {K : Fg} {R : α → RR} {F H : Hp} {Q : VK} {E : XK} {y : α} (h : EnX K R F H Q E (.ok y)) : En R F H Q y := h
theorem enx_er {K : Fg} {R : α → RR} {F H : Hp} {Q : VK} {E : XK} {e : Er} (h : EnX K R F H Q E (.error e)) : PEr K F H E e := h
/-- promises by values -/
def SpR (sp : Sp) (P : Hp → List V → Prop) (C : Hp → Hp → Prop) (R : RR) : Prop := ∀ F H vs Q E, Same F H → P F vs → C F H → (∀ F' H' v, R F H F' H' v → Q v H') → sp vs H Q E
def SpRX (K : Fg) (sp : Sp) (P : Hp → List V → Prop) (C : Hp → Hp → Prop) (R : α → RR) (r : Except Er α) : Prop := ∀ F H vs Q E, Same F H → P F vs → C F H → EnX K R F H Q E r → sp vs H Q E
abbrev CT : Hp → Hp → Prop := fun _ _ => True
section
variable {K : Fg} {σ : L2.St} {F H F1 H1 : Hp} {te ta tb : TE} {t : TA} {sp : Sp} {E : XK} {E' : L2.St → XK} {P : Hp → List V → Prop} {C : Hp → Hp → Prop} {p : Addr} {Cc : Addr} {m : PySem.Str} {W : WX} {e : Er} {D : Ends} {u : TS} {i : Nat}
/-- an instance without an attribute m -/
def InsM (H : Hp) (p C : Addr) (m : PySem.Str) : Prop := ∃ dx fs, H p = some (.ins C dx fs) ∧ fs.lookup m = none
theorem InsM.gr (h : InsM H p Cc m) (g : Gr F H F1 H1) : InsM H1 p Cc m := let ⟨dx, fs, e, l⟩ := h; ⟨dx, fs, g.keep p _ e, l⟩
/-- the rest of a call, by its kind of reading: W tells the vs' head -/
theorem tv_callV [Rep β] {y : β} (h : TvA t σ F H P) (hs : SpR sp P C (rV K y)) (c : ∀ {F2 H2}, Gr F H F2 H2 → C F2 H2) : Tv K (tCall sp [] E t) σ F H y := fun F1 H1 g Q q =>
  h F1 H1 g _ fun F2 H2 vs g2 p => hs F2 H2 (vs ++ []) Q E g2.sub (by rw [List.append_nil]; exact p) (c (g.trans g2)) fun F3 H3 r ⟨g3, rr⟩ => q F3 H3 r (g2.trans g3) rr
theorem tl_callV [Rep β] {y : List β} (h : TvA t σ F H P) (hs : SpR sp P C (rL K y)) (c : ∀ {F2 H2}, Gr F H F2 H2 → C F2 H2) : TvL K (tCall sp [] E t) σ F H y := fun F1 H1 g Q q =>
  h F1 H1 g _ fun F2 H2 vs g2 p => hs F2 H2 (vs ++ []) Q E g2.sub (by rw [List.append_nil]; exact p) (c (g.trans g2)) fun F3 H3 r ⟨g3, a, e, n, m⟩ => by subst e; exact q F3 H3 a (g2.trans g3) (none_of g2.keep n) m
theorem td_callV [Rep κ] [KeyD κ] [Rep β] {y : List (κ × β)} (h : TvA t σ F H P) (hs : SpR sp P C (rD K y)) (c : ∀ {F2 H2}, Gr F H F2 H2 → C F2 H2) : TvD K (tCall sp [] E t) σ F H y := fun F1 H1 g Q q =>
  h F1 H1 g _ fun F2 H2 vs g2 p => hs F2 H2 (vs ++ []) Q E g2.sub (by rw [List.append_nil]; exact p) (c (g.trans g2)) fun F3 H3 r ⟨g3, a, e, n, m⟩ => by subst e; exact q F3 H3 a (g2.trans g3) (none_of g2.keep n) m
theorem tv_callW [Rep β] {y : β} {r : Except Er β} (h : TvA t σ F H P) (hs : SpRX K sp P C (rV K) r) (c : ∀ {F2 H2}, Gr F H F2 H2 → C F2 H2) (hr : r = .ok y) : Tv K (tCallS sp E' t) σ F H y := fun F1 H1 g Q q =>
  h F1 H1 g _ fun F2 H2 vs g2 p => hs F2 H2 vs Q _ g2.sub p (c (g.trans g2)) (by subst hr; exact fun F3 H3 r ⟨g3, rr⟩ => q F3 H3 r (g2.trans g3) rr)
theorem tl_callW [Rep β] {y : List β} {r : Except Er (List β)} (h : TvA t σ F H P) (hs : SpRX K sp P C (rL K) r) (c : ∀ {F2 H2}, Gr F H F2 H2 → C F2 H2) (hr : r = .ok y) : TvL K (tCallS sp E' t) σ F H y := fun F1 H1 g Q q =>
  h F1 H1 g _ fun F2 H2 vs g2 p => hs F2 H2 vs Q _ g2.sub p (c (g.trans g2)) (by subst hr; exact fun F3 H3 r ⟨g3, a, e, n, m⟩ => by subst e; exact q F3 H3 a (g2.trans g3) (none_of g2.keep n) m)
theorem td_callW [Rep κ] [KeyD κ] [Rep β] {y : List (κ × β)} {r : Except Er (List (κ × β))} (h : TvA t σ F H P) (hs : SpRX K sp P C (rD K) r) (c : ∀ {F2 H2}, Gr F H F2 H2 → C F2 H2) (hr : r = .ok y) : TvD K (tCallS sp E' t) σ F H y := fun F1 H1 g Q q =>
  h F1 H1 g _ fun F2 H2 vs g2 p => hs F2 H2 vs Q _ g2.sub p (c (g.trans g2)) (by subst hr; exact fun F3 H3 r ⟨g3, a, e, n, m⟩ => by subst e; exact q F3 H3 a (g2.trans g3) (none_of g2.keep n) m)
/-! methods -/
theorem tv_methV [Rep β] {y : β} (hq : TvQ ta σ H (.ref p)) (hi : InsM H p Cc m) (h : TvA t σ F H P) (hs : SpR sp (fun F vs => ∃ r, vs = .ref p :: r ∧ P F r) C (rV K y)) (c : ∀ {F2 H2}, Gr F H F2 H2 → C F2 H2) : Tv K (tMeth Cc m sp [] E ta t) σ F H y := fun F1 H1 g Q q =>
  hq H1 g.keep _ <| by
    obtain ⟨dx, fs, e, l⟩ := hi.gr g
    exact ⟨p, dx, fs, rfl, e, l, h F1 H1 g _ fun F2 H2 vs g2 pp => hs F2 H2 _ Q E g2.sub ⟨_, rfl, by rw [List.append_nil]; exact pp⟩ (c (g.trans g2)) fun F3 H3 r ⟨g3, rr⟩ => q F3 H3 r (g2.trans g3) rr⟩
theorem tl_methV [Rep β] {y : List β} (hq : TvQ ta σ H (.ref p)) (hi : InsM H p Cc m) (h : TvA t σ F H P) (hs : SpR sp (fun F vs => ∃ r, vs = .ref p :: r ∧ P F r) C (rL K y)) (c : ∀ {F2 H2}, Gr F H F2 H2 → C F2 H2) : TvL K (tMeth Cc m sp [] E ta t) σ F H y := fun F1 H1 g Q q =>
  hq H1 g.keep _ <| by
    obtain ⟨dx, fs, e, l⟩ := hi.gr g
    exact ⟨p, dx, fs, rfl, e, l, h F1 H1 g _ fun F2 H2 vs g2 pp => hs F2 H2 _ Q E g2.sub ⟨_, rfl, by rw [List.append_nil]; exact pp⟩ (c (g.trans g2)) fun F3 H3 r ⟨g3, a, e, n, m⟩ => by subst e; exact q F3 H3 a (g2.trans g3) (none_of g2.keep n) m⟩
theorem td_methV [Rep κ] [KeyD κ] [Rep β] {y : List (κ × β)} (hq : TvQ ta σ H (.ref p)) (hi : InsM H p Cc m) (h : TvA t σ F H P) (hs : SpR sp (fun F vs => ∃ r, vs = .ref p :: r ∧ P F r) C (rD K y)) (c : ∀ {F2 H2}, Gr F H F2 H2 → C F2 H2) : TvD K (tMeth Cc m sp [] E ta t) σ F H y := fun F1 H1 g Q q =>
  hq H1 g.keep _ <| by
    obtain ⟨dx, fs, e, l⟩ := hi.gr g
    exact ⟨p, dx, fs, rfl, e, l, h F1 H1 g _ fun F2 H2 vs g2 pp => hs F2 H2 _ Q E g2.sub ⟨_, rfl, by rw [List.append_nil]; exact pp⟩ (c (g.trans g2)) fun F3 H3 r ⟨g3, a, e, n, m⟩ => by subst e; exact q F3 H3 a (g2.trans g3) (none_of g2.keep n) m⟩
theorem tv_methW [Rep β] {y : β} {r : Except Er β} (hq : TvQ ta σ H (.ref p)) (hi : InsM H p Cc m) (h : TvA t σ F H P) (hs : SpRX K sp (fun F vs => ∃ r, vs = .ref p :: r ∧ P F r) C (rV K) r) (c : ∀ {F2 H2}, Gr F H F2 H2 → C F2 H2) (hr : r = .ok y) : Tv K (tMS Cc m sp E' ta t) σ F H y := fun F1 H1 g Q q =>
  hq H1 g.keep _ <| by
    obtain ⟨dx, fs, e, l⟩ := hi.gr g
    exact ⟨p, dx, fs, rfl, e, l, h F1 H1 g _ fun F2 H2 vs g2 pp => hs F2 H2 _ Q _ g2.sub ⟨_, rfl, pp⟩ (c (g.trans g2)) (by subst hr; exact fun F3 H3 r ⟨g3, rr⟩ => q F3 H3 r (g2.trans g3) rr)⟩
theorem tl_methW [Rep β] {y : List β} {r : Except Er (List β)} (hq : TvQ ta σ H (.ref p)) (hi : InsM H p Cc m) (h : TvA t σ F H P) (hs : SpRX K sp (fun F vs => ∃ r, vs = .ref p :: r ∧ P F r) C (rL K) r) (c : ∀ {F2 H2}, Gr F H F2 H2 → C F2 H2) (hr : r = .ok y) : TvL K (tMS Cc m sp E' ta t) σ F H y := fun F1 H1 g Q q =>
  hq H1 g.keep _ <| by
    obtain ⟨dx, fs, e, l⟩ := hi.gr g
    exact ⟨p, dx, fs, rfl, e, l, h F1 H1 g _ fun F2 H2 vs g2 pp => hs F2 H2 _ Q _ g2.sub ⟨_, rfl, pp⟩ (c (g.trans g2)) (by subst hr; exact fun F3 H3 r ⟨g3, a, e, n, m⟩ => by subst e; exact q F3 H3 a (g2.trans g3) (none_of g2.keep n) m)⟩
theorem td_methW [Rep κ] [KeyD κ] [Rep β] {y : List (κ × β)} {r : Except Er (List (κ × β))} (hq : TvQ ta σ H (.ref p)) (hi : InsM H p Cc m) (h : TvA t σ F H P) (hs : SpRX K sp (fun F vs => ∃ r, vs = .ref p :: r ∧ P F r) C (rD K) r) (c : ∀ {F2 H2}, Gr F H F2 H2 → C F2 H2) (hr : r = .ok y) : TvD K (tMS Cc m sp E' ta t) σ F H y := fun F1 H1 g Q q =>
  hq H1 g.keep _ <| by
    obtain ⟨dx, fs, e, l⟩ := hi.gr g
    exact ⟨p, dx, fs, rfl, e, l, h F1 H1 g _ fun F2 H2 vs g2 pp => hs F2 H2 _ Q _ g2.sub ⟨_, rfl, pp⟩ (c (g.trans g2)) (by subst hr; exact fun F3 H3 r ⟨g3, a, e, n, m⟩ => by subst e; exact q F3 H3 a (g2.trans g3) (none_of g2.keep n) m)⟩
/-! errors out of calls -/
/-- a reading that ends in the error e -/
def TvF (K : Fg) (te : TE) (σ : L2.St) (F H : Hp) (e : Er) (W : WX) : Prop := ∀ F1 H1, Gr F H F1 H1 → (∀ F2 H2 cls d, Gr F1 H1 F2 H2 → EOk K F2 e cls d → W cls d σ H2) → ∀ Q, te σ H1 Q
theorem tf_callW {r : Except Er α} {R : α → RR} (h : TvA t σ F H P) (hs : SpRX K sp P C R r) (c : ∀ {F2 H2}, Gr F H F2 H2 → C F2 H2) (hr : r = .error e) : TvF K (tCallS sp (WE W) t) σ F H e W := fun F1 H1 g k Q =>
  h F1 H1 g _ fun F2 H2 vs g2 p => hs F2 H2 vs Q _ g2.sub p (c (g.trans g2)) (by subst hr; exact fun F3 H3 cls d g3 x => k F3 H3 cls d (g2.trans g3) x)
theorem tf_methW {r : Except Er α} {R : α → RR} (hq : TvQ ta σ H (.ref p)) (hi : InsM H p Cc m) (h : TvA t σ F H P) (hs : SpRX K sp (fun F vs => ∃ r, vs = .ref p :: r ∧ P F r) C R r) (c : ∀ {F2 H2}, Gr F H F2 H2 → C F2 H2) (hr : r = .error e) : TvF K (tMS Cc m sp (WE W) ta t) σ F H e W := fun F1 H1 g k Q =>
  hq H1 g.keep _ <| by
    obtain ⟨dx, fs, e, l⟩ := hi.gr g
    exact ⟨p, dx, fs, rfl, e, l, h F1 H1 g _ fun F2 H2 vs g2 pp => hs F2 H2 _ Q _ g2.sub ⟨_, rfl, pp⟩ (c (g.trans g2)) (by subst hr; exact fun F3 H3 cls d g3 x => k F3 H3 cls d (g2.trans g3) x)⟩
theorem tf_lc {g : TG} {tt : TT} {vs : List Nat} (h : TvF K ta σ F H e W) : TvF K (tLc (iList K ta) g tt te vs) σ F H e W := fun F1 H1 gr k Q => h F1 H1 gr k _
theorem tf_cb1 {rr : List V → Hp → VK → Prop} (h : TvF K ta σ F H e W) : TvF K (tCB rr (tCons ta tNil)) σ F H e W := fun F1 H1 gr k Q => h F1 H1 gr k _
theorem x_setE {g : TG} (s : Same F H) (h : TvF K te σ F H e W) (k : ∀ F2 H2 cls d, Gr F H F2 H2 → EOk K F2 e cls d → W cls d σ H2) : tSeq (tAsg te g) u D σ H := h F H (Gr.refl s) k _
theorem x_dropE (s : Same F H) (h : TvF K te σ F H e W) (k : ∀ F2 H2 cls d, Gr F H F2 H2 → EOk K F2 e cls d → W cls d σ H2) : tSeq (tDrop te) u D σ H := h F H (Gr.refl s) k _
theorem x_retE (s : Same F H) (h : TvF K te σ F H e W) (k : ∀ F2 H2 cls d, Gr F H F2 H2 → EOk K F2 e cls d → W cls d σ H2) : tSeq (tRet te) u D σ H := h F H (Gr.refl s) k _
theorem x_forE {g : TG} {t : TS} (s : Same F H) (h : TvF K te σ F H e W) (k : ∀ F2 H2 cls d, Gr F H F2 H2 → EOk K F2 e cls d → W cls d σ H2) : tSeq (tFor (iList K te) g t) u D σ H := h F H (Gr.refl s) k _
/-! returns -/
theorem x_ret [Rep β] {y : β} (s : Same F H) (he : Tv K te σ F H y) (k : ∀ F1 H1 v, Gr F H F1 H1 → rp K F1 y v → D.rt v H1) : tSeq (tRet te) u D σ H := he F H (Gr.refl s) _ k
theorem x_retL [Rep β] {y : List β} (s : Same F H) (he : TvL K te σ F H y) (k : ∀ F1 H1 p, Gr F H F1 H1 → H p = none → MutL K F1 H1 p y → D.rt (.ref p) H1) : tSeq (tRet te) u D σ H := he F H (Gr.refl s) _ k
theorem x_retD [Rep κ] [KeyD κ] [Rep β] {y : List (κ × β)} (s : Same F H) (he : TvD K te σ F H y) (k : ∀ F1 H1 p, Gr F H F1 H1 → H p = none → MutD K F1 H1 p y → D.rt (.ref p) H1) : tSeq (tRet te) u D σ H := he F H (Gr.refl s) _ k
theorem x_retQ {v : V} (he : TvQ te σ H v) (k : D.rt v H) : tSeq (tRet te) u D σ H := he H (Same.refl H) _ k
/-! raise C('..'); raise C(x, ..) -/
theorem x_raise {c : PySem.Str} (s : Same F H) (k : ∀ F2 H2 cls d, Gr F H F2 H2 → EOk K F2 ⟨c, []⟩ cls d → W cls d σ H2) : tSeq (fun _ σ H => (fun _ H Q => Q (.ref (He.ga K c)) none H : L2.St → Hp → XK → Prop) σ H fun cls d H' => W cls d σ H') u D σ H :=
  k F H _ _ (Gr.refl s) ⟨rfl, .inl ⟨rfl, rfl⟩⟩
/-- what an __init__ that stores its parameters promises -/
def spEx (C : Addr) (fs : List PySem.Str) : Sp := fun vs H Q _ => ∃ a ws, vs = .ref a :: ws ∧ ws.length = fs.length ∧ H a = some (exo a C none) ∧ ∀ d H', (∀ b o, H b = some o → b ≠ a → H' b = some o) → H d = none → d ≠ a → H' a = some (exo a C (some d)) → H' d = some (exd d (fs.zip ws).reverse) →
  (∀ b, b ≠ a → b ≠ d → H' b = H b) → Q .non H'
theorem paired_app {α β : Type} {G : α → β → Prop} : ∀ {a a' : List α} {b b' : List β}, Paired G a b → Paired G a' b' → Paired G (a ++ a') (b ++ b')
  | _, _, _, _, .nil, h => h
  | _, _, _, _, .cons r t, h => .cons r (paired_app t h)
theorem paired_rev {α β : Type} {G : α → β → Prop} : ∀ {a : List α} {b : List β}, Paired G a b → Paired G a.reverse b.reverse
  | _, _, .nil => .nil
  | _, _, .cons r t => by rw [List.reverse_cons, List.reverse_cons]; exact paired_app (paired_rev t) (.cons r .nil)
theorem fsr_zip {K : Fg} {F : Hp} : ∀ {fs : List PySem.Str} {xs : List Dv} {vs : List V}, Rps K F xs vs → FsR F (fs.zip xs) (fs.zip vs)
  | [], _, _, _ => by simp only [List.zip_nil_left]; exact .nil
  | _ :: _, _, _, .nil => .nil
  | _ :: _, _, _, .cons h t => .cons ⟨rfl, h⟩ (fsr_zip t)
theorem gr_new {H : Hp} {o : HO} (s : Same F H) (h : H p = none) : Gr F H (upd F p o) (upd H p o) := Gr.lay s h
theorem x_raiseX {c : PySem.Str} {fs : List PySem.Str} {xs : List Dv} (s : Same F H) (ha : TvA t σ F H (fun F vs => Rps K F xs vs)) (hl : xs.length = fs.length) (h0 : xs ≠ []) (h9 : xs.length ≤ 1000)
    (k : ∀ F2 H2 cls d, Gr F H F2 H2 → EOk K F2 ⟨c, (fs.zip xs).reverse⟩ cls d → W cls d σ H2) :
    tSeq (fun _ σ H => (tMkO (He.ga K c) (spEx (He.ga K c) fs) [] t) σ H fun cls d H' => W cls d σ H') u D σ H :=
  ha F H (Gr.refl s) _ fun F2 H2 vs g2 r => by
    have hv : vs.length = xs.length := wk_len r
    refine ⟨by omega, fun a na => ⟨a, vs ++ [], rfl, by rw [List.append_nil]; omega, upd_same, fun d H' kp hd hda h1 h2 hr => ⟨rfl, d, _, h1, h2, ?_, ?_⟩⟩⟩
    · rw [upd_ne hda] at hd; exact hd
    · have hd0 : H2 d = none := by rw [upd_ne hda] at hd; exact hd
      have e : upd (del H' a) d (.xd (fs.zip (vs ++ [])).reverse) = upd H2 d (.xd (fs.zip vs).reverse) := by
        rw [List.append_nil]
        funext b
        by_cases hb : b = d
        · subst hb; rw [upd_same, upd_same]
        · rw [upd_ne hb, upd_ne hb]
          by_cases hba : b = a
          · subst hba; rw [del_same, na]
          · rw [del_ne hba, hr b hba hb, upd_ne hba]
      show W _ _ σ _
      rw [e]
      refine k (upd F2 d (.xd (fs.zip vs).reverse)) _ _ _ (g2.trans (gr_new g2.sub hd0)) ⟨rfl, .inr ⟨d, _, rfl, upd_same, ?_, ?_⟩⟩
      · have q : FsR F2 (fs.zip xs) (fs.zip vs) := fsr_zip r
        have q2 : FsR F2 (fs.zip xs).reverse (fs.zip vs).reverse := paired_rev q
        exact q2.mono (same_new (none_of g2.sub hd0))
      · intro z
        have := congrArg List.length z
        rw [List.length_reverse, List.length_zip, hl, Nat.min_self, List.length_nil] at this
        rw [this] at hl
        exact h0 (List.length_eq_zero_iff.mp hl)
end
end Rf

/-! ### what the top says of a class, as a Bool -/
namespace Rf
open PySem PySem.Spec PyProof.Rows L2
/-- an own error's class with an __init__ -/
def oexB (K : Fg) (C : Addr) : Bool := (match K.lookup C with
  | some ⟨.type "type", _, .cls cd, sl⟩ => (match cd.mro, sl.toList with
    | .ref C' :: bm, [_, _, _, _, some (.builtin n), _] => C' == C && n == "ValueError.__new__" && !cd.hasDel && cd.hasDict && HandSPX.refsVE bm
    | _, _ => false)
  | _ => false) && (decide (PySem.W.findIn K (.ref C) "__setattr__" = some (some (.builtin "object.__setattr__"))) && (decide (PySem.W.subIn K (.ref C) (.type "BaseException") = some true) && (decide (PySem.W.typeIn K (.ref C) = some (.type "type")) && PySem.W.keepIn K (.ref C))))
theorem oexB_ok {K : Fg} {C : Addr} (h : oexB K C = true) : OexC K C := by
  unfold oexB at h
  rw [Bool.and_eq_true] at h
  obtain ⟨q, h⟩ := h
  simp only [Bool.and_eq_true, decide_eq_true_eq] at h
  obtain ⟨h1, h2, h3, h4⟩ := h
  refine ⟨?_, h1, h2, h3, h4⟩
  split at q
  · rename_i dd cd sl ho
    split at q
    · rename_i C' bm k0 k1 k2 k3 n k5 hm hs
      simp only [Bool.and_eq_true, beq_iff_eq, Bool.not_eq_true'] at q
      obtain ⟨⟨⟨⟨rfl, hn⟩, hdel⟩, hhd⟩, ht⟩ := q
      subst hn
      obtain ⟨nm, bs, mro, ns, qn, hd, sn, sub, ab, col, del⟩ := cd
      dsimp only at hm hdel hhd
      subst hm hdel hhd
      have hsl : sl = #[k0, k1, k2, k3, some (.builtin "ValueError.__new__"), k5] := by
        obtain ⟨l⟩ := sl
        simp only at hs
        rw [hs]
      subst hsl
      exact ⟨nm, qn, ns, bs, bm, sn, sub, ab, col, dd, k0, k1, k2, k3, k5, ho, ht⟩
    · cases q
  · cases q
/-- the __init__ of an error's class, at f -/
structure Xi (K : Fg) (mg : PySem.Str → Option Value) (c : PySem.Str) : Prop where
  o : OexC K (He.ga K c)
  g : mg c = some (.ref (He.ga K c))
  i : PySem.W.findIn K (.ref (He.ga K c)) "__init__" = some (some (.ref (He.ma K (He.ga K c) "__init__")))
  t : PySem.W.typeIn K (.ref (He.ma K (He.ga K c) "__init__")) = some (.type "function")
def xiB (K : Fg) (c : PySem.Str) : Bool := oexB K (He.ga K c) && (decide (PySem.W.findIn K (.ref (He.ga K c)) "__init__" = some (some (.ref (He.ma K (He.ga K c) "__init__")))) && decide (PySem.W.typeIn K (.ref (He.ma K (He.ga K c) "__init__")) = some (.type "function")))
theorem xiB_ok {K : Fg} {mg : PySem.Str → Option Value} {c : PySem.Str} (h : xiB K c = true) (g : mg c = some (.ref (He.ga K c))) : Xi K mg c := by
  unfold xiB at h
  simp only [Bool.and_eq_true, decide_eq_true_eq] at h
  exact ⟨oexB_ok h.1, g, h.2.1, h.2.2⟩
def noB (K : Fg) (c f : PySem.Str) : Bool := decide (PySem.W.findIn K (.ref (He.ga K c)) f = some none)
abbrev FnM (K : Fg) (x q : PySem.Str) (st : Stmt) (f : Addr) (fd : FuncData) : Prop := FunD K x q (defArgs st) (defBody st) (defScope st) [] [] f fd
/-- the class C has the method m, that keeps its promise -/
def Dm (P : Program) (w : World) (K : Fg) (mg : PySem.Str → Option Value) (base : Heap) (CX : CXT) (c m : PySem.Str) (k : Nat) (ps : List PySem.Str) (sp : Sp) : Prop :=
  ∃ f fd, FnOk P w K mg base CX k f fd ps sp ∧ Meth K (He.ga K c) m f ∧ Binds K fd ps []
end Rf

/-! ### zip of a text and a list -/
namespace Rf
open PySem PySem.Spec PyProof.Rows L2
open Rep (rp)
def ItzS (K : Fg) (z : PySem.Str) (b : Addr) : L2.It := ⟨fun i H => i < z.cps.size ∧ ∃ (ys : List V) (y : V), SqL K H b ys ∧ ys[i]? = some y,
  fun i H v H' => ∃ T c y, v = .ref T ∧ H T = none ∧ H' = upd H T (.tup [.str ⟨#[c]⟩, y]) ∧ z.cps[i]? = some c ∧ ∀ ys, SqL K H b ys → ys[i]? = some y,
  fun i H => ∃ ys, SqL K H b ys ∧ i ≤ z.cps.size ∧ i ≤ ys.length ∧ (i = z.cps.size ∨ i = ys.length)⟩
theorem turn_zipS {P : Program} {w : World} {K : Fg} {elts : List Expr} {kk : Nat} {tpos : Pos} {b z TI TO i1 i2 : Addr} {x : PySem.Str} {t : Tok} (D : ZipSep2 z TI TO i1 i2 [i1] [i2, b]) (hb2 : b ≠ i2) :
    Turn P w K (.Tuple elts kk tpos) (ItzS K x b) [z, TI, TO, i1, i2] z (fun i h => IsZip h z TI TO .none ∧ IsTupOf2 h TI (.ref i1) (.ref i2) ∧ (∃ x y, IsTupOf2 h TO x y) ∧ h.IsStrIter i1 (strIterType x) x t i ∧ h.IsListIter i2 b i) where
  mem := by simp
  obj := fun i h st c hc => by
    obtain ⟨hz, hTI, ⟨x, y, hTO⟩, ⟨o1, e1, _, d1⟩, ⟨o2, e2, _, d2⟩⟩ := st
    have e' : c = z ∨ c = TI ∨ c = TO ∨ c = i1 ∨ c = i2 := by simpa using hc
    rcases e' with q | q | q | q | q
    · rw [q]; exact ⟨_, hz, fun v q => nomatch q⟩
    · rw [q]; exact ⟨_, hTI, fun v q => nomatch q⟩
    · rw [q]; exact ⟨_, hTO, fun v q => nomatch q⟩
    · rw [q]; exact ⟨o1, e1, fun v q => by rw [d1] at q; cases q⟩
    · rw [q]; exact ⟨o2, e2, fun v q => by rw [d2] at q; cases q⟩
  keep := fun i h h' st k => by
    obtain ⟨hz, hTI, ⟨x, y, hTO⟩, h1, h2⟩ := st
    exact ⟨k z (by simp) _ hz, k TI (by simp) _ hTI, ⟨x, y, k TO (by simp) _ hTO⟩, let ⟨o, ho, r⟩ := h1; ⟨o, k i1 (by simp) o ho, r⟩, h2.at fun o q => k i2 (by simp) o q⟩
  item := by
    intro X hP hw hK hc i pins s σ H E I hf st hg
    subst hP hw hK
    obtain ⟨hz, hTI, ⟨x0, y0, hTO⟩, h1, h2⟩ := st
    obtain ⟨hlx, ys, y, hqy, hy⟩ := hg
    obtain ⟨its2, rv2, p2, _⟩ := I.list hqy
    obtain ⟨u2, hu2, ru2⟩ := rv2.get hy
    have hzl : z < s.heap.objs.size := Heap.lt_size hz
    have hly : i < its2.toArray.size := by
      have := (List.getElem?_eq_some_iff.mp hu2).1
      simpa using this
    have D1 := Draws.text (prog := X.prog) (w := X.w) (A := X.A.in1) (I.ok.hd hc) i1 x t
    have D2 := Draws.list (prog := X.prog) (w := X.w) (A := X.A.in1) (I.ok.hd hc) i2 b hb2 its2.toArray
    refine wpAny_pyNext_zipD2_item D D1 D2 hz hTI hTO h1 ⟨h2, p2.isList⟩ hlx hly fun v1 v2 h' tk y1 y2 z' TO' h1' h2' hT hsz hk => ?_
    obtain ⟨c, tc, hcx, rfl⟩ := y1
    have e2 : u2 = v2 := by
      have q : its2.toArray[i]? = some v2 := y2
      rw [show its2.toArray[i]? = its2[i]? by simp, hu2] at q
      exact Option.some.inj q
    subst e2
    refine ⟨_, rfl, wpAny_letOwnedTupleGo_zip (s := { s with heap := h', toks := tk }) z' fun h'' z'' sb => ?_⟩
    have hT2 : h''.get? s.heap.objs.size = some { cls := .type "tuple", data := .seq #[.str ⟨#[c]⟩ tc, u2] } := (sb.2 _ (Nat.ne_of_gt hzl)).trans hT
    have new : ObjOk X.prog X.w (upd H s.heap.objs.size (.tup [.str ⟨#[c]⟩, y])) h'' s.heap.objs.size (.tup [.str ⟨#[c]⟩, y]) :=
      ⟨by show 2 ≤ sizeLine; decide, [.str ⟨#[c]⟩ tc, u2], .cons ⟨tc, rfl⟩ (.cons ru2 .nil), ⟨_, hT2, rfl, _, rfl⟩⟩
    have I1 : Inv X pins σ (upd H s.heap.objs.size (.tup [.str ⟨#[c]⟩, y])) { s with heap := h'', toks := tk } :=
      I.turnedNew (t' := tk) (ch := [z, TI, TO, i1, i2]) (fun c o hb q => (sb.2 c (fun q' => hb (by simp [q']))).trans (hk c o (fun q' => hb (by simp [q'])) (fun q' => hb (by simp [q'])) (fun q' => hb (by simp [q'])) (fun q' => hb (by simp [q'])) q)) hf (Nat.le_refl _) new
    refine ⟨.ref s.heap.objs.size, _, I1, rfl, ⟨_, c, y, rfl, I.hok.fresh (Nat.le_refl _), rfl, hcx, fun l hl => by rw [I.list_inj hl hqy]; exact hy⟩, ⟨z'', ?_, ⟨.str ⟨#[c]⟩ tc, u2, ?_⟩, ?_, ?_⟩, fun c hcm => ?_⟩
    · exact (sb.2 _ D.TIz).trans (hk _ _ D.TIz D.TITO D.TIi1 D.TIi2 hTI)
    · exact (sb.2 _ D.TOz).trans TO'
    · exact let ⟨o, ho, r⟩ := h1'; ⟨o, (sb.2 _ (Ne.symm D.zi1)).trans ho, r⟩
    · exact h2'.1.at fun o q => (sb.2 _ (Ne.symm D.zi2)).trans q
    · have hlt : c < s.heap.objs.size := by
        have e' : c = z ∨ c = TI ∨ c = TO ∨ c = i1 ∨ c = i2 := by simpa using hcm
        rcases e' with q | q | q | q | q
        · rw [q]; exact hzl
        · rw [q]; exact Heap.lt_size hTI
        · rw [q]; exact Heap.lt_size hTO
        · rw [q]; obtain ⟨_, e1, _⟩ := h1; exact Heap.lt_size e1
        · rw [q]; obtain ⟨_, e2, _⟩ := h2; exact Heap.lt_size e2
      rw [upd_ne (Nat.ne_of_lt hlt)]
      exact (hf c hcm).1
  done := by
    intro X hP hw hK hc i pins s σ H E I hf st hg
    subst hP hw hK
    obtain ⟨hz, hTI, ⟨x0, y0, hTO⟩, h1, h2⟩ := st
    obtain ⟨ys, hqy, hle1, hle2, hend⟩ := hg
    obtain ⟨its2, rv2, p2, _⟩ := I.list hqy
    have l2 : ys.length = its2.toArray.size := by have := rv2.length; simpa using this
    have D1 := Draws.text (prog := X.prog) (w := X.w) (A := X.A.in1) (I.ok.hd hc) i1 x t
    have D2 := Draws.list (prog := X.prog) (w := X.w) (A := X.A.in1) (I.ok.hd hc) i2 b hb2 its2.toArray
    exact wpAny_pyNext_zipD2_end D D1 D2 hz hTI hTO h1 ⟨h2, p2.isList⟩ hle1 (l2 ▸ hle2) (l2 ▸ hend) fun h' tk hk => ⟨rfl, I.turnedL (t' := tk) (ch := [z, TI, TO, i1, i2]) (fun c o hb q =>
      hk c o (fun q' => hb (by simp [q'])) (fun q' => hb (by simp [q'])) (fun q' => hb (by simp [q'])) (fun q' => hb (by simp [q'])) q) hf⟩
  self := fun A i s Q E st h => wpAny_pyIter_zip st.1 h
def iZipS (K : Fg) (ta : TA) : TI := fun σ H R => ta σ H fun vs H1 => ∃ x b ys, vs = [.str x, .ref b] ∧ SqL K H1 b ys ∧ R (ItzS K x b) H1
theorem pi_zipS {X : Cx} {e e2 : Expr} {ta : TA} {p pos tpos : Pos} {elts : List Expr} {kk : Nat} (K : Fg) (hg : Gl X "zip") (hm : X.mg "zip" = none) (ha : PA X [e, e2] ta) (hK : X.K = K := by rfl)
    (hs : starEach [e, e2] X.env = (false, eval e X.env) :: starEach [e2] X.env := by rfl) (hpl : (backTo pos (starEach [e2] X.env)).any (·.1) = false := by rfl) :
    PI X (.Tuple elts kk tpos) (.Call (.Name "zip" p) [e, e2] [] pos) (iZipS K ta) := by
  subst hK
  refine ⟨fun pins s σ H R I h => ?_⟩
  refine Call_ (ld_blt I hg hm PyProof.Rows.boot_zip (PyProof.Rows.callWith_type1 (thn (ha.run pos pins s σ H _ I h) fun us s1 ⟨vs, H1, I1, r1, q1⟩ => ?_) hs hpl))
  obtain ⟨x, b, ys, ex, hqy, q⟩ := q1
  subst ex
  cases r1 with
  | cons r rr =>
    cases rr with
    | cons r' rr =>
      cases rr
      obtain ⟨t, rfl⟩ := r
      cases r'
      obtain ⟨its2, rv2, p2, _⟩ := I1.list hqy
      have lb : b < s1.heap.objs.size := p2.lt
      refine zip_begins2 (begins_text x t) (begins_list b its2.toArray) trivial p2.isList fun h' hz hTI hTO h1 h2 hsz hk => wpAny_pyIter_zip hz ?_
      have I2 : Inv X pins σ H1 { s1 with heap := h' } := I1.kept (t' := s1.toks) hk
      have sep : ZipSep2 (s1.heap.objs.size + 4) (s1.heap.objs.size + 2) (s1.heap.objs.size + 3) s1.heap.objs.size (s1.heap.objs.size + 1) [s1.heap.objs.size] [s1.heap.objs.size + 1, b] :=
        zip_sep2 (fp1 := []) (fp2 := [b]) (fun c hc => nomatch hc) (fun c hc => by rw [List.mem_singleton] at hc; rw [hc]; exact lb)
      refine ⟨s1.heap.objs.size + 4, [s1.heap.objs.size + 4, s1.heap.objs.size + 2, s1.heap.objs.size + 3, s1.heap.objs.size, s1.heap.objs.size + 1], _, _, H1, rfl, I2, turn_zipS (t := t) sep (Nat.ne_of_lt (Nat.lt_succ_of_lt lb)), ⟨hz, hTI, ⟨_, _, hTO⟩, ⟨_, h1, rfl, rfl⟩, ⟨_, h2, rfl, rfl⟩⟩, fun c hcm => ?_, q⟩
      have e' : c = s1.heap.objs.size + 4 ∨ c = s1.heap.objs.size + 2 ∨ c = s1.heap.objs.size + 3 ∨ c = s1.heap.objs.size ∨ c = s1.heap.objs.size + 1 := by simpa using hcm
      have hle : s1.heap.objs.size ≤ c := by
        rcases e' with z | z | z | z | z
        · rw [z]; exact Nat.le_add_right _ _
        · rw [z]; exact Nat.le_add_right _ _
        · rw [z]; exact Nat.le_add_right _ _
        · rw [z]; exact Nat.le_refl _
        · rw [z]; exact Nat.le_add_right _ _
      exact I1.fpOk hle (I1.hok.fresh hle)
section
variable {K : Fg} {σ : L2.St} {F H F1 H1 : Hp} {ta tb : TE}
theorem signs_at' {z : PySem.Str} {i : Nat} {x : PySem.Str} (h : (signs z)[i]? = some x) : ∃ c, z.cps[i]? = some c ∧ x = ⟨#[c]⟩ := by
  unfold signs at h
  rw [List.getElem?_map, Array.getElem?_toList] at h
  cases e : z.cps[i]? with
  | none => rw [e] at h; cases h
  | some c => rw [e] at h; exact ⟨c, rfl, (Option.some.inj h).symm⟩
theorem wk_zipS [Rep β] {z : PySem.Str} {b : Addr} {ws : List V} {ys : List β} (q' : F b = some (.lst ws)) (r' : Rps K F ys ws) : Wk K (ItzS K z b) F ST (zipP (signs z) ys) where
  go := fun i G H s0 s1 _ h => by
    have s := s0.trans s1
    rw [zipP_len, signs_len] at h
    exact ⟨by omega, ws, ws[i]'(by rw [wk_len r']; omega), SqL.of (s b _ q'), by simp⟩
  stop := fun i G H s0 s1 _ ⟨h, h'⟩ => by
    have s := s0.trans s1
    rw [zipP_len, signs_len] at h h'
    have l := wk_len r'
    exact ⟨ws, SqL.of (s b _ q'), by omega, by omega, by omega⟩
  yld := fun i H F3 v H' s s3 _ y h => by
    obtain ⟨T, c, w, rfl, hT, rfl, h1, h2⟩ := y
    refine ⟨_, Gr.lay s3 hT, fun p hp => ?_⟩
    obtain ⟨e1, e2⟩ := zip_at hp
    obtain ⟨c', k1, m1⟩ := signs_at' e1
    obtain ⟨v2, k2, m2⟩ := rps_at r' e2
    have z2 := h2 ws (SqL.of (s3 b _ (s b _ q')))
    rw [k2] at z2; cases z2
    rw [h1] at k1; cases k1
    have n := same_new (o := .tup [.str ⟨#[c]⟩, w]) (none_of s3 hT)
    exact ⟨T, _, _, rfl, upd_same, by rw [m1]; rfl, up (s.trans n) m2⟩
theorem it_zipS [Rep β] {z : PySem.Str} {ys : List β} (h : Tv K ta σ F H z) (h' : Tv K tb σ F H ys) : Itr K (iZipS K (tCons ta (tCons tb tNil))) σ F H ST (zipP (signs z) ys) := fun F1 H1 g R q =>
  h F1 H1 g _ fun F2 H2 v g2 r => h' F2 H2 (g.trans g2) _ fun F3 H3 w g3 ⟨b, ws, e', hq', hr'⟩ =>
    ⟨z, b, ws, by rw [show v = V.str z from r, e'], SqL.of (g3.sub b _ hq'), q _ F3 H3 (g2.trans g3) (wk_zipS hq' hr')⟩
end
end Rf

/-! ### further readings -/
namespace Rf
open PySem PySem.Spec PyProof.Rows L2
open Rep (rp)
section
variable {A B R rest L : List Cell} {Zd : Addr → Prop} {F0 H0 F H : Hp} {K : Fg} {p : Addr}
theorem pm0 : (A ++ R).Perm (A ++ R) := .refl _
theorem pmS (h : rest.Perm (A ++ R)) : (B ++ rest).Perm (A ++ (B ++ R)) := by
  refine (List.Perm.append_left B h).trans ?_
  rw [← List.append_assoc, ← List.append_assoc]
  exact List.Perm.append_right R List.perm_append_comm
theorem Sg.mL [Rep α] {xs : List α} (M : Sg Zd F0 H0 F H L) (pm : L.Perm ([(p, cLst K xs)] ++ R)) : MutL K F H p xs := M.mutL (pm.mem_iff.mpr (List.mem_cons_self ..))
theorem Sg.mD [Rep κ] [KeyD κ] [Rep α] {d : List (κ × α)} (M : Sg Zd F0 H0 F H L) (pm : L.Perm ([(p, cDic K d)] ++ R)) : MutD K F H p d := M.mutD (pm.mem_iff.mpr (List.mem_cons_self ..))
theorem Sg.nw {c : CP} (M : Sg Z0 F0 H0 F H L) (pm : L.Perm ([(p, c)] ++ R)) : H0 p = none := (M.al (p, c) (pm.mem_iff.mpr (List.mem_cons_self ..))).elim (fun z => z.elim) id
theorem Sg.ne {c c' : CP} {q : Addr} (M : Sg Zd F0 H0 F H L) (pm : L.Perm ([(p, c)] ++ ([(q, c')] ++ R))) : p ≠ q := fun e => by
  have n := (M.cl.perm pm).nd
  rw [show ads ([(p, c)] ++ ([(q, c')] ++ R)) = p :: q :: ads R from rfl, List.nodup_cons] at n
  exact n.1 (e ▸ List.mem_cons_self ..)
end
/-! 'x' * n -/
abbrev rMulS : R2 := fun x y H Q => ∃ (a : PySem.Str) (k : Int), x = .str a ∧ y = .int k ∧ a.length ≤ 16 ∧ -(2 ^ 63) ≤ k ∧ k ≤ 1048576 ∧ Q (.str (Txt.mul a k)) H
theorem op_mulS {X : Cx} : OpR X (binaryOp .Mult) rMulS := by
  intro pins s σ H x y v u Q I rx ry h
  obtain ⟨a, k, rfl, rfl, h1, h2, h3, q⟩ := h
  obtain ⟨t, rfl⟩ := rx
  obtain ⟨t', rfl⟩ := ry
  exact PySem.W.KXi.mul rfl h1 h2 h3 fun t' tk _ _ => ⟨.str (Txt.mul a k), H, I.tok _, ⟨_, rfl⟩, q⟩
section
variable {K : Fg} {σ : L2.St} {F H F1 H1 : Hp} {ta tb te : TE} {t : TA}
theorem op2_mulS {a : PySem.Str} {k : Int} (h : a.length ≤ 16 ∧ -(2 ^ 63) ≤ k ∧ k ≤ 1048576) : Op2 K rMulS a k (Txt.mul a k) := fun F H v w s r1 r2 Q q =>
  ⟨a, k, r1, r2, h.1, h.2.1, h.2.2, q F H _ (Gr.refl s) rfl⟩
theorem mulS_len {a : PySem.Str} {k : Int} {N : Nat} (h : a.length ≤ 1) (hk : k ≤ N) : (Txt.mul a k).length ≤ N := by
  have e := len_mul a k
  split at e
  · simp at e; omega
  · have h2 : (a.length : Int) * k ≤ N := by
      have h0 : 0 ≤ k := by
        rename_i c
        simpa using c
      have : (a.length : Int) * k ≤ 1 * k := Int.mul_le_mul_of_nonneg_right (by omega) h0
      omega
    omega
theorem ne_len {z : PySem.Str} (h : decide (z = ("" : PySem.Str)) = false) : 1 ≤ z.length := by
  have h := of_decide_eq_false h
  cases e : z.length with
  | succ n => omega
  | zero =>
    exfalso; apply h
    obtain ⟨⟨l⟩⟩ := z
    have : l = [] := List.length_eq_zero_iff.mp e
    rw [this]; decide +kernel
theorem op2_niS {x z : PySem.Str} (h : x.length = 1) : Op2 K (fun x y H Q => ∃ (c : Nat) (z : PySem.Str), x = .str ⟨#[c]⟩ ∧ y = .str z ∧ Q (.bl (!decide (c ∈ z.cps.toList))) H) x z (!inS x z) := fun F H v w s r1 r2 Q q => by
  obtain ⟨⟨l⟩⟩ := x
  match l, h with
  | [c], _ => exact ⟨c, z, r1, r2, q F H _ (Gr.refl s) rfl⟩
/-- s.split(x) -/
abbrev rSplit : V → List V → Hp → VK → Prop := fun x xs H Q => ∃ a b, x = .str a ∧ xs = [.str b] ∧ (b.length == 0) = false ∧ a.length + 2 ≤ sizeLine ∧ rNewStrs (Txt.split a b) H Q
theorem tl_split {a b : PySem.Str} (ha : Tv K ta σ H H a) (hb : Tv K tb σ H H b) (h0 : (b.length == 0) = false) (hl : a.length ≤ 100000) : TvL K (tM1 rSplit ta tb) σ F H (Txt.split a b) := fun F1 H1 g Q q =>
  ha H1 H1 (Gr.whole g.keep) _ fun F2 H2 v g2 r1 => ⟨⟨a, r1⟩, hb H2 H2 (Gr.whole (g.keep.trans g2.keep)) _ fun F3 H3 w g3 r2 =>
    ⟨a, b, r1, by rw [show w = V.str b from r2], h0, Nat.le_trans (Nat.add_le_add_right hl 2) (by decide), fun p hp => q F1 _ p ((Gr.up g.sub (g2.keep.trans g3.keep)).trans (Gr.put (g.sub.trans (g2.keep.trans g3.keep)) hp)) (none_of (g2.keep.trans g3.keep) hp)
      ⟨none_of (g.sub.trans (g2.keep.trans g3.keep)) hp, _, upd_same, rps_of (α := PySem.Str) _⟩⟩⟩
/-- z[lo:hi] -/
abbrev cutS' (z : PySem.Str) (lo hi : Option Int) : PySem.Str := cutS z lo hi
theorem tv_sliceS {z : PySem.Str} {tl th : TO} {lo hi : Option Int} (h : Tv K te σ H H z) (h1 : TvO tl σ H lo) (h2 : TvO th σ H hi) (hz : z.length ≤ 100000) : Tv K (tSl rSlS te tl th) σ H H (cutS' z lo hi) := fun F1 H1 g Q q =>
  h F1 H1 g _ fun F2 H2 v g2 r => h1 H2 (g.keep.trans g2.keep) _ fun H3 e3 => h2 H3 ((g.keep.trans g2.keep).trans e3) _ fun H4 e4 =>
    ⟨z, r, sz hz, q F2 H4 _ (g2.trans (Gr.up g2.sub (e3.trans e4))) rfl⟩
/-- int(text) -/
def intT (z : PySem.Str) : Int := (PySem.intText? z).getD 0
abbrev rIntS : List V → Hp → VK → Prop := fun xs H Q => ∃ a n, xs = [.str a] ∧ PySem.intText? a = some n ∧ a.length ≤ 640 ∧ Q (.int n) H
theorem cb_intS {z : PySem.Str} (h : (PySem.intText? z).isSome = true) (hl : z.length ≤ 640) : CbV K rIntS (fun F vs => ∃ v r, vs = v :: r ∧ rp K F z v ∧ r = []) (intT z) := fun F H vs Q s ⟨v, r, e, e2, e4⟩ q => by
  subst e e4
  cases e2
  obtain ⟨n, hn⟩ := Option.isSome_iff_exists.mp h
  exact ⟨z, n, rfl, hn, hl, q F H _ (Gr.refl s) (by unfold intT; rw [hn]; rfl)⟩
/-- a list whose items are of several kinds -/
structure Hl (τ : Type) where
  t : τ
instance [Inhabited τ] : Inhabited (Hl τ) := ⟨⟨default⟩⟩
instance [Rep α] [RepT β] : Rep (Hl (α × β)) := ⟨fun K F x v => ∃ a vs, v = .ref a ∧ F a = some (.lst vs) ∧ RepT.rt K F x.t vs, fun s ⟨a, vs, e, q, r⟩ => ⟨a, vs, e, s.lst q, RepT.mono s r⟩⟩
theorem tv_hl [Rep α] [RepT β] {z : α × β} (h : TvA t σ F H (fun F vs => RepT.rt K F z vs)) (hl : ∀ F vs, RepT.rt K F z vs → vs.length ≤ 100000) : Tv K (tLst t) σ F H (Hl.mk z) := fun F1 H1 g Q q =>
  h F1 H1 g _ fun F2 H2 vs g2 r => ⟨sz (hl F2 vs r), fun p hp => q (upd F2 p (.lst vs)) (upd H2 p (.lst vs)) _ (g2.trans (Gr.lay g2.sub hp)) ⟨p, vs, rfl, upd_same, RepT.mono (Le.of <| same_new (none_of g2.sub hp)) r⟩⟩
@[irreducible] def ltH2 {α β γ : Type} (e : Hl (α × β)) (k : α → β → γ) : γ := k e.t.1 e.t.2
theorem ltH2_eq {α β γ : Type} (e : Hl (α × β)) (k : α → β → γ) : ltH2 e k = k e.t.1 e.t.2 := by unfold ltH2; rfl
variable {D : Ends} {u : TS} {i j : Nat}
theorem q_unpH2 [Rep α] [Rep β] {γ : Type} {e : Hl (α × β)} {k : α → β → γ} {P : γ → Prop} (hP : P (ltH2 e k)) (s : Same F H) (he : Tv K te σ F H e)
    (nxt : ∀ a b F1 H1 v w, Hl.mk (a, b) = e → Gr F H F1 H1 → rp K F1 a v → rp K F1 b w → P (k a b) → u D ((σ.set i (some v)).set j (some w)) H1) : tSeq (tAsg te (gLst K 2 (gCons (gName i) (gCons (gName j) gNil)))) u D σ H := by
  refine he F H (Gr.refl s) _ fun F2 H2 v g r => ?_
  obtain ⟨a, vs, rfl, q, v1, r1, rfl, h1, v2, rfl, h2⟩ := r
  rw [ltH2_eq] at hP
  exact ⟨a, _, rfl, SqL.of (g.sub a _ q), rfl, _, _, rfl, _, _, rfl, rfl, nxt e.t.1 e.t.2 F2 H2 _ _ rfl g h1 h2 hP⟩
/-! errors -/
variable {W : WX} {e : Er}
theorem tv_isEr {b : Bool} {c : V} {cv : Value} {n : PySem.Str} (h : Tv K ta σ H H e) (he : e.c = n) (hc : ClsV c cv) (hC : ExcC K (He.ga K n)) (hk : PySem.W.kitOne K (.ref (He.ga K n)) cv = some b) : Tv K (tCB (rIsE K) (tCons ta (tCons (tC c) tNil))) σ H H b := by
  subst he
  exact fun F1 H1 g Q q =>
  h F1 H1 g _ fun F2 H2 v g2 ⟨a, cls, d, e1, e2, e3, e4⟩ => by
    subst e1 e3
    refine ⟨a, _, d, c, cv, b, rfl, g2.sub a _ e2, ?_, hC, hc, hk, q F2 H2 _ g2 rfl⟩
    rcases e4 with ⟨_, e4⟩ | ⟨dd, vs, e4, e5, _⟩
    · exact .inl e4
    · exact .inr ⟨dd, vs, e4, g2.sub dd _ e5⟩
/-- the field f of an error -/
def erF (e : Er) (f : PySem.Str) : Dv := (e.fs.lookup f).getD .non
theorem fsr_get {F : Hp} {f : PySem.Str} {x : Dv} : ∀ {fs : List (PySem.Str × Dv)} {vs : List (PySem.Str × V)}, FsR F fs vs → fs.lookup f = some x → ∃ v, vs.lookup f = some v ∧ Dv.R F x v
  | _, _, .nil, h => by cases h
  | (g, y) :: r, (g', w) :: t, .cons h hs, hx => by
    obtain ⟨h1, h2⟩ := h
    cases h1
    by_cases q : f = g
    · subst q
      simp only [List.lookup, beq_self_eq_true] at hx ⊢
      cases hx
      exact ⟨w, rfl, h2⟩
    · have qq : (f == g) = false := by simpa using q
      simp only [List.lookup, qq] at hx ⊢
      exact fsr_get hs hx
theorem tv_erF {n f : PySem.Str} (h : Tv K te σ F H e) (he : e.c = n) (hC : ExcC K (He.ga K n)) (hno : PySem.W.findIn K (.ref (He.ga K n)) f = some none) (hf : (e.fs.lookup f).isSome = true) : Tv K (tEf K f te) σ F H (erF e f) := by
  subst he
  exact fun F1 H1 g Q q =>
  h F1 H1 g _ fun F2 H2 v g2 ⟨a, cls, d, e1, e2, e3, e4⟩ => by
    subst e1 e3
    rcases e4 with ⟨z, _⟩ | ⟨dd, vs, e4, e5, e6, _⟩
    · rw [z] at hf; cases hf
    · obtain ⟨x, hx⟩ := Option.isSome_iff_exists.mp hf
      obtain ⟨w, h1, h2⟩ := fsr_get e6 hx
      subst e4
      exact ⟨a, _, dd, vs, w, rfl, g2.sub a _ e2, hC, hno, g2.sub dd _ e5, h1, q F2 H2 w g2 (by unfold erF; rw [hx]; exact h2)⟩
/-- try: .. except c as n: x = n -/
def tryE {S : Type} (rb : Except Er S) (s0 : S) : Option Er × S := match rb with
  | .ok s => (none, s)
  | .error e => (some e, s0)
theorem x_tryC {S β : Type} {P : β → Prop} {rb : Except Er S} {s0 : S} {k : Option Er × S → β} {c : Value} {tb : WX → TS} (hP : P (lt (tryE rb s0) k)) (M : Hp → Hp → L2.St → Option Er × S → Prop) (ME : Hp → Hp → L2.St → Prop)
    (hx : ∀ e, rb = .error e → PySem.W.exmOne K (.ref (He.ga K e.c)) c = some true)
    (hb : ∀ (N : L2.St → Hp → Prop) (W : WX) (P' : Except Er S → Prop), P' rb → (∀ s, P' (.ok s) → ∀ F2 H2 σ2, Same F F2 → M F2 H2 σ2 (none, s) → N σ2 H2) → (∀ e, P' (.error e) → ∀ F2 H2 σ2 cls d, Same F F2 → EOk K F2 e cls d → ME F2 H2 σ2 → W cls d σ2 H2) → tb W { D with nx := N } σ H)
    (hw : ∀ e F2 H2 σ2 cls d, rb = .error e → Same F F2 → EOk K F2 e cls d → ME F2 H2 σ2 → i < σ2.length ∧ Same F2 H2 ∧ ∀ a, H2 a = none → M (upd F2 a (Cgt cls d a)) (upd H2 a (Cgt cls d a)) (((σ2.set i (some (.ref a))).set j (some (.ref a))).set i none) (some e, s0))
    (nxt : ∀ st F2 H2 σ2, st = tryE rb s0 → Same F F2 → M F2 H2 σ2 st → P (k st) → u D σ2 H2) :
    tSeq (tTryT K c i j tb) u D σ H := by
  have hk := p_lt P hP
  refine hb (u D) _ (fun r => r = rb) rfl (fun s hs F2 H2 σ2 q m => ?_) (fun e he F2 H2 σ2 cls d q x m => ?_)
  · have e1 : tryE rb s0 = (none, s) := by rw [← hs]; rfl
    rw [e1] at hk
    exact nxt _ F2 H2 σ2 e1.symm q m hk
  · have e1 : tryE rb s0 = (some e, s0) := by rw [← he]; rfl
    obtain ⟨h1, h2, h3⟩ := hw e F2 H2 σ2 cls d he.symm q x m
    refine ⟨true, by rw [x.1]; exact hx e he.symm, fun _ a ha => ⟨.ref a, List.getElem?_set_self h1, ?_⟩, fun z => nomatch z⟩
    rw [e1] at hk
    exact nxt _ _ _ _ e1.symm (q.trans (same_new (none_of h2 ha))) (h3 a ha) hk
theorem some_of {α : Type} {x : Option α} (h : x.isNone = false) : x.isSome = true := by cases x <;> first | rfl | cases h
theorem tv_gt [Rep α] [Inhabited α] {x : Option α} (h : Tv K te σ F H x) (hs : x.isSome = true) : Tv K te σ F H (gt x) := fun F1 H1 g Q q => h F1 H1 g Q fun F2 H2 v g2 r => q F2 H2 v g2 (rp_gt (by cases x <;> first | rfl | cases hs) r)
end
end Rf

/-! ### texts: split at a sign -/
namespace Rf
open PySem PySem.Builtin.Str PySem.StrLaws
def spl (c : Nat) : List Nat → List (List Nat)
  | [] => [[]]
  | x :: r => if x = c then [] :: spl c r else match spl c r with
    | p :: q => (x :: p) :: q
    | [] => [[x]]
abbrev tS (l : List Nat) : PySem.Str := ⟨l.toArray⟩
theorem spl_ne (c : Nat) : ∀ l, ∃ p q, spl c l = p :: q
  | [] => ⟨[], [], rfl⟩
  | x :: r => by
    unfold spl
    by_cases h : x = c
    · rw [if_pos h]; exact ⟨_, _, rfl⟩
    · rw [if_neg h]
      obtain ⟨p, q, e⟩ := spl_ne c r
      rw [e]; exact ⟨_, _, rfl⟩
theorem spl_app (c : Nat) (b : List Nat) : ∀ a, spl c (a ++ c :: b) = spl c a ++ spl c b
  | [] => by
    show spl c (c :: b) = [[]] ++ spl c b
    simp only [spl, if_true]; rfl
  | x :: r => by
    have ih := spl_app c b r
    rw [List.cons_append, spl, spl]
    by_cases h : x = c
    · rw [if_pos h, if_pos h, ih]; rfl
    · rw [if_neg h, if_neg h, ih]
      obtain ⟨p, q, e⟩ := spl_ne c r
      rw [e]; rfl
theorem spl_no {c : Nat} : ∀ {a : List Nat}, c ∉ a → spl c a = [a]
  | [], _ => rfl
  | x :: r, h => by
    have hx : ¬ x = c := fun e => h (by rw [e]; exact List.mem_cons_self ..)
    rw [spl, if_neg hx, spl_no (fun m => h (List.mem_cons_of_mem _ m))]
theorem spl_len (c : Nat) : ∀ a : List Nat, (spl c a).length = a.count c + 1
  | [] => rfl
  | x :: r => by
    have ih := spl_len c r
    rw [spl]
    by_cases h : x = c
    · rw [if_pos h, List.length_cons, ih, h, List.count_cons_self]
    · rw [if_neg h, List.count_cons_of_ne (fun z => h z)]
      obtain ⟨p, q, e⟩ := spl_ne c r
      rw [e] at ih ⊢
      exact ih
theorem occ_char (x : PySem.Str) (c : Nat) : ∀ (k a : Nat) (st : Array Nat × Nat), st.1.size ≤ a → st.2 ≤ a → a + k ≤ x.length + 1 →
    (forIn (List.range' a k) st (occBody x ⟨#[c]⟩ x.length (x.length + 1))).run.fst.toList = st.1.toList ++ (List.range' a k).filter fun i => decide (x.cps.toList[i]? = some c)
  | 0, a, st, _, _, _ => by simp
  | k + 1, a, st, h1, h2, h3 => by
    rw [List.range'_succ, List.forIn_cons]
    unfold occBody
    have key := subAt_one x c a
    by_cases hc : x.cps.toList[a]? = some c
    · have q := key.mpr hc
      rw [if_pos ⟨⟨⟨by omega, h2⟩, q.1⟩, q.2⟩, List.filter_cons_of_pos (by simpa using hc)]
      have ih := occ_char x c k (a + 1) (st.1.push a, a + (⟨#[c]⟩ : PySem.Str).length) (by simp; omega) (by show a + 1 ≤ a + 1; omega) (by omega)
      refine Eq.trans ih ?_
      simp
    · have q : ¬ (((st.fst.size < x.length + 1 ∧ st.snd ≤ a) ∧ a + (⟨#[c]⟩ : PySem.Str).length ≤ x.length) ∧ subAt x ⟨#[c]⟩ a = true) := fun h => hc (key.mp ⟨h.1.2, h.2⟩)
      rw [if_neg q, List.filter_cons_of_neg (by simpa using hc)]
      exact occ_char x c k (a + 1) (st.1, st.2) (by simp; omega) (by simp; omega) (by omega)
theorem occ_is (x : PySem.Str) (c : Nat) : occurrences x ⟨#[c]⟩ 0 x.length (x.length + 1) = (List.range' 0 (x.length + 1)).filter fun i => decide (x.cps.toList[i]? = some c) := by
  rw [occ_eq, Nat.sub_zero]
  exact occ_char x c (x.length + 1) 0 (#[], 0) (by simp) (by simp) (by omega)
theorem parts_spl (x : PySem.Str) (c : Nat) : ∀ (m a b : Nat), m + b = x.length → a ≤ b →
    partsFrom x 1 a ((List.range' b (m + 1)).filter fun i => decide (x.cps.toList[i]? = some c)) = match spl c (x.cps.toList.drop b) with
      | q :: qs => tS ((x.cps.toList.drop a).take (b - a) ++ q) :: qs.map tS
      | [] => []
  | 0, a, b, hm, hab => by
    have hl : x.cps.toList.length = b := by
      have : x.cps.toList.length = x.length := Array.length_toList
      omega
    rw [List.range'_succ, List.filter_cons_of_neg (by simp [← hl]), List.drop_eq_nil_of_le (by omega)]
    show [strSub x a x.length] = [tS _]
    congr 1
    apply Str.ext'
    apply Array.toList_inj.mp
    rw [strSub_toList, List.append_nil, show x.length = b by omega]
  | m + 1, a, b, hm, hab => by
    have hl : x.cps.toList.length = x.length := Array.length_toList
    have hb : b < x.cps.toList.length := by omega
    rw [List.range'_succ, List.drop_eq_getElem_cons hb, spl]
    by_cases hc : x.cps.toList[b] = c
    · rw [if_pos hc, List.filter_cons_of_pos (by rw [List.getElem?_eq_getElem hb, hc]; simp)]
      show strSub x a b :: partsFrom x 1 (b + 1) _ = tS _ :: _
      have ih := parts_spl x c m (b + 1) (b + 1) (by omega) (Nat.le_refl _)
      rw [ih]
      congr 1
      · apply Str.ext'
        apply Array.toList_inj.mp
        rw [strSub_toList, List.append_nil]
      · obtain ⟨p, q, e⟩ := spl_ne c (x.cps.toList.drop (b + 1))
        rw [e]
        simp
    · rw [if_neg hc, List.filter_cons_of_neg (by rw [List.getElem?_eq_getElem hb]; simpa using hc)]
      have ih := parts_spl x c m a (b + 1) (by omega) (by omega)
      rw [ih]
      obtain ⟨p, q, e⟩ := spl_ne c (x.cps.toList.drop (b + 1))
      rw [e]
      show tS _ :: _ = tS _ :: _
      congr 2
      have e2 : (x.cps.toList.drop a).take (b + 1 - a) = (x.cps.toList.drop a).take (b - a) ++ [x.cps.toList[b]] := by
        have h1 : b + 1 - a = (b - a) + 1 := by omega
        have h2 : (x.cps.toList.drop a)[b - a]? = some x.cps.toList[b] := by
          rw [List.getElem?_drop, show a + (b - a) = b by omega, List.getElem?_eq_getElem hb]
        rw [h1]
        exact take_snoc h2
      rw [e2, List.append_assoc]; rfl
theorem split_is (x : PySem.Str) {c : Nat} (hc : c < 256) : Txt.split x ⟨#[c]⟩ = (spl c x.cps.toList).map tS := by
  have hk : Builtin.Str.strKind ⟨#[c]⟩ = 1 := by
    unfold Builtin.Str.strKind
    simp [hc]
  have hk2 : 1 ≤ Builtin.Str.strKind x := by unfold Builtin.Str.strKind; split <;> (try split) <;> omega
  have whole : tS x.cps.toList = x := rfl
  have hp := parts_spl x c x.length 0 0 (by omega) (Nat.le_refl _)
  unfold Txt.split
  split
  · rename_i h
    rw [hk] at h
    have h0 : x.length = 0 := by
      have h2 : ¬ Builtin.Str.strKind x < 1 := by omega
      rw [Bool.or_eq_true, decide_eq_true_eq, decide_eq_true_eq] at h
      rcases h with h | h
      · have h3 : x.length < 1 := h
        omega
      · exact absurd h h2
    have hl : x.cps.toList = [] := List.length_eq_zero_iff.mp (by have : x.cps.toList.length = x.length := Array.length_toList; omega)
    rw [hl]
    show [x] = [tS []]
    rw [← hl, whole]
  · rw [occ_is]
    split
    · rename_i h
      rw [List.isEmpty_iff.mp h] at hp
      obtain ⟨p, q, e⟩ := spl_ne c (x.cps.toList.drop 0)
      rw [e] at hp
      rw [List.drop_zero] at e
      rw [e]
      have e2 : [strSub x 0 x.length] = tS p :: q.map tS := hp
      rw [List.map_cons, ← e2, sub_whole]
    · rw [partsBetween_eq]
      show partsFrom x 1 0 _ = _
      rw [hp]
      obtain ⟨p, q, e⟩ := spl_ne c (x.cps.toList.drop 0)
      rw [e]
      rw [List.drop_zero] at e
      rw [e]
      rfl
end Rf

set_option Elab.async false
set_option linter.all false
set_option maxRecDepth 100000
set_option maxHeartbeats 400000000
namespace Th
open PySem PySem.Spec PyProof.Rows L2 Rf
open Rep (rp)
def top (i : Nat) : Stmt := PySem.Challenge.pw_threeroofs_k81_numbers_in_rows.main.body.getD i (.Pass ⟨0, 0, 0, 0⟩)
structure Bs (K : Fg) (mg : PySem.Str → Option Value) : Prop where
  b_len : mg "len" = none
  b_str : mg "str" = none
  b_isinstance : mg "isinstance" = none
  b_zip : mg "zip" = none
  b_int : mg "int" = none
  b_range : mg "range" = none
  b_bool : mg "bool" = none
  b_ValueError : mg "ValueError" = none
  b_list : mg "list" = none
  c_FIGURES : ∃ t, mg "FIGURES" = some (Value.str "0123456789" t)
  x_NoRow : Xi K mg "NoRow"
  x_RoofError : Xg K mg "RoofError"
  m_NoRow_RoofError : PySem.W.exmOne K (.ref (He.ga K "NoRow")) (.ref (He.ga K "RoofError")) = some true
  y_NoRow : ExcC K (He.ga K "NoRow")
  k_NoRow_NoRow : PySem.W.kitOne K (.ref (He.ga K "NoRow")) (.ref (He.ga K "NoRow")) = some true
  k_NoRow_ValueError : PySem.W.kitOne K (.ref (He.ga K "NoRow")) (.type "ValueError") = some true
  n_NoRow_row : PySem.W.findIn K (.ref (He.ga K "NoRow")) "row" = some none
abbrev s_NoRow___init__ : Stmt := inClass (top 2) 0
theorem sc_NoRow___init__ : FnScope ["self", "row"] ["self", "row"] (defScope s_NoRow___init__) := ⟨rfl, rfl, rfl, by decide +kernel, rfl, by decide +kernel, by decide +kernel⟩
theorem ok_NoRow___init__ {P : Program} {w : World} {K : Fg} {mg : PySem.Str → Option Value} {base : Heap} (T : OexC K (He.ga K "NoRow")) (n_row : PySem.W.findIn K (.ref (He.ga K "NoRow")) "row" = some none) {f : Addr} {fd : FuncData} (F : FnM K "__init__" "NoRow.__init__" s_NoRow___init__ f fd) : FnOk P w K mg base CX0 1 f fd ["self", "row"] (spEx (He.ga K "NoRow") ["row"]) := by
  refine F.ok sc_NoRow___init__ (fun vs H Q E h => ?_) (fun cdv A outer s H0 vs Q E hr h => ?_)
  · obtain ⟨a, ws, rfl, hl, _⟩ := h
    simpa using hl
  · obtain ⟨a, ws, rfl, hl, ea, k⟩ := h
    match ws, hl with
    | [w0], _ =>
    refine ⟨_, PSs.nox (by exact (pss_cons (ps_ost (pv 0) (pv 1)) pss_nil)), ?_⟩
    exact ⟨_, rfl, _, rfl, a, _, rfl, T, n_row, .inl ⟨ea, fun dx hd hda => k dx _ (fun b o e n => by rw [upd_ne n, upd_ne (ne_of_none e hd)]; exact e) hd hda upd_same (by rw [upd_ne hda]; exact upd_same) (fun b n m => by rw [upd_ne n, upd_ne m])⟩⟩
theorem sign1 {z x : PySem.Str} {i : Nat} (h : (Rf.signs z)[i]? = some x) : x.length = 1 := by
  obtain ⟨c, _, rfl⟩ := signs_at' h
  rfl
def m_is_number (word : PySem.Str) : Bool := (cond ((decide (word = ("" : PySem.Str))) || (decide ((word.length : Int) > (9 : Int)))) false (fin (run (R := Bool) (fun (st : Unit) (sign : PySem.Str) => (cond (!inS sign ("0123456789" : PySem.Str)) (Fl.rt false) (Fl.nx ()))) () (Rf.signs word)) (fun r => r) (fun (_ : Unit) => ((decide ((word.length : Int) = (1 : Int))) || (!decide ((chI word (0 : Int)) = ("0" : PySem.Str)))))))
abbrev s_is_number : Stmt := top 5
def sp_is_number (K : Fg) : Sp := fun vs H Q E => ∃ (F : Hp) (word : PySem.Str) (w0 : V), vs = [w0] ∧ Same F H ∧ rp K F word w0 ∧ (word.length ≤ 3000) ∧ En (rV K) F H Q (m_is_number word)
theorem sv_is_number {K : Fg} {word : PySem.Str} (hpre : word.length ≤ 3000) : SpR (sp_is_number K) (fun (F : Hp) (vs : List V) => ∃ v r, vs = v :: r ∧ rp K F word v ∧ (fun (_ : Hp) (vs : List V) => vs = []) F r) CT (rV K (m_is_number word)) := by
  intro F H vs Q E s h _ hQ
  obtain ⟨v0, r0, e0, h0, h⟩ := h
  subst h
  subst e0
  exact ⟨F, word, v0, rfl, s, h0, hpre, hQ⟩
theorem sc_is_number : FnScope ["word", "sign"] ["word"] (defScope s_is_number) := ⟨rfl, rfl, rfl, by decide +kernel, rfl, by decide +kernel, by decide +kernel⟩
theorem ok_is_number {P : Program} {w : World} {K : Fg} {mg : PySem.Str → Option Value} {base : Heap} (B : Bs K mg) {f : Addr} {fd : FuncData} (F : FnP K "is_number" s_is_number f fd) : FnOk P w K mg base CX0 1 f fd ["word"] (sp_is_number K) := by
  obtain ⟨t_FIGURES, c_FIGURES⟩ := B.c_FIGURES
  have nd : (["word", "sign"] : List PySem.Str).Nodup := sc_is_number.nd
  refine F.ok sc_is_number (fun vs H Q E h => ?_) (fun cdv A outer s H0 vs Q E hr h => ?_)
  · obtain ⟨F0, word, w0, rfl, s, hw0, hpre, hP⟩ := h
    rfl
  · obtain ⟨F0, word, w0, rfl, s, hw0, hpre, hP⟩ := h
    obtain rfl := Flat.is hw0
    have M : Sg Z0 F0 H0 F0 H0 ([] : List Cell) := ⟨GrZ.refl s, (fun _ h => by cases h), Cl.nil s⟩
    refine ⟨_, PSs.nox (by exact (pss_cons (ps_if (PW.pt (pw_or (pt_cmpR op_eq (pv 0) pe_str (nomark _)) (pw_or1 (pt_cmpR op_gt (pe_callB call_len_str (by rfl) B.b_len (by decide +kernel) (pa_cons (pv 0) pa_nil)) pe_int (nomark _))))) (pss_cons (ps_ret pe_bl) pss_nil) pss_nil) (pss_cons (ps_for PassesOwn.never rfl (pi_str (pv 0)) (pg_name (i := 1) nd rfl (Or.inl rfl)) (pss_cons (ps_if (pt_cmpR op_notIn_sign (pv 1) (pe_glob (v := .str "0123456789") rfl c_FIGURES ⟨_, rfl⟩) (by rfl)) (pss_cons (ps_ret pe_bl) pss_nil) pss_nil) pss_nil)) (pss_cons (ps_ret (pe_or (pe_cmpR op_eq (pe_callB call_len_str (by rfl) B.b_len (by decide +kernel) (pa_cons (pv 0) pa_nil)) pe_int (nomark _)) (pe_one (pe_cmpR op_ne (pe_ix ix_str (pv 0) pe_int (fun _ _ => rfl)) pe_str (nomark _))))) pss_nil)))), ?_⟩
    refine nf_ (σ' := [some (Flat.val word), none]) rfl ?_
    refine q_if (P := (En (rV K) F0 H0 Q)) hP (tt_or (tt_test (K := K) (tv_op (tv_var rfl (Flat.of _)) tv_str op2_eqS)) (fun hq1 => (tt_test (K := K) (tv_op (tv_cb (ta_cons (tv_var rfl (Flat.of _)) ta_nil) (cb_lenS (by /- 1 strlen1 -/ first | (first | decide +kernel | omega) | ((try simp only [decide_eq_true_eq, decide_eq_false_iff_not, Bool.not_eq_true', Bool.not_eq_false', Bool.and_eq_true, Bool.and_eq_false_iff, Bool.or_eq_true, Bool.or_eq_false_iff] at hq1); (first | decide +kernel | omega))))) tv_int op2_gt)))) ?_ ?_
    · intro hc3 H3 e3 hP
      have M := M.grow e3
      refine nf_ (σ' := [some (Flat.val word), none]) rfl ?_
      exact x_ret (K := K) M.s (tv_flat tv_bl) (fun F1 H1 v g r => hP F1 H1 v ⟨(M.g.then g).gr, r⟩)
    · intro hc3 H3 e3 hP
      first | refine q_endS ?_ | refine q_endC ?_ | refine q_end ?_
      have M := M.grow e3
      have hc3p0 := (Bool.or_eq_false_iff.mp hc3).1
      have hr3p0 := (Bool.or_eq_false_iff.mp hc3).2
      have hc3p1 := hr3p0
      refine nf_ (σ' := [some (Flat.val word), none]) rfl ?_
      refine q_for (K := K) (P := (En (rV K) F0 H0 Q)) (fun (i : Nat) F H σ st => ∃ (ew_sign : Option V), σ = [some (Flat.val word), ew_sign] ∧ Sg Z0 F0 H0 F H ([] : List Cell)) hP M.s (it_str (K := K) (tv_var rfl (Flat.of _))) stb_t ⟨_, rfl, M⟩ (fun i F1 H1 σ1 st h => (by obtain ⟨_, _, Mq⟩ := h; exact ⟨Mq.s, trivial⟩)) ?_ ?_
      · rintro i4 sign ⟨⟩ Fa4 Ha4 Fl4 Hl4 σ4 vt4 Nl4 Bl4 Pl4 hx4 hr4 fa4 ⟨wj4_1, rfl, M⟩ gl4 hv4 hP hN4 hB4 hR4
        have M := M.gr gl4
        have hil4 := (List.getElem?_eq_some_iff.mp hx4).1
        obtain rfl := Flat.is hv4
        refine g_name ?_
        refine nf_ (σ' := [some (Flat.val word), some (Flat.val sign)]) rfl ?_
        refine q_if (P := Pl4) hP (tt_test (K := K) (tv_op (tv_var rfl (Flat.of _)) tv_str (op2_niS (by /- 2 sign -/ exact sign1 hx4)))) ?_ ?_
        · intro hc5 H5 e5 hP
          have M := M.grow e5
          refine nf_ (σ' := [some (Flat.val word), some (Flat.val sign)]) rfl ?_
          replace hP := hR4 _ hP
          exact x_ret (K := K) M.s (tv_flat tv_bl) (fun F1 H1 v g r => hP F1 H1 v ⟨(M.g.then g).gr, r⟩)
        · intro hc5 H5 e5 hP
          first | refine q_endS ?_ | refine q_endC ?_ | refine q_end ?_
          have M := M.grow e5
          first | refine q_endS ?_ | refine q_endC ?_ | refine q_end ?_
          exact hN4 _ hP _ _ _ (Same.refl _) ⟨_, rfl, M⟩
      · rintro i6 Fa6 Ha6 Fe6 He6 σ6 ⟨⟩ hi6 hrun6 fa6 ⟨wj6_1, rfl, M⟩ gl6 hP
        have M := M.gr gl6
        refine nf_ (σ' := [some (Flat.val word), wj6_1]) rfl ?_
        exact x_ret (K := K) M.s (tv_flat (tv_or (tv_op (tv_cb (ta_cons (tv_var rfl (Flat.of _)) ta_nil) (cb_lenS (by /- 3 strlen1 -/ first | (first | decide +kernel | omega) | ((try simp only [decide_eq_true_eq, decide_eq_false_iff_not, Bool.not_eq_true', Bool.not_eq_false', Bool.and_eq_true, Bool.and_eq_false_iff, Bool.or_eq_true, Bool.or_eq_false_iff] at hc3); (first | decide +kernel | omega))))) tv_int op2_eqI) (fun hq7 => (tv_op (tv_op (tv_var rfl (Flat.of _)) tv_int (op2_ixS (by /- 4 strlen1 -/ first | (first | decide +kernel | omega) | ((try simp only [decide_eq_true_eq, decide_eq_false_iff_not, Bool.not_eq_true', Bool.not_eq_false', Bool.and_eq_true, Bool.and_eq_false_iff, Bool.or_eq_true, Bool.or_eq_false_iff] at hc3); (try simp only [decide_eq_true_eq, decide_eq_false_iff_not, Bool.not_eq_true', Bool.not_eq_false', Bool.and_eq_true, Bool.and_eq_false_iff, Bool.or_eq_true, Bool.or_eq_false_iff] at hq7); (first | decide +kernel | omega))) (by /- 5 ixs -/ have := ne_len hc3p0; exact ⟨by omega, by omega⟩))) tv_str op2_neS)))) (fun F1 H1 v g r => hP F1 H1 v ⟨(M.g.then g).gr, r⟩)
def m_shape_of (word : PySem.Str) (many : Int) : (Option PySem.Str) := (cond (decide (word ∈ ([("come" : PySem.Str), ("weigh" : PySem.Str)] : List PySem.Str))) (some (("w" : PySem.Str) ++ (Txt.mul ("n" : PySem.Str) (many - (1 : Int))))) (cond (decide (word ∈ ([("go" : PySem.Str), ("fall" : PySem.Str), ("rise" : PySem.Str), ("share" : PySem.Str), ("firsts" : PySem.Str)] : List PySem.Str))) (some ("w" : PySem.Str)) (cond (decide (word ∈ ([("homes" : PySem.Str), ("ask" : PySem.Str), ("missed" : PySem.Str), ("bring" : PySem.Str), ("lose" : PySem.Str), ("twice" : PySem.Str)] : List PySem.Str))) (some ("n" : PySem.Str)) (cond (decide (word ∈ ([("read" : PySem.Str), ("shelf" : PySem.Str), ("known" : PySem.Str)] : List PySem.Str))) (some ("wn" : PySem.Str)) (cond (decide (word ∈ ([("letters" : PySem.Str), ("away" : PySem.Str), ("hints" : PySem.Str), ("mend" : PySem.Str), ("scant" : PySem.Str)] : List PySem.Str))) (some ("" : PySem.Str)) (cond (decide (word = ("thing" : PySem.Str))) (some ("nnnn" : PySem.Str)) (cond (decide (word = ("write" : PySem.Str))) (some ("wnw" : PySem.Str)) (cond (decide (word = ("meet" : PySem.Str))) (some ("ww" : PySem.Str)) (none : (Option PySem.Str))))))))))
theorem shape_len {word : PySem.Str} {many : Int} (h : 0 ≤ many ∧ many ≤ 5000) : (gt (m_shape_of word many)).length ≤ 5001 := by
  unfold m_shape_of
  have e1 : (("n" : PySem.Str)).length ≤ 1 := by decide +kernel
  have e2 : (("w" : PySem.Str)).length = 1 := by decide +kernel
  have key : ∀ (b : Bool) {x y : Option PySem.Str}, (gt x).length ≤ 5001 → (gt y).length ≤ 5001 → (gt (cond b x y)).length ≤ 5001 := fun b {x y} hx hy => by cases b <;> assumption
  repeat' apply key
  all_goals first
    | (show (_ ++ Txt.mul _ _ : PySem.Str).length ≤ 5001
       rw [app_len]
       have := mulS_len (a := ("n" : PySem.Str)) (k := many - 1) (N := 5000) e1 (by omega)
       omega)
    | (show (gt (some (_ : PySem.Str))).length ≤ 5001; decide +kernel)
    | (show (gt (none : Option PySem.Str)).length ≤ 5001; decide +kernel)
    | (show (gt (some (_ : PySem.Str))).length ≤ 5001; rw [show gt (some _) = _ from rfl]; decide +kernel)
abbrev s_shape_of : Stmt := top 6
def sp_shape_of (K : Fg) : Sp := fun vs H Q E => ∃ (F : Hp) (word : PySem.Str) (many : Int) (w0 : V) (w1 : V), vs = [w0, w1] ∧ Same F H ∧ rp K F word w0 ∧ rp K F many w1 ∧ (0 ≤ many ∧ many ≤ 5000) ∧ En (rV K) F H Q (m_shape_of word many)
theorem sv_shape_of {K : Fg} {word : PySem.Str} {many : Int} (hpre : 0 ≤ many ∧ many ≤ 5000) : SpR (sp_shape_of K) (fun (F : Hp) (vs : List V) => ∃ v r, vs = v :: r ∧ rp K F word v ∧ (fun (F : Hp) (vs : List V) => ∃ v r, vs = v :: r ∧ rp K F many v ∧ (fun (_ : Hp) (vs : List V) => vs = []) F r) F r) CT (rV K (m_shape_of word many)) := by
  intro F H vs Q E s h _ hQ
  obtain ⟨v0, r0, e0, h0, h⟩ := h
  obtain ⟨v1, r1, e1, h1, h⟩ := h
  subst h
  subst e1
  subst e0
  exact ⟨F, word, many, v0, v1, rfl, s, h0, h1, hpre, hQ⟩
theorem sc_shape_of : FnScope ["word", "many"] ["word", "many"] (defScope s_shape_of) := ⟨rfl, rfl, rfl, by decide +kernel, rfl, by decide +kernel, by decide +kernel⟩
theorem ok_shape_of {P : Program} {w : World} {K : Fg} {mg : PySem.Str → Option Value} {base : Heap} (B : Bs K mg) {f : Addr} {fd : FuncData} (F : FnP K "shape_of" s_shape_of f fd) : FnOk P w K mg base CX0 1 f fd ["word", "many"] (sp_shape_of K) := by
  have nd : (["word", "many"] : List PySem.Str).Nodup := sc_shape_of.nd
  refine F.ok sc_shape_of (fun vs H Q E h => ?_) (fun cdv A outer s H0 vs Q E hr h => ?_)
  · obtain ⟨F0, word, many, w0, w1, rfl, s, hw0, hw1, hpre, hP⟩ := h
    rfl
  · obtain ⟨F0, word, many, w0, w1, rfl, s, hw0, hw1, hpre, hP⟩ := h
    obtain rfl := Flat.is hw0
    obtain rfl := Flat.is hw1
    have M : Sg Z0 F0 H0 F0 H0 ([] : List Cell) := ⟨GrZ.refl s, (fun _ h => by cases h), Cl.nil s⟩
    refine ⟨_, PSs.nox (by exact (pss_cons (ps_if (pt_cmpR (in_seqK K) (pv 0) (pe_lst (pa_cons pe_str (pa_cons pe_str pa_nil))) (by rfl)) (pss_cons (ps_ret (pe_op op_add_str pe_str (pe_op op_mulS pe_str (pe_op op_sub (pv 1) pe_int)))) pss_nil) pss_nil) (pss_cons (ps_if (pt_cmpR (in_seqK K) (pv 0) (pe_lst (pa_cons pe_str (pa_cons pe_str (pa_cons pe_str (pa_cons pe_str (pa_cons pe_str pa_nil)))))) (by rfl)) (pss_cons (ps_ret pe_str) pss_nil) pss_nil) (pss_cons (ps_if (pt_cmpR (in_seqK K) (pv 0) (pe_lst (pa_cons pe_str (pa_cons pe_str (pa_cons pe_str (pa_cons pe_str (pa_cons pe_str (pa_cons pe_str pa_nil))))))) (by rfl)) (pss_cons (ps_ret pe_str) pss_nil) pss_nil) (pss_cons (ps_if (pt_cmpR (in_seqK K) (pv 0) (pe_lst (pa_cons pe_str (pa_cons pe_str (pa_cons pe_str pa_nil)))) (by rfl)) (pss_cons (ps_ret pe_str) pss_nil) pss_nil) (pss_cons (ps_if (pt_cmpR (in_seqK K) (pv 0) (pe_lst (pa_cons pe_str (pa_cons pe_str (pa_cons pe_str (pa_cons pe_str (pa_cons pe_str pa_nil)))))) (by rfl)) (pss_cons (ps_ret pe_str) pss_nil) pss_nil) (pss_cons (ps_if (pt_cmpR op_eq (pv 0) pe_str (nomark _)) (pss_cons (ps_ret pe_str) pss_nil) pss_nil) (pss_cons (ps_if (pt_cmpR op_eq (pv 0) pe_str (nomark _)) (pss_cons (ps_ret pe_str) pss_nil) pss_nil) (pss_cons (ps_if (pt_cmpR op_eq (pv 0) pe_str (nomark _)) (pss_cons (ps_ret pe_str) pss_nil) pss_nil) (pss_cons (ps_ret pe_non) pss_nil)))))))))), ?_⟩
    refine nf_ (σ' := [some (Flat.val word), some (Flat.val many)]) rfl ?_
    refine q_if (P := (En (rV K) F0 H0 Q)) hP (tt_test (K := K) (tv_op (tv_var rfl (Flat.of _)) (TvL.tv (tl_lst (ta_rcons tv_str (ta_rcons tv_str ta_rnil)) (by show 2 ≤ 100000; decide))) op2_inL)) ?_ ?_
    · intro hc1 H1 e1 hP
      have M := M.grow e1
      refine nf_ (σ' := [some (Flat.val word), some (Flat.val many)]) rfl ?_
      exact x_ret (K := K) M.s (tv_flat (tv_some (tv_op tv_str (tv_op tv_str (tv_op (tv_var rfl (Flat.of _)) tv_int op2_sub) (op2_mulS (by /- 1 muls -/ exact ⟨by decide +kernel, by omega, by omega⟩))) (op2_cats (by /- 2 strlen -/ have := mulS_len (a := ("n" : PySem.Str)) (k := many - 1) (N := 5000) (by decide +kernel) (by omega); have e2 : (("w" : PySem.Str)).length = 1 := (by decide +kernel); rw [e2]; omega))))) (fun F1 H1 v g r => hP F1 H1 v ⟨(M.g.then g).gr, r⟩)
    · intro hc1 H1 e1 hP
      first | refine q_endS ?_ | refine q_endC ?_ | refine q_end ?_
      have M := M.grow e1
      refine nf_ (σ' := [some (Flat.val word), some (Flat.val many)]) rfl ?_
      refine q_if (P := (En (rV K) F0 H0 Q)) hP (tt_test (K := K) (tv_op (tv_var rfl (Flat.of _)) (TvL.tv (tl_lst (ta_rcons tv_str (ta_rcons tv_str (ta_rcons tv_str (ta_rcons tv_str (ta_rcons tv_str ta_rnil))))) (by show 5 ≤ 100000; decide))) op2_inL)) ?_ ?_
      · intro hc2 H2 e2 hP
        have M := M.grow e2
        refine nf_ (σ' := [some (Flat.val word), some (Flat.val many)]) rfl ?_
        exact x_ret (K := K) M.s (tv_flat (tv_some tv_str)) (fun F1 H1 v g r => hP F1 H1 v ⟨(M.g.then g).gr, r⟩)
      · intro hc2 H2 e2 hP
        first | refine q_endS ?_ | refine q_endC ?_ | refine q_end ?_
        have M := M.grow e2
        refine nf_ (σ' := [some (Flat.val word), some (Flat.val many)]) rfl ?_
        refine q_if (P := (En (rV K) F0 H0 Q)) hP (tt_test (K := K) (tv_op (tv_var rfl (Flat.of _)) (TvL.tv (tl_lst (ta_rcons tv_str (ta_rcons tv_str (ta_rcons tv_str (ta_rcons tv_str (ta_rcons tv_str (ta_rcons tv_str ta_rnil)))))) (by show 6 ≤ 100000; decide))) op2_inL)) ?_ ?_
        · intro hc3 H3 e3 hP
          have M := M.grow e3
          refine nf_ (σ' := [some (Flat.val word), some (Flat.val many)]) rfl ?_
          exact x_ret (K := K) M.s (tv_flat (tv_some tv_str)) (fun F1 H1 v g r => hP F1 H1 v ⟨(M.g.then g).gr, r⟩)
        · intro hc3 H3 e3 hP
          first | refine q_endS ?_ | refine q_endC ?_ | refine q_end ?_
          have M := M.grow e3
          refine nf_ (σ' := [some (Flat.val word), some (Flat.val many)]) rfl ?_
          refine q_if (P := (En (rV K) F0 H0 Q)) hP (tt_test (K := K) (tv_op (tv_var rfl (Flat.of _)) (TvL.tv (tl_lst (ta_rcons tv_str (ta_rcons tv_str (ta_rcons tv_str ta_rnil))) (by show 3 ≤ 100000; decide))) op2_inL)) ?_ ?_
          · intro hc4 H4 e4 hP
            have M := M.grow e4
            refine nf_ (σ' := [some (Flat.val word), some (Flat.val many)]) rfl ?_
            exact x_ret (K := K) M.s (tv_flat (tv_some tv_str)) (fun F1 H1 v g r => hP F1 H1 v ⟨(M.g.then g).gr, r⟩)
          · intro hc4 H4 e4 hP
            first | refine q_endS ?_ | refine q_endC ?_ | refine q_end ?_
            have M := M.grow e4
            refine nf_ (σ' := [some (Flat.val word), some (Flat.val many)]) rfl ?_
            refine q_if (P := (En (rV K) F0 H0 Q)) hP (tt_test (K := K) (tv_op (tv_var rfl (Flat.of _)) (TvL.tv (tl_lst (ta_rcons tv_str (ta_rcons tv_str (ta_rcons tv_str (ta_rcons tv_str (ta_rcons tv_str ta_rnil))))) (by show 5 ≤ 100000; decide))) op2_inL)) ?_ ?_
            · intro hc5 H5 e5 hP
              have M := M.grow e5
              refine nf_ (σ' := [some (Flat.val word), some (Flat.val many)]) rfl ?_
              exact x_ret (K := K) M.s (tv_flat (tv_some tv_str)) (fun F1 H1 v g r => hP F1 H1 v ⟨(M.g.then g).gr, r⟩)
            · intro hc5 H5 e5 hP
              first | refine q_endS ?_ | refine q_endC ?_ | refine q_end ?_
              have M := M.grow e5
              refine nf_ (σ' := [some (Flat.val word), some (Flat.val many)]) rfl ?_
              refine q_if (P := (En (rV K) F0 H0 Q)) hP (tt_test (K := K) (tv_op (tv_var rfl (Flat.of _)) tv_str op2_eqS)) ?_ ?_
              · intro hc6 H6 e6 hP
                have M := M.grow e6
                refine nf_ (σ' := [some (Flat.val word), some (Flat.val many)]) rfl ?_
                exact x_ret (K := K) M.s (tv_flat (tv_some tv_str)) (fun F1 H1 v g r => hP F1 H1 v ⟨(M.g.then g).gr, r⟩)
              · intro hc6 H6 e6 hP
                first | refine q_endS ?_ | refine q_endC ?_ | refine q_end ?_
                have M := M.grow e6
                refine nf_ (σ' := [some (Flat.val word), some (Flat.val many)]) rfl ?_
                refine q_if (P := (En (rV K) F0 H0 Q)) hP (tt_test (K := K) (tv_op (tv_var rfl (Flat.of _)) tv_str op2_eqS)) ?_ ?_
                · intro hc7 H7 e7 hP
                  have M := M.grow e7
                  refine nf_ (σ' := [some (Flat.val word), some (Flat.val many)]) rfl ?_
                  exact x_ret (K := K) M.s (tv_flat (tv_some tv_str)) (fun F1 H1 v g r => hP F1 H1 v ⟨(M.g.then g).gr, r⟩)
                · intro hc7 H7 e7 hP
                  first | refine q_endS ?_ | refine q_endC ?_ | refine q_end ?_
                  have M := M.grow e7
                  refine nf_ (σ' := [some (Flat.val word), some (Flat.val many)]) rfl ?_
                  refine q_if (P := (En (rV K) F0 H0 Q)) hP (tt_test (K := K) (tv_op (tv_var rfl (Flat.of _)) tv_str op2_eqS)) ?_ ?_
                  · intro hc8 H8 e8 hP
                    have M := M.grow e8
                    refine nf_ (σ' := [some (Flat.val word), some (Flat.val many)]) rfl ?_
                    exact x_ret (K := K) M.s (tv_flat (tv_some tv_str)) (fun F1 H1 v g r => hP F1 H1 v ⟨(M.g.then g).gr, r⟩)
                  · intro hc8 H8 e8 hP
                    first | refine q_endS ?_ | refine q_endC ?_ | refine q_end ?_
                    have M := M.grow e8
                    refine nf_ (σ' := [some (Flat.val word), some (Flat.val many)]) rfl ?_
                    exact x_ret (K := K) M.s (tv_flat tv_noneO) (fun F1 H1 v g r => hP F1 H1 v ⟨(M.g.then g).gr, r⟩)
theorem spl_mem (c : Nat) : ∀ (l : List Nat) (w : List Nat), w ∈ spl c l → w.length ≤ l.length := by
  intro l
  induction l with
  | nil => intro w h; rw [spl_no (by simp)] at h; simp at h; simp [h]
  | cons x r ih =>
    intro w h
    by_cases hc : x = c
    · subst hc
      have e := spl_app x r []
      rw [List.nil_append, spl_no (a := []) (by simp)] at e
      rw [e] at h
      rcases List.mem_append.mp h with h | h
      · simp at h; simp [h]
      · have := ih w h; simp; omega
    · obtain ⟨p, q, e⟩ := spl_ne c r
      have e2 : spl c (x :: r) = (x :: p) :: q := by
        unfold spl
        first | (rw [e]; simp [hc]; done) | (simp [hc, e]; done)
      rw [e2] at h
      rcases List.mem_cons.mp h with h | h
      · have := ih p (by rw [e]; exact List.mem_cons_self ..)
        rw [h]; simp; omega
      · have := ih w (by rw [e]; exact List.mem_cons_of_mem _ h)
        simp; omega
theorem split_sp (t : PySem.Str) : Txt.split t (" " : PySem.Str) = (spl 32 t.cps.toList).map tS := by
  rw [show (" " : PySem.Str) = ⟨#[32]⟩ by decide +kernel, split_is _ (by decide)]
theorem split_ne (t : PySem.Str) : 1 ≤ (Txt.split t (" " : PySem.Str)).length ∧ (Txt.split t (" " : PySem.Str)).length ≤ t.length + 1 := by
  rw [split_sp, List.length_map, spl_len]
  have := List.count_le_length (a := 32) (l := t.cps.toList)
  have e : t.cps.toList.length = t.length := Array.length_toList
  omega
theorem split_mem {t w : PySem.Str} (h : w ∈ Txt.split t (" " : PySem.Str)) : w.length ≤ t.length := by
  rw [split_sp] at h
  obtain ⟨l, hl, rfl⟩ := List.mem_map.mp h
  have := spl_mem 32 _ l hl
  have e : t.cps.toList.length = t.length := Array.length_toList
  show l.toArray.size ≤ _
  rw [List.size_toArray]; omega
theorem cut_mem {α : Type} {xs : List α} {lo hi : Option Int} {x : α} (h : x ∈ cutI xs lo hi) : x ∈ xs := List.mem_of_mem_drop (List.mem_of_mem_take h)
theorem cut_len {α : Type} (xs : List α) (lo hi : Option Int) : (cutI xs lo hi).length ≤ xs.length := by unfold cutI; simp; omega
theorem zipc_len {xs : List PySem.Str} {words : List PySem.Str} : (zipP xs (cutI words (some (1 : Int)) none)).length ≤ words.length := by
  rw [zipP_len]; have := cut_len words (some (1 : Int)) none; omega
theorem zipc_mem {xs : List PySem.Str} {words : List PySem.Str} {t : PySem.Str} {i : Nat} {p : Pr PySem.Str PySem.Str} (hw : words = Txt.split t (" " : PySem.Str)) (h : (zipP xs (cutI words (some (1 : Int)) none))[i]? = some p) : p.2.length ≤ t.length := by
  have := cut_mem (List.mem_of_getElem? (zip_at h).2)
  rw [hw] at this
  exact split_mem this
theorem due_eq0 (t : PySem.Str) (h : m_is_number t = true) : t.length ≤ 9 ∧ 1 ≤ t.length ∧ ∀ c ∈ t.cps.toList, 48 ≤ c ∧ c ≤ 57 := by
  unfold m_is_number at h
  by_cases h0 : (decide (t = ("" : PySem.Str)) || decide ((t.length : Int) > 9)) = true
  · rw [h0] at h; cases h
  · have h0 := Bool.eq_false_iff.mpr h0
    rw [h0] at h
    obtain ⟨h1, h2⟩ := Bool.or_eq_false_iff.mp h0
    have h2 := of_decide_eq_false h2
    refine ⟨by omega, ne_len h1, fun c hc => ?_⟩
    have key : ∀ (xs : List PySem.Str), fin (Rf.run (fun (_ : Unit) (sign : PySem.Str) => cond (!inS sign ("0123456789" : PySem.Str)) (Fl.rt false) (Fl.nx ())) () xs) (fun r => r) (fun _ => decide ((t.length : Int) = 1) || !decide ((chI t (0 : Int)) = ("0" : PySem.Str))) = true → ∀ x ∈ xs, inS x ("0123456789" : PySem.Str) = true := by
      intro xs
      induction xs with
      | nil => intro _ x hx; cases hx
      | cons a r ih =>
        intro hr x hx
        cases ha : inS a ("0123456789" : PySem.Str) with
        | false => simp only [Rf.run, ha, Bool.not_false, cond_true, fin_rt] at hr; cases hr
        | true =>
          simp only [Rf.run, ha, Bool.not_true, cond_false] at hr
          rcases List.mem_cons.mp hx with rfl | hx
          · exact ha
          · exact ih hr x hx
    have hk := key _ h ⟨#[c]⟩ (List.mem_map.mpr ⟨c, hc, rfl⟩)
    unfold inS at hk
    have e : (("0123456789" : PySem.Str)).cps.toList = [48, 49, 50, 51, 52, 53, 54, 55, 56, 57] := by decide +kernel
    rw [e] at hk
    have hk := of_decide_eq_true hk
    simp only [List.mem_cons, List.not_mem_nil, or_false] at hk
    have e2 : ixI ([c] : List Nat) 0 = c := rfl
    first | omega | (change c = 48 ∨ c = 49 ∨ c = 50 ∨ c = 51 ∨ c = 52 ∨ c = 53 ∨ c = 54 ∨ c = 55 ∨ c = 56 ∨ c = 57 at hk; omega)
theorem num_int {t : PySem.Str} (h : m_is_number t = true) : (PySem.intText? t).isSome = true := by
  obtain ⟨h2, h1, h3⟩ := due_eq0 t h
  have e := SX.int_S (a := t.cps.toList) (List.all_eq_true.mpr fun c hc => by simpa using h3 c hc) (fun z => by have : t.cps.toList.length = t.length := Array.length_toList; rw [z] at this; simp at this; omega) (by have : t.cps.toList.length = t.length := Array.length_toList; omega)
  have e2 : SX.S t.cps.toList = t := rfl
  rw [e2] at e
  rw [e]; rfl
def m_read_row (row : Dv) : (Except Er (List Dv)) := (cond (!(dvIs "str" row)) (.error (⟨"NoRow", [("row", row)]⟩ : Er)) (lt (Txt.split (vS row) (" " : PySem.Str)) fun (words : (List PySem.Str)) => (lt (m_shape_of (ixI words (0 : Int)) ((words.length : Int) - (1 : Int))) fun (shape : (Option PySem.Str)) => (cond ((shape).isNone || (!decide (((gt shape).length : Int) = ((words.length : Int) - (1 : Int))))) (.error (⟨"NoRow", [("row", (Dv.str (vS row)))]⟩ : Er)) (lt (([(ixI words (0 : Int))] : List PySem.Str).map Dv.str) fun (found : (List Dv)) => (fin (run (R := (Except Er (List Dv))) (fun (found : ((List Dv))) (x8 : (Pr PySem.Str PySem.Str)) => (ltP x8 fun (sign : PySem.Str) (word : PySem.Str) => (cond (decide (sign = ("w" : PySem.Str))) (lt (found ++ [(Dv.str word)]) fun (found : (List Dv)) => (Fl.nx (found))) (cond (m_is_number word) (lt (found ++ [(Dv.int (intT word))]) fun (found : (List Dv)) => (Fl.nx (found))) (Fl.rt (.error (⟨"NoRow", [("row", (Dv.str (vS row)))]⟩ : Er))))))) (found) (zipP (Rf.signs (gt shape)) (cutI words (some (1 : Int)) none))) (fun r => r) (fun (found : (List Dv)) => (.ok found))))))))
theorem run_err {α S R : Type} {b : S → α → Fl S (Except Er R)} {Q : Er → Prop} (hb : ∀ s x e, b s x = .rt (.error e) → Q e) : ∀ (xs : List α) (s : S) (e : Er), Rf.run b s xs = .rt (.error e) → Q e
  | [], _, _, h => by cases h
  | x :: xs, s, e, h => by
    simp only [Rf.run] at h
    split at h
    · exact run_err hb xs _ e h
    · cases h
    · rename_i r hr
      cases h
      exact hb _ _ _ hr
theorem fin_er {S R : Type} {f : Fl S (Except Er R)} {k : S → Except Er R} {e : Er} (hk : ∀ s, k s ≠ .error e) (h : fin f (fun r => r) k = .error e) : f = .rt (.error e) := by
  cases f with
  | nx s => rw [fin_nx] at h; exact absurd h (hk s)
  | bk s => rw [fin_bk] at h; exact absurd h (hk s)
  | rt r => rw [fin_rt] at h; rw [h]
theorem rr_err {row : PySem.Str} {e : Er} (h : m_read_row (Dv.str row) = .error e) : e = ⟨"NoRow", [("row", Dv.str row)]⟩ := by
  unfold m_read_row at h
  simp only [lt_eq] at h
  rw [show (!(dvIs "str" (Dv.str row))) = false from rfl, cond_false] at h
  generalize ((m_shape_of _ _).isNone || _ : Bool) = b at h
  cases b
  · rw [cond_false] at h
    have h := fin_er (fun s q => by cases q) h
    refine run_err (Q := fun e => e = ⟨"NoRow", [("row", Dv.str row)]⟩) ?_ _ _ _ h
    intro s x e q
    simp only [ltP_eq] at q
    generalize decide (x.1 = _) = b1 at q
    generalize m_is_number _ = b2 at q
    cases b1 <;> cases b2 <;> simp only [cond_true, cond_false] at q <;> first | (cases q; done) | (cases q; rfl)
  · rw [cond_true] at h; cases h; rfl
theorem lr_err {row : PySem.Str} {e : Er} (h : (bx (m_read_row (Dv.str row)) fun (y4 : (List Dv)) => (lt (some y4) fun (found : (Option (List Dv))) => (.ok (found)))) = .error e) : e = ⟨"NoRow", [("row", Dv.str row)]⟩ := by
  cases q : m_read_row (Dv.str row) with
  | ok y => rw [q, bx_ok, lt_eq] at h; cases h
  | error e' => rw [q, bx_er] at h; cases h; exact rr_err q
abbrev s_read_row : Stmt := top 7
def sp_read_row (K : Fg) : Sp := fun vs H Q E => ∃ (F : Hp) (row : Dv) (w0 : V), vs = [w0] ∧ Same F H ∧ rp K F row w0 ∧ ((vS row).length ≤ 3000) ∧ EnX K (rL K) F H Q E (m_read_row row)
theorem sv_read_row {K : Fg} {row : Dv} (hpre : (vS row).length ≤ 3000) : SpRX K (sp_read_row K) (fun (F : Hp) (vs : List V) => ∃ v r, vs = v :: r ∧ rp K F row v ∧ (fun (_ : Hp) (vs : List V) => vs = []) F r) CT (rL K) (m_read_row row) := by
  intro F H vs Q E s h _ hQ
  obtain ⟨v0, r0, e0, h0, h⟩ := h
  subst h
  subst e0
  exact ⟨F, row, v0, rfl, s, h0, hpre, hQ⟩
theorem sc_read_row : FnScope ["row", "words", "shape", "found", "sign", "word"] ["row"] (defScope s_read_row) := ⟨rfl, rfl, rfl, by decide +kernel, rfl, by decide +kernel, by decide +kernel⟩
theorem ok_read_row {P : Program} {w : World} {K : Fg} {mg : PySem.Str → Option Value} {base : Heap} (B : Bs K mg) (D_NoRow___init__ : ∃ f fd, FnOk P w K mg base CX0 1 f fd ["self", "row"] (spEx (He.ga K "NoRow") ["row"]) ∧ f = He.ma K (He.ga K "NoRow") "__init__" ∧ Binds K fd ["self", "row"] []) (D_shape_of : Dn P w K mg base CX0 "shape_of" 1 ["word", "many"] (sp_shape_of K)) (D_is_number : Dn P w K mg base CX0 "is_number" 1 ["word"] (sp_is_number K)) {f : Addr} {fd : FuncData} (F : FnP K "read_row" s_read_row f fd) : FnOk P w K mg base (L2.CX P w) 3 f fd ["row"] (sp_read_row K) := by
  obtain ⟨f_NoRow___init__, d_NoRow___init__, G_NoRow___init__, rfl, b_NoRow___init__⟩ := D_NoRow___init__
  obtain ⟨f_shape_of, d_shape_of, G_shape_of, g_shape_of, k_shape_of, b_shape_of⟩ := D_shape_of
  obtain ⟨f_is_number, d_is_number, G_is_number, g_is_number, k_is_number, b_is_number⟩ := D_is_number
  have nd : (["row", "words", "shape", "found", "sign", "word"] : List PySem.Str).Nodup := sc_read_row.nd
  refine F.ok sc_read_row (fun vs H Q E h => ?_) (fun cdv A outer s H0 vs Q E hr h => ?_)
  · obtain ⟨F0, row, vp_0, rfl, s, hp_0, hpre, hP⟩ := h
    rfl
  · obtain ⟨F0, row, vp_0, rfl, s, hp_0, hpre, hP⟩ := h
    have M : Sg Z0 F0 H0 F0 H0 ([] : List Cell) := ⟨GrZ.refl s, (fun _ h => by cases h), Cl.nil s⟩
    refine ⟨_, (by exact (pss_cons (ps_if (pt_not (pt_val (pe_callB (isiK K) (by rfl) B.b_isinstance (by decide +kernel) (pa_cons (pv 0) (pa_cons (pe_bltn (v := .ty "str") (by rfl) B.b_str (by decide +kernel) rfl) pa_nil))))) (pss_cons (ps_raise rfl (takes_of rfl rfl rfl rfl) (pmk_oex B.x_NoRow.o B.x_NoRow.i B.x_NoRow.t G_NoRow___init__ (hr.mono (by omega)) b_NoRow___init__ .nil pass0 rfl B.x_NoRow.g (pa_cons (pv 0) pa_nil))) pss_nil) pss_nil) (pss_cons (ps_set (i := 1) nd rfl (Or.inl rfl) (pe_split (pv 0) pe_str)) (pss_cons (ps_set (i := 2) nd rfl (Or.inl rfl) (pe_call G_shape_of (hr.mono (by omega)) rfl g_shape_of k_shape_of b_shape_of .nil pass0 (pa_cons (pe_ix (ix_listK K) (pv 1) pe_int (fun _ _ => rfl)) (pa_cons (pe_op op_sub (pe_callB (len_seqK K) (by rfl) B.b_len (by decide +kernel) (pa_cons (pv 1) pa_nil)) pe_int) pa_nil)))) (pss_cons (ps_if (PW.pt (pw_or (pt_cmpR op_isN1 (pv 2) pe_non (nomark _)) (pw_or1 (pt_cmpR op_ne (pe_callB call_len_str (by rfl) B.b_len (by decide +kernel) (pa_cons (pv 2) pa_nil)) (pe_op op_sub (pe_callB (len_seqK K) (by rfl) B.b_len (by decide +kernel) (pa_cons (pv 1) pa_nil)) pe_int) (nomark _))))) (pss_cons (ps_raise rfl (takes_of rfl rfl rfl rfl) (pmk_oex B.x_NoRow.o B.x_NoRow.i B.x_NoRow.t G_NoRow___init__ (hr.mono (by omega)) b_NoRow___init__ .nil pass0 rfl B.x_NoRow.g (pa_cons (pv 0) pa_nil))) pss_nil) pss_nil) (pss_cons (ps_set (i := 3) nd rfl (Or.inl rfl) (pe_lst (pa_cons (pe_ix (ix_listK K) (pv 1) pe_int (fun _ _ => rfl)) pa_nil))) (pss_cons (ps_for (passes_of rfl) rfl (pi_zipS K (by rfl) B.b_zip (pa_cons (pv 2) (pa_cons (pe_slice (sl_listK K) (pv 1) (po_some pe_int) po_none) pa_nil))) (pg_tupK K (by rfl) (pgs_cons (pg_name (i := 4) nd rfl (Or.inl rfl)) (pgs_cons (pg_name (i := 5) nd rfl (Or.inl rfl)) pgs_nil))) (pss_cons (ps_if (pt_cmpR op_eq (pv 4) pe_str (nomark _)) (pss_cons (ps_expr (pe_bm PySem.F.plainAttrs_list PySem.F.slot_list_append PySem.F.type_list_append mt_append (pv 3) (pa_cons (pv 5) pa_nil))) pss_nil) (pss_cons (ps_if (pt_val (pe_call G_is_number (hr.mono (by omega)) rfl g_is_number k_is_number b_is_number .nil pass0 (pa_cons (pv 5) pa_nil))) (pss_cons (ps_expr (pe_bm PySem.F.plainAttrs_list PySem.F.slot_list_append PySem.F.type_list_append mt_append (pv 3) (pa_cons (pe_callTy call_int_str (by rfl) B.b_int (by decide +kernel) (pa_cons (pv 5) pa_nil)) pa_nil))) pss_nil) (pss_cons (ps_raise rfl (takes_of rfl rfl rfl rfl) (pmk_oex B.x_NoRow.o B.x_NoRow.i B.x_NoRow.t G_NoRow___init__ (hr.mono (by omega)) b_NoRow___init__ .nil pass0 rfl B.x_NoRow.g (pa_cons (pv 0) pa_nil))) pss_nil)) pss_nil)) pss_nil)) (pss_cons (ps_ret (pv 3)) pss_nil)))))))), ?_⟩
    refine nf_ (σ' := [some vp_0, none, none, none, none, none]) rfl ?_
    refine q_if (P := (EnX K (rL K) F0 H0 Q E)) hP (tt_not (tt_B (K := K) (tv_isiDv (tv_var rfl (up M.s hp_0)) (kitv_str _)))) ?_ ?_
    · intro hc1 H1 e1 hP
      have M := M.grow e1
      refine nf_ (σ' := [some vp_0, none, none, none, none, none]) rfl ?_
      exact x_raiseX (K := K) (W := (fun cls d _ H => E cls d H)) (c := "NoRow") (fs := ["row"]) (xs := [row]) M.s (ta_rcons (tv_var rfl hp_0) ta_rnil) rfl (by simp) (by show 1 ≤ 1000; decide) (fun F2 H2 cls d g2 x => (enx_er hP) F2 H2 cls d (M.g.then g2).gr x)
    · intro hc1 H1 e1 hP
      first | refine q_endS ?_ | refine q_endC ?_ | refine q_end ?_
      have M := M.grow e1
      obtain rfl := rp_vS (dvS_is (by simpa using hc1)) hp_0
      refine nf_ (σ' := [some (Flat.val (vS row)), none, none, none, none, none]) rfl ?_
      refine p_let (P := (EnX K (rL K) F0 H0 Q E)) hP (fun words hwords hP => ?_)
      refine x_set (K := K) M.s (TvL.tv (tl_split (tv_var rfl (Flat.of _)) tv_str (by decide +kernel) (by /- 1 strlen1 -/ first | (first | decide +kernel | omega) | ((try simp only [decide_eq_true_eq, decide_eq_false_iff_not, Bool.not_eq_true', Bool.not_eq_false', Bool.and_eq_true, Bool.and_eq_false_iff, Bool.or_eq_true, Bool.or_eq_false_iff] at hc1); (first | decide +kernel | omega))))) hwords (fun F2 H2 v2 gr2 h_2 => ?_)
      have M := M.gr gr2
      have hw1 := (split_ne (vS row)).1
      have hw2 := (split_ne (vS row)).2
      rw [← hwords] at hw1 hw2
      refine nf_ (σ' := [some (Flat.val (vS row)), some v2, none, none, none, none]) rfl ?_
      refine p_let (P := (EnX K (rL K) F0 H0 Q E)) hP (fun shape hshape hP => ?_)
      refine x_setF (K := K) (tv_callV (ta_cons (tv_op (tv_var rfl (up M.s h_2)) tv_int (op2_ixL (by /- 2 ix -/ first | (first | exact ⟨by decide, by decide⟩ | exact ⟨by omega, by omega⟩) | ((try simp only [decide_eq_true_eq, decide_eq_false_iff_not, Bool.not_eq_true', Bool.not_eq_false', Bool.and_eq_true, Bool.and_eq_false_iff, Bool.or_eq_true, Bool.or_eq_false_iff] at hc1); (first | exact ⟨by decide, by decide⟩ | exact ⟨by omega, by omega⟩))))) (ta_cons (tv_op (tv_cb (ta_cons (tv_var rfl (up M.s h_2)) ta_nil) cb_lenL) tv_int op2_sub) ta_nil)) (sv_shape_of (by /- 3 pre:shape_of -/ first | (first | decide | assumption | omega | ((try simp only [vS, vI]); omega)) | ((try simp only [decide_eq_true_eq, decide_eq_false_iff_not, Bool.not_eq_true', Bool.not_eq_false', Bool.and_eq_true, Bool.and_eq_false_iff, Bool.or_eq_true, Bool.or_eq_false_iff] at hc1); (first | decide | assumption | omega | ((try simp only [vS, vI]); omega))))) (fun _ => trivial)) hshape (fun H3 e3 => ?_)
      have M := M.grow e3
      have hsl : (gt shape).length ≤ 5001 := by rw [hshape]; exact shape_len ⟨by omega, by omega⟩
      refine nf_ (σ' := [some (Flat.val (vS row)), some v2, some (Flat.val shape), none, none, none]) rfl ?_
      refine q_if (P := (EnX K (rL K) F0 H0 Q E)) hP (tt_or (tt_test (K := K) (tv_op (tv_var rfl (Flat.of _)) tv_non op2_isN)) (fun hq4 => (tt_test (K := K) (tv_op (tv_cb (ta_cons (tv_gt (tv_var rfl (Flat.of _)) (by /- 4 some -/ first | assumption | exact some_of (by assumption))) ta_nil) (cb_lenS (by /- 5 strlen1 -/ first | (first | decide +kernel | omega) | ((try simp only [decide_eq_true_eq, decide_eq_false_iff_not, Bool.not_eq_true', Bool.not_eq_false', Bool.and_eq_true, Bool.and_eq_false_iff, Bool.or_eq_true, Bool.or_eq_false_iff] at hc1); (try simp only [decide_eq_true_eq, decide_eq_false_iff_not, Bool.not_eq_true', Bool.not_eq_false', Bool.and_eq_true, Bool.and_eq_false_iff, Bool.or_eq_true, Bool.or_eq_false_iff] at hq4); (first | decide +kernel | omega))))) (tv_op (tv_cb (ta_cons (tv_var rfl (up M.s h_2)) ta_nil) cb_lenL) tv_int op2_sub) op2_neI)))) ?_ ?_
      · intro hc6 H6 e6 hP
        have M := M.grow e6
        refine nf_ (σ' := [some (Flat.val (vS row)), some v2, some (Flat.val shape), none, none, none]) rfl ?_
        exact x_raiseX (K := K) (W := (fun cls d _ H => E cls d H)) (c := "NoRow") (fs := ["row"]) (xs := [(Dv.str (vS row))]) M.s (ta_rcons (tv_dvS (tv_flat (tv_var rfl (Flat.of _)))) ta_rnil) rfl (by simp) (by show 1 ≤ 1000; decide) (fun F2 H2 cls d g2 x => (enx_er hP) F2 H2 cls d (M.g.then g2).gr x)
      · intro hc6 H6 e6 hP
        first | refine q_endS ?_ | refine q_endC ?_ | refine q_end ?_
        have M := M.grow e6
        have hc6p0 := (Bool.or_eq_false_iff.mp hc6).1
        have hr6p0 := (Bool.or_eq_false_iff.mp hc6).2
        have hs_shape : (shape).isSome = true := some_of hc6p0
        have hc6p1 := hr6p0
        refine nf_ (σ' := [some (Flat.val (vS row)), some v2, some (Flat.val shape), none, none, none]) rfl ?_
        refine p_let (P := (EnX K (rL K) F0 H0 Q E)) hP (fun found hfound hP => ?_)
        refine x_setM (K := K) M.s (tl_mapS (tl_lst (ta_rcons (tv_flat (tv_op (tv_var rfl (up M.s h_2)) tv_int (op2_ixL (by /- 6 ix -/ first | (first | exact ⟨by decide, by decide⟩ | exact ⟨by omega, by omega⟩) | ((try simp only [decide_eq_true_eq, decide_eq_false_iff_not, Bool.not_eq_true', Bool.not_eq_false', Bool.and_eq_true, Bool.and_eq_false_iff, Bool.or_eq_true, Bool.or_eq_false_iff] at hc1); (try simp only [decide_eq_true_eq, decide_eq_false_iff_not, Bool.not_eq_true', Bool.not_eq_false', Bool.and_eq_true, Bool.and_eq_false_iff, Bool.or_eq_true, Bool.or_eq_false_iff] at hc6); (first | exact ⟨by decide, by decide⟩ | exact ⟨by omega, by omega⟩)))))) ta_rnil) (by show 1 ≤ 100000; decide))) hfound (fun F7 H7 p7 gr7 n7 mm7 => ?_)
        have M : Sg Z0 F0 H0 F7 H7 ([(p7, cLst K found)] ++ []) := M.addL gr7 n7 mm7
        refine nf_ (σ' := [some (Flat.val (vS row)), some v2, some (Flat.val shape), some (.ref p7), none, none]) rfl ?_
        refine q_for (K := K) (P := (EnX K (rL K) F0 H0 Q E)) (fun (i : Nat) F H σ st => ∃ (ew_sign : Option V) (ew_word : Option V), σ = [some (Flat.val (vS row)), some v2, some (Flat.val shape), some (.ref p7), ew_sign, ew_word] ∧ Sg Z0 F0 H0 F H ([(p7, cLst K st)] ++ []) ∧ st.length ≤ i + 1) hP M.s (it_zipS (K := K) (tv_flat (tv_gt (tv_var rfl (Flat.of _)) (by /- 7 some -/ first | assumption | exact some_of (by assumption)))) (TvL.tv (tl_slice (tv_var rfl (up gr7.ex h_2)) (to_some (K := K) tv_int) to_none))) stb_t ⟨_, _, rfl, M, (by /- 15 inv0 -/ first | (first | omega | ((try simp only [hwords, hshape, hfound, List.length_append, List.length_cons, List.length_nil, lc_true_len, rng_len]); omega) | rfl | (subst_vars; first | omega | (simp; done) | (simp; omega))) | ((try simp only [decide_eq_true_eq, decide_eq_false_iff_not, Bool.not_eq_true', Bool.not_eq_false', Bool.and_eq_true, Bool.and_eq_false_iff, Bool.or_eq_true, Bool.or_eq_false_iff] at hc1); (try simp only [decide_eq_true_eq, decide_eq_false_iff_not, Bool.not_eq_true', Bool.not_eq_false', Bool.and_eq_true, Bool.and_eq_false_iff, Bool.or_eq_true, Bool.or_eq_false_iff] at hc6); (first | omega | ((try simp only [hwords, hshape, hfound, List.length_append, List.length_cons, List.length_nil, lc_true_len, rng_len]); omega) | rfl | (subst_vars; first | omega | (simp; done) | (simp; omega)))))⟩ (fun i F1 H1 σ1 st h => (by obtain ⟨_, _, _, Mq, _⟩ := h; exact ⟨Mq.s, trivial⟩)) ?_ ?_
        · rintro i8 ⟨sign, word⟩ found Fa8 Ha8 Fl8 Hl8 σ8 vt8 Nl8 Bl8 Pl8 hx8 hr8 fa8 ⟨wj8_4, wj8_5, rfl, M, hx_8⟩ gl8 hv8 hP hN8 hB8 hR8
          have M := M.gr gl8
          try dsimp only at hx_8
          have hil8 := (List.getElem?_eq_some_iff.mp hx8).1
          replace hP := p_ltP Pl8 hP
          refine g_tupP M.s hv8 fun w8_0 w8_1 hw8_0 hw8_1 => ?_
          obtain rfl := Flat.is hw8_0
          obtain rfl := Flat.is hw8_1
          refine nf_ (σ' := [some (Flat.val (vS row)), some v2, some (Flat.val shape), some (.ref p7), some (Flat.val sign), some (Flat.val word)]) rfl ?_
          refine q_if (P := Pl8) hP (tt_test (K := K) (tv_op (tv_var rfl (Flat.of _)) tv_str op2_eqS)) ?_ ?_
          · intro hc9 H9 e9 hP
            have M := M.grow e9
            refine nf_ (σ' := [some (Flat.val (vS row)), some v2, some (Flat.val shape), some (.ref p7), some (Flat.val sign), some (Flat.val word)]) rfl ?_
            refine q_app (K := K) (P := Pl8) hP M.s (M.mL pm0) rfl (tv_dvS (tv_flat (tv_var rfl (Flat.of _)))) (by /- 8 app -/ have := zipc_len (xs := Rf.signs (gt shape)) (words := words); omega) (fun found F10 H10 hfound md10 mm10 hP => ?_)
            have M : Sg Z0 F0 H0 F10 H10 ([(p7, cLst K found)] ++ []) := M.setL pm0 md10 mm10 pm0
            first | refine q_endS ?_ | refine q_endC ?_ | refine q_end ?_
            first | refine q_endS ?_ | refine q_endC ?_ | refine q_end ?_
            exact hN8 _ hP _ _ _ md10.ex ⟨_, _, rfl, M, (by /- 9 inv -/ first | (first | omega | ((try simp only [hwords, hshape, hfound, List.length_append, List.length_cons, List.length_nil, lc_true_len, rng_len]); omega) | rfl | (subst_vars; first | omega | (simp; done) | (simp; omega))) | ((try simp only [decide_eq_true_eq, decide_eq_false_iff_not, Bool.not_eq_true', Bool.not_eq_false', Bool.and_eq_true, Bool.and_eq_false_iff, Bool.or_eq_true, Bool.or_eq_false_iff] at hc1); (try simp only [decide_eq_true_eq, decide_eq_false_iff_not, Bool.not_eq_true', Bool.not_eq_false', Bool.and_eq_true, Bool.and_eq_false_iff, Bool.or_eq_true, Bool.or_eq_false_iff] at hc6); (try simp only [decide_eq_true_eq, decide_eq_false_iff_not, Bool.not_eq_true', Bool.not_eq_false', Bool.and_eq_true, Bool.and_eq_false_iff, Bool.or_eq_true, Bool.or_eq_false_iff] at hc9); (first | omega | ((try simp only [hwords, hshape, hfound, List.length_append, List.length_cons, List.length_nil, lc_true_len, rng_len]); omega) | rfl | (subst_vars; first | omega | (simp; done) | (simp; omega)))))⟩
          · intro hc9 H9 e9 hP
            have M := M.grow e9
            refine nf_ (σ' := [some (Flat.val (vS row)), some v2, some (Flat.val shape), some (.ref p7), some (Flat.val sign), some (Flat.val word)]) rfl ?_
            refine q_if (P := Pl8) hP (tt_B (K := K) (tv_callV (ta_cons (tv_var rfl (Flat.of _)) ta_nil) (sv_is_number (by /- 10 pre:is_number -/ have := zipc_mem hwords hx8; exact Nat.le_trans this hpre)) (fun _ => trivial))) ?_ ?_
            · intro hc11 H11 e11 hP
              have M := M.grow e11
              refine nf_ (σ' := [some (Flat.val (vS row)), some v2, some (Flat.val shape), some (.ref p7), some (Flat.val sign), some (Flat.val word)]) rfl ?_
              refine q_app (K := K) (P := Pl8) hP M.s (M.mL pm0) rfl (tv_dvI (tv_flat (tv_cb (ta_cons (tv_var rfl (Flat.of _)) ta_nil) (cb_intS (by /- 11 intt -/ exact num_int (by simpa using hc11)) (by /- 12 strlen1 -/ have := (due_eq0 _ (by simpa using hc11)).1; omega))))) (by /- 13 app -/ have := zipc_len (xs := Rf.signs (gt shape)) (words := words); omega) (fun found F12 H12 hfound md12 mm12 hP => ?_)
              have M : Sg Z0 F0 H0 F12 H12 ([(p7, cLst K found)] ++ []) := M.setL pm0 md12 mm12 pm0
              first | refine q_endS ?_ | refine q_endC ?_ | refine q_end ?_
              first | refine q_endS ?_ | refine q_endC ?_ | refine q_end ?_
              first | refine q_endS ?_ | refine q_endC ?_ | refine q_end ?_
              exact hN8 _ hP _ _ _ md12.ex ⟨_, _, rfl, M, (by /- 14 inv -/ first | (first | omega | ((try simp only [hwords, hshape, hfound, List.length_append, List.length_cons, List.length_nil, lc_true_len, rng_len]); omega) | rfl | (subst_vars; first | omega | (simp; done) | (simp; omega))) | ((try simp only [decide_eq_true_eq, decide_eq_false_iff_not, Bool.not_eq_true', Bool.not_eq_false', Bool.and_eq_true, Bool.and_eq_false_iff, Bool.or_eq_true, Bool.or_eq_false_iff] at hc1); (try simp only [decide_eq_true_eq, decide_eq_false_iff_not, Bool.not_eq_true', Bool.not_eq_false', Bool.and_eq_true, Bool.and_eq_false_iff, Bool.or_eq_true, Bool.or_eq_false_iff] at hc6); (try simp only [decide_eq_true_eq, decide_eq_false_iff_not, Bool.not_eq_true', Bool.not_eq_false', Bool.and_eq_true, Bool.and_eq_false_iff, Bool.or_eq_true, Bool.or_eq_false_iff] at hc9); (try simp only [decide_eq_true_eq, decide_eq_false_iff_not, Bool.not_eq_true', Bool.not_eq_false', Bool.and_eq_true, Bool.and_eq_false_iff, Bool.or_eq_true, Bool.or_eq_false_iff] at hc11); (first | omega | ((try simp only [hwords, hshape, hfound, List.length_append, List.length_cons, List.length_nil, lc_true_len, rng_len]); omega) | rfl | (subst_vars; first | omega | (simp; done) | (simp; omega)))))⟩
            · intro hc11 H11 e11 hP
              have M := M.grow e11
              refine nf_ (σ' := [some (Flat.val (vS row)), some v2, some (Flat.val shape), some (.ref p7), some (Flat.val sign), some (Flat.val word)]) rfl ?_
              replace hP := hR8 _ hP
              exact x_raiseX (K := K) (W := (fun cls d _ H => E cls d H)) (c := "NoRow") (fs := ["row"]) (xs := [(Dv.str (vS row))]) M.s (ta_rcons (tv_dvS (tv_flat (tv_var rfl (Flat.of _)))) ta_rnil) rfl (by simp) (by show 1 ≤ 1000; decide) (fun F2 H2 cls d g2 x => (enx_er hP) F2 H2 cls d (M.g.then g2).gr x)
        · rintro i13 Fa13 Ha13 Fe13 He13 σ13 found hi13 hrun13 fa13 ⟨wj13_4, wj13_5, rfl, M, hx_13⟩ gl13 hP
          have M := M.gr gl13
          try dsimp only at hx_13
          try simp only [rng_len] at hx_13
          refine nf_ (σ' := [some (Flat.val (vS row)), some v2, some (Flat.val shape), some (.ref p7), wj13_4, wj13_5]) rfl ?_
          replace hP := enx_ok hP
          exact x_retQ (tq_var rfl) (hP Fe13 He13 _ ⟨M.g.gr, p7, rfl, (M.nw pm0), (M.mL pm0)⟩)
def m__law_cell (script : Scr) (k : Int) : Int := (cond (decide (k < (script.l.length : Int))) (ixI script.l k) (0 : Int))
abbrev s__law_cell : Stmt := top 9
def sp__law_cell (K : Fg) : Sp := fun vs H Q E => ∃ (F : Hp) (script : Scr) (k : Int) (w0 : V) (w1 : V), vs = [w0, w1] ∧ Same F H ∧ rp K F script w0 ∧ rp K F k w1 ∧ (0 ≤ k) ∧ En (rV K) F H Q (m__law_cell script k)
theorem sv__law_cell {K : Fg} {script : Scr} {k : Int} (hpre : 0 ≤ k) : SpR (sp__law_cell K) (fun (F : Hp) (vs : List V) => ∃ v r, vs = v :: r ∧ rp K F script v ∧ (fun (F : Hp) (vs : List V) => ∃ v r, vs = v :: r ∧ rp K F k v ∧ (fun (_ : Hp) (vs : List V) => vs = []) F r) F r) CT (rV K (m__law_cell script k)) := by
  intro F H vs Q E s h _ hQ
  obtain ⟨v0, r0, e0, h0, h⟩ := h
  obtain ⟨v1, r1, e1, h1, h⟩ := h
  subst h
  subst e1
  subst e0
  exact ⟨F, script, k, v0, v1, rfl, s, h0, h1, hpre, hQ⟩
theorem sc__law_cell : FnScope ["script", "k"] ["script", "k"] (defScope s__law_cell) := ⟨rfl, rfl, rfl, by decide +kernel, rfl, by decide +kernel, by decide +kernel⟩
theorem ok__law_cell {P : Program} {w : World} {K : Fg} {mg : PySem.Str → Option Value} {base : Heap} (B : Bs K mg) {f : Addr} {fd : FuncData} (F : FnP K "_law_cell" s__law_cell f fd) : FnOk P w K mg base CX0 1 f fd ["script", "k"] (sp__law_cell K) := by
  have nd : (["script", "k"] : List PySem.Str).Nodup := sc__law_cell.nd
  refine F.ok sc__law_cell (fun vs H Q E h => ?_) (fun cdv A outer s H0 vs Q E hr h => ?_)
  · obtain ⟨F0, script, k, vp_0, w1, rfl, s, hp_0, hw1, hpre, hP⟩ := h
    rfl
  · obtain ⟨F0, script, k, vp_0, w1, rfl, s, hp_0, hw1, hpre, hP⟩ := h
    obtain rfl := Flat.is hw1
    have M : Sg Z0 F0 H0 F0 H0 ([] : List Cell) := ⟨GrZ.refl s, (fun _ h => by cases h), Cl.nil s⟩
    refine ⟨_, PSs.nox (by exact (pss_cons (ps_if (pt_cmpR op_lt (pv 1) (pe_callB (len_seqK K) (by rfl) B.b_len (by decide +kernel) (pa_cons (pv 0) pa_nil)) (nomark _)) (pss_cons (ps_ret (pe_ix (ix_listK K) (pv 0) (pv 1) (fun _ _ => rfl))) pss_nil) pss_nil) (pss_cons (ps_ret pe_int) pss_nil))), ?_⟩
    refine nf_ (σ' := [some vp_0, some (Flat.val k)]) rfl ?_
    refine q_if (P := (En (rV K) F0 H0 Q)) hP (tt_test (K := K) (tv_op (tv_var rfl (Flat.of _)) (tv_cb (ta_cons (tv_var rfl (up M.s hp_0)) ta_nil) cb_lenC) op2_lt)) ?_ ?_
    · intro hc1 H1 e1 hP
      have M := M.grow e1
      refine nf_ (σ' := [some vp_0, some (Flat.val k)]) rfl ?_
      exact x_ret (K := K) M.s (tv_flat (tv_op (tv_var rfl (up M.s hp_0)) (tv_var rfl (Flat.of _)) (op2_ixC (by /- 1 ix -/ first | (first | exact ⟨by decide, by decide⟩ | exact ⟨by omega, by omega⟩) | ((try simp only [decide_eq_true_eq, decide_eq_false_iff_not, Bool.not_eq_true', Bool.not_eq_false', Bool.and_eq_true, Bool.and_eq_false_iff, Bool.or_eq_true, Bool.or_eq_false_iff] at hc1); (first | exact ⟨by decide, by decide⟩ | exact ⟨by omega, by omega⟩)))))) (fun F1 H1 v g r => hP F1 H1 v ⟨(M.g.then g).gr, r⟩)
    · intro hc1 H1 e1 hP
      first | refine q_endS ?_ | refine q_endC ?_ | refine q_end ?_
      have M := M.grow e1
      refine nf_ (σ' := [some vp_0, some (Flat.val k)]) rfl ?_
      exact x_ret (K := K) M.s (tv_flat tv_int) (fun F1 H1 v g r => hP F1 H1 v ⟨(M.g.then g).gr, r⟩)
theorem cutS_le0 (z : PySem.Str) (lo hi : Option Int) : (cutS' z lo hi).length ≤ z.length := cutS_length z lo hi
theorem e10 : (("0123456789" : PySem.Str)).length = 10 := by decide +kernel
theorem e00 : (("00" : PySem.Str)).length = 2 := by decide +kernel
theorem eE : (("" : PySem.Str)).length = 0 := by decide +kernel
theorem cutS_leN {z : PySem.Str} {N : Nat} (h : z.length ≤ N) (lo hi : Option Int) : (cutS' z lo hi).length ≤ N := Nat.le_trans (cutS_le0 z lo hi) h
theorem chI1 (z : PySem.Str) (i : Int) : (chI z i).length = 1 := rfl
def m__law_text (script : Scr) : PySem.Str := (lt (" !\"#$&'()*+,-./0123456789:;<=>?@ABCDEFGHIJKLMNOPQRSTUVWXYZ[\\]^_`" : PySem.Str) fun (some' : PySem.Str) => (lt (some' ++ ("abcdefghijklmnopqrstuvwxyz{|}~" : PySem.Str)) fun (some' : PySem.Str) => (lt ("" : PySem.Str) fun (text : PySem.Str) => (lt (List.foldl (fun (text : (PySem.Str)) (k : Int) => (lt (text ++ (chI ("0123456789" : PySem.Str) ((m__law_cell script ((1 : Int) + k)) % (10 : Int)))) fun (text : PySem.Str) => (text))) (text) (rng 0 (((m__law_cell script (0 : Int)) % (11 : Int))).toNat)) (fun (text : PySem.Str) => (lt (m__law_cell script (12 : Int)) fun (way : Int) => (lt (cond (decide ((way % (3 : Int)) = (1 : Int))) (lt ((way / (3 : Int)) % ((text.length : Int) + (1 : Int))) fun (at' : Int) => (lt (((cutS' text none (some at')) ++ (chI some' ((m__law_cell script (13 : Int)) % (94 : Int)))) ++ (cutS' text (some (at' + ((way / (36 : Int)) % (2 : Int)))) none)) fun (text : PySem.Str) => (text))) (text)) (fun (text : PySem.Str) => (lt (cond (decide (((way / (3 : Int)) % (4 : Int)) = (1 : Int))) (lt ((cutS' ("00" : PySem.Str) none (some ((1 : Int) + ((way / (12 : Int)) % (2 : Int))))) ++ text) fun (text : PySem.Str) => (text)) (text)) (fun (text : PySem.Str) => text))))))))))
abbrev s__law_text : Stmt := top 10
def sp__law_text (K : Fg) : Sp := fun vs H Q E => ∃ (F : Hp) (script : Scr) (w0 : V), vs = [w0] ∧ Same F H ∧ rp K F script w0 ∧ En (rV K) F H Q (m__law_text script)
theorem sv__law_text {K : Fg} {script : Scr} : SpR (sp__law_text K) (fun (F : Hp) (vs : List V) => ∃ v r, vs = v :: r ∧ rp K F script v ∧ (fun (_ : Hp) (vs : List V) => vs = []) F r) CT (rV K (m__law_text script)) := by
  intro F H vs Q E s h _ hQ
  obtain ⟨v0, r0, e0, h0, h⟩ := h
  subst h
  subst e0
  exact ⟨F, script, v0, rfl, s, h0, hQ⟩
theorem sc__law_text : FnScope ["script", "some", "text", "k", "way", "at"] ["script"] (defScope s__law_text) := ⟨rfl, rfl, rfl, by decide +kernel, rfl, by decide +kernel, by decide +kernel⟩
theorem ok__law_text {P : Program} {w : World} {K : Fg} {mg : PySem.Str → Option Value} {base : Heap} (B : Bs K mg) (D__law_cell : Dn P w K mg base CX0 "_law_cell" 1 ["script", "k"] (sp__law_cell K)) {f : Addr} {fd : FuncData} (F : FnP K "_law_text" s__law_text f fd) : FnOk P w K mg base CX0 2 f fd ["script"] (sp__law_text K) := by
  obtain ⟨f__law_cell, d__law_cell, G__law_cell, g__law_cell, k__law_cell, b__law_cell⟩ := D__law_cell
  have nd : (["script", "some", "text", "k", "way", "at"] : List PySem.Str).Nodup := sc__law_text.nd
  refine F.ok sc__law_text (fun vs H Q E h => ?_) (fun cdv A outer s H0 vs Q E hr h => ?_)
  · obtain ⟨F0, script, vp_0, rfl, s, hp_0, hP⟩ := h
    rfl
  · obtain ⟨F0, script, vp_0, rfl, s, hp_0, hP⟩ := h
    have M : Sg Z0 F0 H0 F0 H0 ([] : List Cell) := ⟨GrZ.refl s, (fun _ h => by cases h), Cl.nil s⟩
    refine ⟨_, PSs.nox (by exact (pss_cons (ps_set (i := 1) nd rfl (Or.inl rfl) pe_str) (pss_cons (ps_set (i := 1) nd rfl (Or.inl rfl) (pe_op op_add_str (pv 1) pe_str)) (pss_cons (ps_set (i := 2) nd rfl (Or.inl rfl) pe_str) (pss_cons (ps_for PassesOwn.never rfl (pi_range1 rfl B.b_range (pa_cons (pe_op op_mod (pe_call G__law_cell (hr.mono (by omega)) rfl g__law_cell k__law_cell b__law_cell .nil pass0 (pa_cons (pv 0) (pa_cons pe_int pa_nil))) pe_int) pa_nil)) (pg_name (i := 3) nd rfl (Or.inl rfl)) (pss_cons (ps_set (i := 2) nd rfl (Or.inl rfl) (pe_op op_add_str (pv 2) (pe_ix ix_str pe_str (pe_op op_mod (pe_call G__law_cell (hr.mono (by omega)) rfl g__law_cell k__law_cell b__law_cell .nil pass0 (pa_cons (pv 0) (pa_cons (pe_op op_add pe_int (pv 3)) pa_nil))) pe_int) (fun _ _ => rfl)))) pss_nil)) (pss_cons (ps_set (i := 4) nd rfl (Or.inl rfl) (pe_call G__law_cell (hr.mono (by omega)) rfl g__law_cell k__law_cell b__law_cell .nil pass0 (pa_cons (pv 0) (pa_cons pe_int pa_nil)))) (Evl.pss_cut (ps_if (pt_cmpR op_eq (pe_op op_mod (pv 4) pe_int) pe_int (nomark _)) (pss_cons (ps_set (i := 5) nd rfl (Or.inl rfl) (pe_op op_mod (pe_op op_fdiv (pv 4) pe_int) (pe_op op_add (pe_callB call_len_str (by rfl) B.b_len (by decide +kernel) (pa_cons (pv 2) pa_nil)) pe_int))) (pss_cons (ps_set (i := 2) nd rfl (Or.inl rfl) (pe_op op_add_str (pe_op op_add_str (pe_slice sl_str (pv 2) po_none (po_some (pv 5))) (pe_ix ix_str (pv 1) (pe_op op_mod (pe_call G__law_cell (hr.mono (by omega)) rfl g__law_cell k__law_cell b__law_cell .nil pass0 (pa_cons (pv 0) (pa_cons pe_int pa_nil))) pe_int) (fun _ _ => rfl))) (pe_slice sl_str (pv 2) (po_some (pe_op op_add (pv 5) (pe_op op_mod (pe_op op_fdiv (pv 4) pe_int) pe_int))) po_none))) pss_nil)) pss_nil) (Evl.pss_cut (ps_if (pt_cmpR op_eq (pe_op op_mod (pe_op op_fdiv (pv 4) pe_int) pe_int) pe_int (nomark _)) (pss_cons (ps_set (i := 2) nd rfl (Or.inl rfl) (pe_op op_add_str (pe_slice sl_str pe_str po_none (po_some (pe_op op_add pe_int (pe_op op_mod (pe_op op_fdiv (pv 4) pe_int) pe_int)))) (pv 2))) pss_nil) pss_nil) (pss_cons (ps_ret (pv 2)) pss_nil))))))))), ?_⟩
    refine nf_ (σ' := [some vp_0, none, none, none, none, none]) rfl ?_
    refine p_let (P := (En (rV K) F0 H0 Q)) hP (fun some' hsomep hP => ?_)
    refine x_setF (K := K) tv_str hsomep (fun H1 e1 => ?_)
    have M := M.grow e1
    first | (have hsl : some'.length = 64 := by (rw [hsomep]; decide +kernel)) | (have hsl : some'.length = 94 := by (rw [hsomep, app_len]; have e30 : (("abcdefghijklmnopqrstuvwxyz{|}~" : PySem.Str)).length = 30 := (by decide +kernel); omega))
    refine nf_ (σ' := [some vp_0, some (Flat.val some'), none, none, none, none]) rfl ?_
    refine p_let (P := (En (rV K) F0 H0 Q)) hP (fun some' hsomep hP => ?_)
    refine x_setF (K := K) (tv_op (tv_var rfl (Flat.of _)) tv_str (op2_cats (by /- 1 strlen -/ (have : (("abcdefghijklmnopqrstuvwxyz{|}~" : PySem.Str)).length = 30 := by decide +kernel); ((try simp only [app_len, List.map_cons, List.map_nil, List.sum_cons, List.sum_nil, List.length_cons, List.length_nil]); omega)))) hsomep (fun H2 e2 => ?_)
    have M := M.grow e2
    first | (have hsl : some'.length = 64 := by (rw [hsomep]; decide +kernel)) | (have hsl : some'.length = 94 := by (rw [hsomep, app_len]; have e30 : (("abcdefghijklmnopqrstuvwxyz{|}~" : PySem.Str)).length = 30 := (by decide +kernel); omega))
    refine nf_ (σ' := [some vp_0, some (Flat.val some'), none, none, none, none]) rfl ?_
    refine p_let (P := (En (rV K) F0 H0 Q)) hP (fun text htext hP => ?_)
    refine x_setF (K := K) tv_str htext (fun H3 e3 => ?_)
    have M := M.grow e3
    refine nf_ (σ' := [some vp_0, some (Flat.val some'), some (Flat.val text), none, none, none]) rfl ?_
    refine q_fold (K := K) (P := (En (rV K) F0 H0 Q)) (fun (i : Nat) F H σ st => ∃ (ew_k : Option V), σ = [some vp_0, some (Flat.val some'), some (Flat.val st), ew_k, none, none] ∧ Sg Z0 F0 H0 F H ([] : List Cell) ∧ st.length ≤ i) hP M.s (it_range1 (K := K) (tv_op (tv_callV (ta_cons (tv_var rfl (up M.s hp_0)) (ta_cons tv_int ta_nil)) (sv__law_cell (by /- 2 pre:_law_cell -/ first | decide | assumption | omega | ((try simp only [vS, vI]); omega))) (fun _ => trivial)) tv_int (op2_mod (by /- 3 pos -/ first | decide | omega))) (by /- 4 rlo -/ omega) (by /- 5 rhi -/ omega)) stb_t ⟨_, rfl, M, (by /- 12 inv0 -/ rw [htext, eE]; omega)⟩ (fun i F1 H1 σ1 st h => (by obtain ⟨_, _, Mq, _⟩ := h; exact ⟨Mq.s, trivial⟩)) ?_ ?_
    · rintro i4 k text Fa4 Ha4 Fl4 Hl4 σ4 vt4 Nl4 Pl4 hx4 hr4 fa4 ⟨wj4_3, rfl, M, hx_4⟩ gl4 hv4 hP hN4
      have M := M.gr gl4
      try dsimp only at hx_4
      have hil4 := (List.getElem?_eq_some_iff.mp hx4).1
      simp only [rng_len] at hil4
      obtain rfl := Flat.is hv4
      refine g_name ?_
      refine nf_ (σ' := [some vp_0, some (Flat.val some'), some (Flat.val text), some (Flat.val k), none, none]) rfl ?_
      refine p_let (P := Pl4) hP (fun text htext hP => ?_)
      refine x_setF (K := K) (tv_op (tv_var rfl (Flat.of _)) (tv_op tv_str (tv_op (tv_callV (ta_cons (tv_var rfl (up M.s (up (Same.trans fa4 gl4.ex) hp_0))) (ta_cons (tv_op tv_int (tv_var rfl (Flat.of _)) op2_add) ta_nil)) (sv__law_cell (by /- 6 pre:_law_cell -/ first | (first | decide | assumption | omega | ((try simp only [vS, vI]); omega)) | (have hr_hx4 := rng_at hx4; (first | decide | assumption | omega | ((try simp only [vS, vI]); omega))))) (fun _ => trivial)) tv_int (op2_mod (by /- 7 pos -/ first | (first | decide | omega) | (have hr_hx4 := rng_at hx4; (first | decide | omega))))) (op2_ixS (by /- 8 strlen1 -/ first | (first | decide +kernel | omega) | (have hr_hx4 := rng_at hx4; (first | decide +kernel | omega))) (by /- 9 ixs -/ rw [e10]; exact ⟨by omega, by omega⟩))) (op2_cats (by /- 10 strlen -/ first | ((have : (("0123456789" : PySem.Str)).length = 10 := by decide +kernel); (have : (chI ("0123456789" : PySem.Str) ((m__law_cell script ((1 : Int) + k)) % (10 : Int))).length = 1 := rfl); ((try simp only [app_len, List.map_cons, List.map_nil, List.sum_cons, List.sum_nil, List.length_cons, List.length_nil]); omega)) | (have hr_hx4 := rng_at hx4; ((have : (("0123456789" : PySem.Str)).length = 10 := by decide +kernel); (have : (chI ("0123456789" : PySem.Str) ((m__law_cell script ((1 : Int) + k)) % (10 : Int))).length = 1 := rfl); ((try simp only [app_len, List.map_cons, List.map_nil, List.sum_cons, List.sum_nil, List.length_cons, List.length_nil]); omega)))))) htext (fun H5 e5 => ?_)
      have M := M.grow e5
      first | refine q_endS ?_ | refine q_endC ?_ | refine q_end ?_
      exact hN4 _ hP _ _ _ (Same.refl _) ⟨_, rfl, M, (by /- 11 inv -/ rw [htext, app_len, chI1]; omega)⟩
    · rintro Fa6 Ha6 Fe6 He6 σ6 text hst6 fa6 ⟨wj6_3, rfl, M, hx_6⟩ gl6 hP
      have M := M.gr gl6
      try dsimp only at hx_6
      try simp only [rng_len] at hx_6
      refine nf_ (σ' := [some vp_0, some (Flat.val some'), some (Flat.val text), wj6_3, none, none]) rfl ?_
      refine p_let (P := (En (rV K) F0 H0 Q)) hP (fun way hway hP => ?_)
      refine x_setF (K := K) (tv_callV (ta_cons (tv_var rfl (up M.s (up (Same.trans fa6 gl6.ex) hp_0))) (ta_cons tv_int ta_nil)) (sv__law_cell (by /- 13 pre:_law_cell -/ first | decide | assumption | omega | ((try simp only [vS, vI]); omega))) (fun _ => trivial)) hway (fun H7 e7 => ?_)
      have M := M.grow e7
      refine nf_ (σ' := [some vp_0, some (Flat.val some'), some (Flat.val text), wj6_3, some (Flat.val way), none]) rfl ?_
      refine q_ifJ (F := Fe6) (P := (En (rV K) F0 H0 Q)) hP (tt_test (K := K) (tv_op (tv_op (tv_var rfl (Flat.of _)) tv_int (op2_mod (by /- 14 pos -/ first | decide | omega))) tv_int op2_eqI)) (fun F H σ st => ∃ (ew_at : Option V), σ = [some vp_0, some (Flat.val some'), some (Flat.val st), wj6_3, some (Flat.val way), ew_at] ∧ Sg Z0 F0 H0 F H ([] : List Cell) ∧ st.length ≤ 40) ?_ ?_ ?_
      · intro hc8 Hc8 Nj8 ec8 Pj8 hP hN8
        have M := M.grow ec8
        refine nf_ (σ' := [some vp_0, some (Flat.val some'), some (Flat.val text), wj6_3, some (Flat.val way), none]) rfl ?_
        refine p_let (P := Pj8) hP (fun at' hatp hP => ?_)
        refine x_setF (K := K) (tv_op (tv_op (tv_var rfl (Flat.of _)) tv_int (op2_div (by /- 15 CDiv -/ first | (first | exact ⟨by decide, by decide⟩ | exact ⟨by omega, by omega⟩) | ((try simp only [decide_eq_true_eq, decide_eq_false_iff_not, Bool.not_eq_true', Bool.not_eq_false', Bool.and_eq_true, Bool.and_eq_false_iff, Bool.or_eq_true, Bool.or_eq_false_iff] at hc8); (first | exact ⟨by decide, by decide⟩ | exact ⟨by omega, by omega⟩))))) (tv_op (tv_cb (ta_cons (tv_var rfl (Flat.of _)) ta_nil) (cb_lenS (by /- 16 strlen1 -/ first | (first | decide +kernel | omega) | ((try simp only [decide_eq_true_eq, decide_eq_false_iff_not, Bool.not_eq_true', Bool.not_eq_false', Bool.and_eq_true, Bool.and_eq_false_iff, Bool.or_eq_true, Bool.or_eq_false_iff] at hc8); (first | decide +kernel | omega))))) tv_int op2_add) (op2_mod (by /- 17 pos -/ first | (first | decide | omega) | ((try simp only [decide_eq_true_eq, decide_eq_false_iff_not, Bool.not_eq_true', Bool.not_eq_false', Bool.and_eq_true, Bool.and_eq_false_iff, Bool.or_eq_true, Bool.or_eq_false_iff] at hc8); (first | decide | omega))))) hatp (fun H9 e9 => ?_)
        have M := M.grow e9
        have htl : text.length ≤ 11 := by omega
        refine nf_ (σ' := [some vp_0, some (Flat.val some'), some (Flat.val text), wj6_3, some (Flat.val way), some (Flat.val at')]) rfl ?_
        refine p_let (P := Pj8) hP (fun text htext hP => ?_)
        refine x_setF (K := K) (tv_op (tv_op (tv_sliceS (tv_var rfl (Flat.of _)) to_none (to_some (K := K) (tv_var rfl (Flat.of _))) (by /- 18 strlen1 -/ first | (first | decide +kernel | omega) | ((try simp only [decide_eq_true_eq, decide_eq_false_iff_not, Bool.not_eq_true', Bool.not_eq_false', Bool.and_eq_true, Bool.and_eq_false_iff, Bool.or_eq_true, Bool.or_eq_false_iff] at hc8); (first | decide +kernel | omega)))) (tv_op (tv_var rfl (Flat.of _)) (tv_op (tv_callV (ta_cons (tv_var rfl (up M.s (up (Same.trans fa6 gl6.ex) hp_0))) (ta_cons tv_int ta_nil)) (sv__law_cell (by /- 19 pre:_law_cell -/ first | (first | decide | assumption | omega | ((try simp only [vS, vI]); omega)) | ((try simp only [decide_eq_true_eq, decide_eq_false_iff_not, Bool.not_eq_true', Bool.not_eq_false', Bool.and_eq_true, Bool.and_eq_false_iff, Bool.or_eq_true, Bool.or_eq_false_iff] at hc8); (first | decide | assumption | omega | ((try simp only [vS, vI]); omega))))) (fun _ => trivial)) tv_int (op2_mod (by /- 20 pos -/ first | (first | decide | omega) | ((try simp only [decide_eq_true_eq, decide_eq_false_iff_not, Bool.not_eq_true', Bool.not_eq_false', Bool.and_eq_true, Bool.and_eq_false_iff, Bool.or_eq_true, Bool.or_eq_false_iff] at hc8); (first | decide | omega))))) (op2_ixS (by /- 21 strlen1 -/ first | (first | decide +kernel | omega) | ((try simp only [decide_eq_true_eq, decide_eq_false_iff_not, Bool.not_eq_true', Bool.not_eq_false', Bool.and_eq_true, Bool.and_eq_false_iff, Bool.or_eq_true, Bool.or_eq_false_iff] at hc8); (first | decide +kernel | omega))) (by /- 22 ixs -/ first | (exact ⟨by omega, by omega⟩) | ((try simp only [decide_eq_true_eq, decide_eq_false_iff_not, Bool.not_eq_true', Bool.not_eq_false', Bool.and_eq_true, Bool.and_eq_false_iff, Bool.or_eq_true, Bool.or_eq_false_iff] at hc8); (exact ⟨by omega, by omega⟩))))) (op2_cats (by /- 23 strlen -/ (try simp only [htext]); (have q1 := cutS_leN htl none (some at')); (have q2 := cutS_leN htl (some (at' + way / 36 % 2)) none); (try simp only [app_len, chI1]); omega))) (tv_sliceS (tv_var rfl (Flat.of _)) (to_some (K := K) (tv_op (tv_var rfl (Flat.of _)) (tv_op (tv_op (tv_var rfl (Flat.of _)) tv_int (op2_div (by /- 24 CDiv -/ first | (first | exact ⟨by decide, by decide⟩ | exact ⟨by omega, by omega⟩) | ((try simp only [decide_eq_true_eq, decide_eq_false_iff_not, Bool.not_eq_true', Bool.not_eq_false', Bool.and_eq_true, Bool.and_eq_false_iff, Bool.or_eq_true, Bool.or_eq_false_iff] at hc8); (first | exact ⟨by decide, by decide⟩ | exact ⟨by omega, by omega⟩))))) tv_int (op2_mod (by /- 25 pos -/ first | (first | decide | omega) | ((try simp only [decide_eq_true_eq, decide_eq_false_iff_not, Bool.not_eq_true', Bool.not_eq_false', Bool.and_eq_true, Bool.and_eq_false_iff, Bool.or_eq_true, Bool.or_eq_false_iff] at hc8); (first | decide | omega))))) op2_add)) to_none (by /- 26 strlen1 -/ first | (first | decide +kernel | omega) | ((try simp only [decide_eq_true_eq, decide_eq_false_iff_not, Bool.not_eq_true', Bool.not_eq_false', Bool.and_eq_true, Bool.and_eq_false_iff, Bool.or_eq_true, Bool.or_eq_false_iff] at hc8); (first | decide +kernel | omega)))) (op2_cats (by /- 27 strlen -/ (try simp only [htext]); (have q1 := cutS_leN htl none (some at')); (have q2 := cutS_leN htl (some (at' + way / 36 % 2)) none); (try simp only [app_len, chI1]); omega))) htext (fun H10 e10 => ?_)
        have M := M.grow e10
        first | refine q_endS ?_ | refine q_endC ?_ | refine q_end ?_
        exact hN8 _ hP _ _ _ (Same.refl _) ⟨_, rfl, M, (by /- 28 inv -/ (try simp only [htext]); (have q1 := cutS_leN htl none (some at')); (have q2 := cutS_leN htl (some (at' + way / 36 % 2)) none); (try simp only [app_len, chI1]); omega)⟩
      · intro hc8 Hc8 Nj8 ec8 Pj8 hP hN8
        have M := M.grow ec8
        first | refine q_endS ?_ | refine q_endC ?_ | refine q_end ?_
        exact hN8 _ hP _ _ _ (Same.refl _) ⟨_, rfl, M, (by /- 29 inv -/ first | (first | omega | ((try simp only [hsomep, htext, hway, List.length_append, List.length_cons, List.length_nil, lc_true_len, rng_len]); omega) | rfl | (subst_vars; first | omega | (simp; done) | (simp; omega))) | ((try simp only [decide_eq_true_eq, decide_eq_false_iff_not, Bool.not_eq_true', Bool.not_eq_false', Bool.and_eq_true, Bool.and_eq_false_iff, Bool.or_eq_true, Bool.or_eq_false_iff] at hc8); (first | omega | ((try simp only [hsomep, htext, hway, List.length_append, List.length_cons, List.length_nil, lc_true_len, rng_len]); omega) | rfl | (subst_vars; first | omega | (simp; done) | (simp; omega)))))⟩
      · rintro text Fj8 Hj8 σ8 hst8 fj8 ⟨wj8_5, rfl, M, hx_8⟩ hP
        try dsimp only at hx_8
        refine nf_ (σ' := [some vp_0, some (Flat.val some'), some (Flat.val text), wj6_3, some (Flat.val way), wj8_5]) rfl ?_
        refine q_ifJ (F := Fj8) (P := (En (rV K) F0 H0 Q)) hP (tt_test (K := K) (tv_op (tv_op (tv_op (tv_var rfl (Flat.of _)) tv_int (op2_div (by /- 30 CDiv -/ first | exact ⟨by decide, by decide⟩ | exact ⟨by omega, by omega⟩))) tv_int (op2_mod (by /- 31 pos -/ first | decide | omega))) tv_int op2_eqI)) (fun F H σ st => σ = [some vp_0, some (Flat.val some'), some (Flat.val st), wj6_3, some (Flat.val way), wj8_5] ∧ Sg Z0 F0 H0 F H ([] : List Cell) ∧ st.length ≤ 60) ?_ ?_ ?_
        · intro hc11 Hc11 Nj11 ec11 Pj11 hP hN11
          have M := M.grow ec11
          refine nf_ (σ' := [some vp_0, some (Flat.val some'), some (Flat.val text), wj6_3, some (Flat.val way), wj8_5]) rfl ?_
          refine p_let (P := Pj11) hP (fun text htext hP => ?_)
          refine x_setF (K := K) (tv_op (tv_sliceS tv_str to_none (to_some (K := K) (tv_op tv_int (tv_op (tv_op (tv_var rfl (Flat.of _)) tv_int (op2_div (by /- 32 CDiv -/ first | (first | exact ⟨by decide, by decide⟩ | exact ⟨by omega, by omega⟩) | ((try simp only [decide_eq_true_eq, decide_eq_false_iff_not, Bool.not_eq_true', Bool.not_eq_false', Bool.and_eq_true, Bool.and_eq_false_iff, Bool.or_eq_true, Bool.or_eq_false_iff] at hc11); (first | exact ⟨by decide, by decide⟩ | exact ⟨by omega, by omega⟩))))) tv_int (op2_mod (by /- 33 pos -/ first | (first | decide | omega) | ((try simp only [decide_eq_true_eq, decide_eq_false_iff_not, Bool.not_eq_true', Bool.not_eq_false', Bool.and_eq_true, Bool.and_eq_false_iff, Bool.or_eq_true, Bool.or_eq_false_iff] at hc11); (first | decide | omega))))) op2_add)) (by /- 34 strlen1 -/ first | (first | decide +kernel | omega) | ((try simp only [decide_eq_true_eq, decide_eq_false_iff_not, Bool.not_eq_true', Bool.not_eq_false', Bool.and_eq_true, Bool.and_eq_false_iff, Bool.or_eq_true, Bool.or_eq_false_iff] at hc11); (first | decide +kernel | omega)))) (tv_var rfl (Flat.of _)) (op2_cats (by /- 35 strlen -/ (try simp only [htext]); (try simp only [app_len]); (have q1 : (cutS' (("00" : PySem.Str)) none (some (1 + way / 12 % 2))).length ≤ 2 := cutS_leN (Nat.le_of_eq e00) none _); omega))) htext (fun H12 e12 => ?_)
          have M := M.grow e12
          first | refine q_endS ?_ | refine q_endC ?_ | refine q_end ?_
          exact hN11 _ hP _ _ _ (Same.refl _) ⟨rfl, M, (by /- 36 inv -/ (try simp only [htext]); (try simp only [app_len]); (have q1 : (cutS' (("00" : PySem.Str)) none (some (1 + way / 12 % 2))).length ≤ 2 := cutS_leN (Nat.le_of_eq e00) none _); omega)⟩
        · intro hc11 Hc11 Nj11 ec11 Pj11 hP hN11
          have M := M.grow ec11
          first | refine q_endS ?_ | refine q_endC ?_ | refine q_end ?_
          exact hN11 _ hP _ _ _ (Same.refl _) ⟨rfl, M, (by /- 37 inv -/ first | (first | omega | ((try simp only [hsomep, htext, hway, List.length_append, List.length_cons, List.length_nil, lc_true_len, rng_len]); omega) | rfl | (subst_vars; first | omega | (simp; done) | (simp; omega))) | ((try simp only [decide_eq_true_eq, decide_eq_false_iff_not, Bool.not_eq_true', Bool.not_eq_false', Bool.and_eq_true, Bool.and_eq_false_iff, Bool.or_eq_true, Bool.or_eq_false_iff] at hc11); (first | omega | ((try simp only [hsomep, htext, hway, List.length_append, List.length_cons, List.length_nil, lc_true_len, rng_len]); omega) | rfl | (subst_vars; first | omega | (simp; done) | (simp; omega)))))⟩
        · rintro text Fj11 Hj11 σ11 hst11 fj11 ⟨rfl, M, hx_11⟩ hP
          try dsimp only at hx_11
          refine nf_ (σ' := [some vp_0, some (Flat.val some'), some (Flat.val text), wj6_3, some (Flat.val way), wj8_5]) rfl ?_
          exact x_ret (K := K) M.s (tv_flat (tv_var rfl (Flat.of _))) (fun F1 H1 v g r => hP F1 H1 v ⟨(M.g.then g).gr, r⟩)
def m__law_due (text : PySem.Str) : Bool := (cond ((decide (text = ("" : PySem.Str))) || ((decide ((text.length : Int) > (9 : Int))) || ((decide ((chI text (0 : Int)) = ("0" : PySem.Str))) && (decide ((text.length : Int) > (1 : Int)))))) false (fin (run (R := Bool) (fun (st : Unit) (sign : PySem.Str) => (cond (!inS sign ("0123456789" : PySem.Str)) (Fl.rt false) (Fl.nx ()))) () (Rf.signs text)) (fun r => r) (fun (_ : Unit) => true)))
abbrev s__law_due : Stmt := top 11
def sp__law_due (K : Fg) : Sp := fun vs H Q E => ∃ (F : Hp) (text : PySem.Str) (w0 : V), vs = [w0] ∧ Same F H ∧ rp K F text w0 ∧ (text.length ≤ 3000) ∧ En (rV K) F H Q (m__law_due text)
theorem sv__law_due {K : Fg} {text : PySem.Str} (hpre : text.length ≤ 3000) : SpR (sp__law_due K) (fun (F : Hp) (vs : List V) => ∃ v r, vs = v :: r ∧ rp K F text v ∧ (fun (_ : Hp) (vs : List V) => vs = []) F r) CT (rV K (m__law_due text)) := by
  intro F H vs Q E s h _ hQ
  obtain ⟨v0, r0, e0, h0, h⟩ := h
  subst h
  subst e0
  exact ⟨F, text, v0, rfl, s, h0, hpre, hQ⟩
theorem sc__law_due : FnScope ["text", "sign"] ["text"] (defScope s__law_due) := ⟨rfl, rfl, rfl, by decide +kernel, rfl, by decide +kernel, by decide +kernel⟩
theorem ok__law_due {P : Program} {w : World} {K : Fg} {mg : PySem.Str → Option Value} {base : Heap} (B : Bs K mg) {f : Addr} {fd : FuncData} (F : FnP K "_law_due" s__law_due f fd) : FnOk P w K mg base CX0 1 f fd ["text"] (sp__law_due K) := by
  have nd : (["text", "sign"] : List PySem.Str).Nodup := sc__law_due.nd
  refine F.ok sc__law_due (fun vs H Q E h => ?_) (fun cdv A outer s H0 vs Q E hr h => ?_)
  · obtain ⟨F0, text, w0, rfl, s, hw0, hpre, hP⟩ := h
    rfl
  · obtain ⟨F0, text, w0, rfl, s, hw0, hpre, hP⟩ := h
    obtain rfl := Flat.is hw0
    have M : Sg Z0 F0 H0 F0 H0 ([] : List Cell) := ⟨GrZ.refl s, (fun _ h => by cases h), Cl.nil s⟩
    refine ⟨_, PSs.nox (by exact (pss_cons (ps_if (PW.pt (pw_or (pt_cmpR op_eq (pv 0) pe_str (nomark _)) (pw_or (pt_cmpR op_gt (pe_callB call_len_str (by rfl) B.b_len (by decide +kernel) (pa_cons (pv 0) pa_nil)) pe_int (nomark _)) (pw_or1 (PW.pt (pw_and (pt_cmpR op_eq (pe_ix ix_str (pv 0) pe_int (fun _ _ => rfl)) pe_str (nomark _)) (pw_and1 (pt_cmpR op_gt (pe_callB call_len_str (by rfl) B.b_len (by decide +kernel) (pa_cons (pv 0) pa_nil)) pe_int (nomark _))))))))) (pss_cons (ps_ret pe_bl) pss_nil) pss_nil) (pss_cons (ps_for PassesOwn.never rfl (pi_str (pv 0)) (pg_name (i := 1) nd rfl (Or.inl rfl)) (pss_cons (ps_if (pt_cmpR op_notIn_sign (pv 1) pe_str (by rfl)) (pss_cons (ps_ret pe_bl) pss_nil) pss_nil) pss_nil)) (pss_cons (ps_ret pe_bl) pss_nil)))), ?_⟩
    refine nf_ (σ' := [some (Flat.val text), none]) rfl ?_
    refine q_if (P := (En (rV K) F0 H0 Q)) hP (tt_or (tt_test (K := K) (tv_op (tv_var rfl (Flat.of _)) tv_str op2_eqS)) (fun hq1 => (tt_or (tt_test (K := K) (tv_op (tv_cb (ta_cons (tv_var rfl (Flat.of _)) ta_nil) (cb_lenS (by /- 1 strlen1 -/ first | (first | decide +kernel | omega) | ((try simp only [decide_eq_true_eq, decide_eq_false_iff_not, Bool.not_eq_true', Bool.not_eq_false', Bool.and_eq_true, Bool.and_eq_false_iff, Bool.or_eq_true, Bool.or_eq_false_iff] at hq1); (first | decide +kernel | omega))))) tv_int op2_gt)) (fun hq2 => (tt_and (tt_test (K := K) (tv_op (tv_op (tv_var rfl (Flat.of _)) tv_int (op2_ixS (by /- 2 strlen1 -/ first | (first | decide +kernel | omega) | ((try simp only [decide_eq_true_eq, decide_eq_false_iff_not, Bool.not_eq_true', Bool.not_eq_false', Bool.and_eq_true, Bool.and_eq_false_iff, Bool.or_eq_true, Bool.or_eq_false_iff] at hq1); (try simp only [decide_eq_true_eq, decide_eq_false_iff_not, Bool.not_eq_true', Bool.not_eq_false', Bool.and_eq_true, Bool.and_eq_false_iff, Bool.or_eq_true, Bool.or_eq_false_iff] at hq2); (first | decide +kernel | omega))) (by /- 3 ixs -/ have := ne_len hq1; exact ⟨by omega, by omega⟩))) tv_str op2_eqS)) (fun hq3 => (tt_test (K := K) (tv_op (tv_cb (ta_cons (tv_var rfl (Flat.of _)) ta_nil) (cb_lenS (by /- 4 strlen1 -/ first | (first | decide +kernel | omega) | ((try simp only [decide_eq_true_eq, decide_eq_false_iff_not, Bool.not_eq_true', Bool.not_eq_false', Bool.and_eq_true, Bool.and_eq_false_iff, Bool.or_eq_true, Bool.or_eq_false_iff] at hq1); (try simp only [decide_eq_true_eq, decide_eq_false_iff_not, Bool.not_eq_true', Bool.not_eq_false', Bool.and_eq_true, Bool.and_eq_false_iff, Bool.or_eq_true, Bool.or_eq_false_iff] at hq2); (try simp only [decide_eq_true_eq, decide_eq_false_iff_not, Bool.not_eq_true', Bool.not_eq_false', Bool.and_eq_true, Bool.and_eq_false_iff, Bool.or_eq_true, Bool.or_eq_false_iff] at hq3); (first | decide +kernel | omega))))) tv_int op2_gt)))))))) ?_ ?_
    · intro hc6 H6 e6 hP
      have M := M.grow e6
      refine nf_ (σ' := [some (Flat.val text), none]) rfl ?_
      exact x_ret (K := K) M.s (tv_flat tv_bl) (fun F1 H1 v g r => hP F1 H1 v ⟨(M.g.then g).gr, r⟩)
    · intro hc6 H6 e6 hP
      first | refine q_endS ?_ | refine q_endC ?_ | refine q_end ?_
      have M := M.grow e6
      have hc6p0 := (Bool.or_eq_false_iff.mp hc6).1
      have hr6p0 := (Bool.or_eq_false_iff.mp hc6).2
      have hc6p1 := (Bool.or_eq_false_iff.mp hr6p0).1
      have hr6p1 := (Bool.or_eq_false_iff.mp hr6p0).2
      have hc6p2 := hr6p1
      refine nf_ (σ' := [some (Flat.val text), none]) rfl ?_
      refine q_for (K := K) (P := (En (rV K) F0 H0 Q)) (fun (i : Nat) F H σ st => ∃ (ew_sign : Option V), σ = [some (Flat.val text), ew_sign] ∧ Sg Z0 F0 H0 F H ([] : List Cell)) hP M.s (it_str (K := K) (tv_var rfl (Flat.of _))) stb_t ⟨_, rfl, M⟩ (fun i F1 H1 σ1 st h => (by obtain ⟨_, _, Mq⟩ := h; exact ⟨Mq.s, trivial⟩)) ?_ ?_
      · rintro i7 sign ⟨⟩ Fa7 Ha7 Fl7 Hl7 σ7 vt7 Nl7 Bl7 Pl7 hx7 hr7 fa7 ⟨wj7_1, rfl, M⟩ gl7 hv7 hP hN7 hB7 hR7
        have M := M.gr gl7
        have hil7 := (List.getElem?_eq_some_iff.mp hx7).1
        obtain rfl := Flat.is hv7
        refine g_name ?_
        refine nf_ (σ' := [some (Flat.val text), some (Flat.val sign)]) rfl ?_
        refine q_if (P := Pl7) hP (tt_test (K := K) (tv_op (tv_var rfl (Flat.of _)) tv_str (op2_niS (by /- 5 sign -/ exact sign1 hx7)))) ?_ ?_
        · intro hc8 H8 e8 hP
          have M := M.grow e8
          refine nf_ (σ' := [some (Flat.val text), some (Flat.val sign)]) rfl ?_
          replace hP := hR7 _ hP
          exact x_ret (K := K) M.s (tv_flat tv_bl) (fun F1 H1 v g r => hP F1 H1 v ⟨(M.g.then g).gr, r⟩)
        · intro hc8 H8 e8 hP
          first | refine q_endS ?_ | refine q_endC ?_ | refine q_end ?_
          have M := M.grow e8
          first | refine q_endS ?_ | refine q_endC ?_ | refine q_end ?_
          exact hN7 _ hP _ _ _ (Same.refl _) ⟨_, rfl, M⟩
      · rintro i9 Fa9 Ha9 Fe9 He9 σ9 ⟨⟩ hi9 hrun9 fa9 ⟨wj9_1, rfl, M⟩ gl9 hP
        have M := M.gr gl9
        refine nf_ (σ' := [some (Flat.val text), wj9_1]) rfl ?_
        exact x_ret (K := K) M.s (tv_flat tv_bl) (fun F1 H1 v g r => hP F1 H1 v ⟨(M.g.then g).gr, r⟩)
def m__law_read (row : PySem.Str) : (Hl ((Option (List Dv)) × (Option Er))) := (lt (none : (Option Er)) fun (caught : (Option Er)) => (lt (none : (Option (List Dv))) fun (found : (Option (List Dv))) => (lt (tryE ((bx (m_read_row (Dv.str row)) fun (y4 : (List Dv)) => (lt (some y4) fun (found : (Option (List Dv))) => (.ok (found)))) : Except Er ((Option (List Dv)))) (found)) (fun (st : ((Option Er) × (Option (List Dv)))) => (lt2 st fun (caught : (Option Er)) (found : (Option (List Dv))) => (Hl.mk ((found, caught) : (Option (List Dv)) × (Option Er))))))))
theorem run_anyX {α R : Type} {b : α → Bool} {r : R} : ∀ {xs : List α}, Rf.run (fun (_ : Unit) x => cond (b x) (Fl.rt r) (Fl.nx ())) () xs = cond (xs.any b) (Fl.rt r) (Fl.nx ())
  | [] => rfl
  | x :: xs => by
    simp only [Rf.run, List.any_cons]
    cases b x
    · simp only [cond_false, Bool.false_or]; exact run_anyX
    · rfl
def nodig (t : PySem.Str) : Bool := (Rf.signs t).any fun s => !inS s ("0123456789" : PySem.Str)
theorem due_eq (t : PySem.Str) : m__law_due t = (!(decide (t = ("" : PySem.Str))) && (decide ((t.length : Int) ≤ 9) && (!(decide ((chI t (0 : Int)) = ("0" : PySem.Str)) && decide ((t.length : Int) > 1)) && !nodig t))) := by
  unfold m__law_due nodig
  rw [run_anyX]
  have e : decide ((t.length : Int) > 9) = !decide ((t.length : Int) ≤ 9) := by rw [Bool.eq_iff_iff]; simp
  rw [e]
  cases decide (t = ("" : PySem.Str)) <;> cases decide ((t.length : Int) ≤ 9) <;> cases decide ((chI t (0 : Int)) = ("0" : PySem.Str)) <;> cases decide ((t.length : Int) > 1) <;> cases (Rf.signs t).any (fun s => !inS s ("0123456789" : PySem.Str)) <;> simp [fin_rt, fin_nx]
theorem num_eq (t : PySem.Str) : m_is_number t = m__law_due t := by
  rw [due_eq]
  unfold m_is_number nodig
  rw [run_anyX]
  have e : decide ((t.length : Int) > 9) = !decide ((t.length : Int) ≤ 9) := by rw [Bool.eq_iff_iff]; simp
  rw [e]
  by_cases h0 : t = ("" : PySem.Str)
  · rw [decide_eq_true h0]; simp
  · have h1 := ne_len (decide_eq_false h0)
    rw [decide_eq_false h0]
    have e2 : decide ((t.length : Int) = 1) = !decide ((t.length : Int) > 1) := by rw [Bool.eq_iff_iff]; simp; omega
    rw [e2]
    cases decide ((t.length : Int) ≤ 9) <;> cases decide ((chI t (0 : Int)) = ("0" : PySem.Str)) <;> cases decide ((t.length : Int) > 1) <;> cases (Rf.signs t).any (fun s => !inS s ("0123456789" : PySem.Str)) <;> simp [fin_rt, fin_nx]
theorem figs : (("0123456789" : PySem.Str)).cps.toList = [48, 49, 50, 51, 52, 53, 54, 55, 56, 57] := by decide +kernel
theorem nodig_iff (t : PySem.Str) : nodig t = false ↔ ∀ c ∈ t.cps.toList, 48 ≤ c ∧ c ≤ 57 := by
  unfold nodig Rf.signs
  rw [List.any_map, List.any_eq_false]
  refine forall_congr' fun c => forall_congr' fun hc => ?_
  show ¬ (!inS ⟨#[c]⟩ _) = true ↔ _
  unfold inS
  rw [figs]
  show ¬ (!decide (c ∈ [48, 49, 50, 51, 52, 53, 54, 55, 56, 57])) = true ↔ _
  simp only [Bool.not_eq_true', decide_eq_false_iff_not, Classical.not_not, List.mem_cons, List.not_mem_nil, or_false]
  omega
theorem due_spec {t : PySem.Str} (h : m__law_due t = true) : 1 ≤ t.length ∧ t.length ≤ 9 ∧ ∀ c ∈ t.cps.toList, 48 ≤ c ∧ c ≤ 57 := by
  rw [due_eq] at h
  simp only [Bool.and_eq_true, Bool.not_eq_true', decide_eq_true_eq] at h
  obtain ⟨h1, h2, h3, h4⟩ := h
  exact ⟨ne_len h1, by omega, (nodig_iff t).mp h4⟩
theorem due_int {t : PySem.Str} (h : m__law_due t = true) : (PySem.intText? t).isSome = true := by
  obtain ⟨h1, h2, h3⟩ := due_spec h
  have e := SX.int_S (a := t.cps.toList) (List.all_eq_true.mpr fun c hc => by simpa using h3 c hc) (fun z => by have : t.cps.toList.length = t.length := Array.length_toList; rw [z] at this; simp at this; omega) (by have : t.cps.toList.length = t.length := Array.length_toList; omega)
  have e2 : SX.S t.cps.toList = t := rfl
  rw [e2] at e
  rw [e]; rfl
theorem shp_read (k : Int) : m_shape_of ("read" : PySem.Str) k = some ("wn" : PySem.Str) := by
  unfold m_shape_of
  rw [show decide (("read" : PySem.Str) ∈ ([("come" : PySem.Str), ("weigh" : PySem.Str)] : List PySem.Str)) = false by decide +kernel,
    show decide (("read" : PySem.Str) ∈ ([("go" : PySem.Str), ("fall" : PySem.Str), ("rise" : PySem.Str), ("share" : PySem.Str), ("firsts" : PySem.Str)] : List PySem.Str)) = false by decide +kernel,
    show decide (("read" : PySem.Str) ∈ ([("homes" : PySem.Str), ("ask" : PySem.Str), ("missed" : PySem.Str), ("bring" : PySem.Str), ("lose" : PySem.Str), ("twice" : PySem.Str)] : List PySem.Str)) = false by decide +kernel,
    show decide (("read" : PySem.Str) ∈ ([("read" : PySem.Str), ("shelf" : PySem.Str), ("known" : PySem.Str)] : List PySem.Str)) = true by decide +kernel]
  rfl
theorem row_cps (t : PySem.Str) : ((("read north " : PySem.Str) ++ t)).cps.toList = [114, 101, 97, 100] ++ 32 :: ([110, 111, 114, 116, 104] ++ 32 :: t.cps.toList) := by
  have e : (("read north " : PySem.Str)).cps.toList = [114, 101, 97, 100, 32, 110, 111, 114, 116, 104, 32] := by decide +kernel
  show (("read north " : PySem.Str).cps ++ t.cps).toList = _
  rw [Array.toList_append, e]; rfl
theorem row_split (t : PySem.Str) : Txt.split (("read north " : PySem.Str) ++ t) (" " : PySem.Str) = ("read" : PySem.Str) :: ("north" : PySem.Str) :: (spl 32 t.cps.toList).map tS := by
  rw [show (" " : PySem.Str) = ⟨#[32]⟩ by decide +kernel, split_is _ (by decide), row_cps, spl_app, spl_app, spl_no (by decide), spl_no (by decide)]
  have e1 : tS [114, 101, 97, 100] = ("read" : PySem.Str) := by decide +kernel
  have e2 : tS [110, 111, 114, 116, 104] = ("north" : PySem.Str) := by decide +kernel
  simp only [List.cons_append, List.nil_append, List.map_cons, e1, e2]
abbrev noRow (row : PySem.Str) : Er := ⟨"NoRow", [("row", Dv.str row)]⟩
theorem read_eq (t : PySem.Str) : m_read_row (Dv.str (("read north " : PySem.Str) ++ t)) = cond (m__law_due t) (.ok [Dv.str "read", Dv.str "north", Dv.int (intT t)]) (.error (noRow (("read north " : PySem.Str) ++ t))) := by
  unfold m_read_row
  simp only [lt_eq]
  rw [show dvIs "str" (Dv.str (("read north " : PySem.Str) ++ t)) = true from rfl, show vS (Dv.str (("read north " : PySem.Str) ++ t)) = ("read north " : PySem.Str) ++ t from rfl, row_split]
  rw [show ∀ r : List PySem.Str, ixI (("read" : PySem.Str) :: r) (0 : Int) = "read" from fun _ => rfl, shp_read, show gt (some ("wn" : PySem.Str)) = "wn" from rfl,
    show ((("wn" : PySem.Str)).length : Int) = 2 by decide +kernel, show (some ("wn" : PySem.Str)).isNone = false from rfl]
  have hl := spl_len 32 t.cps.toList
  by_cases h : 32 ∈ t.cps.toList
  · have hd : m__law_due t = false := by
      cases q : m__law_due t with
      | false => rfl
      | true => have := (due_spec q).2.2 32 h; omega
    have hc : 0 < t.cps.toList.count 32 := List.count_pos_iff.mpr h
    rw [hd, decide_eq_false (by simp only [List.length_cons, List.length_map]; omega)]
    rfl
  · rw [spl_no h]
    rw [decide_eq_true (by simp)]
    have e3 : zipP (Rf.signs ("wn" : PySem.Str)) (cutI (("read" : PySem.Str) :: ("north" : PySem.Str) :: ([t.cps.toList]).map tS) (some (1 : Int)) none) = [⟨("w" : PySem.Str), ("north" : PySem.Str)⟩, ⟨("n" : PySem.Str), t⟩] := by
      have e4 : Rf.signs ("wn" : PySem.Str) = [("w" : PySem.Str), ("n" : PySem.Str)] := by decide +kernel
      rw [e4]; rfl
    rw [e3]
    simp only [Rf.run, ltP_eq, lt_eq, decide_true, cond_true]
    rw [show decide (("n" : PySem.Str) = ("w" : PySem.Str)) = false by decide +kernel, num_eq]
    simp only [cond_true, cond_false, Bool.not_true, Bool.false_or]
    cases m__law_due t <;> simp [fin_rt, fin_nx]
theorem lread_eq (t : PySem.Str) : m__law_read (("read north " : PySem.Str) ++ t) = cond (m__law_due t) (Hl.mk (some [Dv.str "read", Dv.str "north", Dv.int (intT t)], none)) (Hl.mk (none, some (noRow (("read north " : PySem.Str) ++ t)))) := by
  unfold m__law_read
  simp only [lt_eq, lt2_eq]
  rw [read_eq]
  cases m__law_due t
  · simp only [cond_false, bx_er]; rfl
  · simp only [cond_true, bx_ok]; rfl
theorem read_two {text row : PySem.Str} {read : Option (List Dv)} {caught : Option Er} {due : Bool} (hrow : row = ("read north " : PySem.Str) ++ text) (hu : Hl.mk (read, caught) = m__law_read row) (hdue : due = m__law_due text) :
    (due = false → read = none ∧ caught = some (noRow row)) ∧ (due = true → read = some [Dv.str "read", Dv.str "north", Dv.int (intT text)] ∧ caught = none ∧ text.length ≤ 9 ∧ (PySem.intText? text).isSome = true) := by
  subst hrow
  rw [lread_eq] at hu
  constructor
  · intro h
    rw [← hdue, h] at hu
    cases hu
    exact ⟨rfl, rfl⟩
  · intro h
    rw [← hdue, h] at hu
    rw [hdue] at h
    cases hu
    exact ⟨rfl, rfl, (due_spec h).2.1, due_int h⟩
theorem shp_str {z : PySem.Str} (h : PyData.strOk z = true) : SeqAt.shaped (Dv.dat (Dv.str z)) = true := by
  unfold SeqAt.shaped Dv.dat
  simp [PyData.canLay0, PyData.depth, h]
theorem shp_rd (n : Int) : SeqAt.shaped (Dv.dat (Dv.lst [Dv.str "read", Dv.str "north", Dv.int n])) = true := by
  have h1 : PyData.strOk ("read" : PySem.Str) = true := by decide +kernel
  have h2 : PyData.strOk ("north" : PySem.Str) = true := by decide +kernel
  simp [SeqAt.shaped, Dv.dat, Dv.dats, PyData.canLay0, PyData.canLayAll0, PyData.depth, PyData.depthAll, h1, h2]
theorem row_ok {text : PySem.Str} (h : PyData.strOk text = true) : PyData.strOk (("read north " : PySem.Str) ++ text) = true := ok_app (by decide +kernel) h
theorem erF_row (row : PySem.Str) : erF (noRow row) "row" = Dv.str row := by unfold erF; simp [List.lookup]
theorem ok_iff (z : PySem.Str) : PyData.strOk z = true ↔ ∀ c ∈ z.cps.toList, c < 0x110000 := by
  unfold PyData.strOk
  rw [← Array.all_toList, List.all_eq_true]
  exact forall_congr' fun c => forall_congr' fun _ => by simp
theorem ok_chI {z : PySem.Str} (i : Int) (h : PyData.strOk z = true) : PyData.strOk (chI z i) = true := by
  rw [ok_iff] at h ⊢
  intro c hc
  have e : c = ixI z.cps.toList i := by simpa [chI] using hc
  have g : ∀ k : Nat, z.cps.toList.getD k default < 0x110000 := fun k => by
    rw [List.getD_eq_getElem?_getD]
    cases q : z.cps.toList[k]? with
    | none => show (0 : Nat) < _; decide
    | some y => exact h y (List.mem_of_getElem? q)
  rw [e]; unfold ixI
  split
  · exact g _
  · exact g _
theorem ok_cutS {z : PySem.Str} (lo hi : Option Int) (h : PyData.strOk z = true) : PyData.strOk (cutS' z lo hi) = true := by
  rw [ok_iff] at h ⊢
  intro c hc
  unfold cutS' cutS at hc
  exact h c (List.mem_of_mem_drop (List.mem_of_mem_take (by simpa using hc)))
theorem cutS_le (z : PySem.Str) (lo hi : Option Int) : (cutS' z lo hi).length ≤ z.length := cutS_length z lo hi
theorem fold_text {x : Scr} : ∀ (xs : List Int) (t : PySem.Str), PyData.strOk t = true → PyData.strOk (List.foldl (fun (text : (PySem.Str)) (k : Int) => (lt (text ++ (chI ("0123456789" : PySem.Str) ((m__law_cell x ((1 : Int) + k)) % (10 : Int)))) fun (text : PySem.Str) => (text))) t xs) = true ∧ (List.foldl (fun (text : (PySem.Str)) (k : Int) => (lt (text ++ (chI ("0123456789" : PySem.Str) ((m__law_cell x ((1 : Int) + k)) % (10 : Int)))) fun (text : PySem.Str) => (text))) t xs).length = t.length + xs.length
  | [], t, h => ⟨h, rfl⟩
  | k :: r, t, h => by
    rw [List.foldl_cons]
    have ih := fold_text (x := x) r (lt (t ++ (chI ("0123456789" : PySem.Str) ((m__law_cell x ((1 : Int) + k)) % (10 : Int)))) fun (text : PySem.Str) => (text)) (by rw [lt_eq]; exact ok_app h (ok_chI _ (by decide +kernel)))
    refine ⟨ih.1, ih.2.trans ?_⟩
    rw [lt_eq, app_len, show (chI ("0123456789" : PySem.Str) ((m__law_cell x ((1 : Int) + k)) % (10 : Int))).length = 1 from rfl, List.length_cons]
    omega
theorem text_ok (x : Scr) : PyData.strOk (m__law_text x) = true ∧ (m__law_text x).length ≤ 100 := by
  unfold m__law_text
  simp only [lt_eq]
  have f := fold_text (x := x) (rng 0 (((m__law_cell x (0 : Int)) % (11 : Int))).toNat) ("" : PySem.Str) (by decide +kernel)
  simp only [lt_eq] at f
  have hr : (rng 0 (((m__law_cell x (0 : Int)) % (11 : Int))).toNat).length ≤ 11 := by rw [rng_len]; omega
  have he : (("" : PySem.Str)).length = 0 := by decide +kernel
  generalize List.foldl (fun (text : (PySem.Str)) (k : Int) => text ++ (chI ("0123456789" : PySem.Str) ((m__law_cell x ((1 : Int) + k)) % (10 : Int)))) ("" : PySem.Str) (rng 0 (((m__law_cell x (0 : Int)) % (11 : Int))).toNat) = t at f ⊢
  obtain ⟨f1, f2⟩ := f
  have ok2 : PyData.strOk ((" !\"#$&'()*+,-./0123456789:;<=>?@ABCDEFGHIJKLMNOPQRSTUVWXYZ[\\]^_`" : PySem.Str) ++ ("abcdefghijklmnopqrstuvwxyz{|}~" : PySem.Str)) = true := ok_app (by decide +kernel) (by decide +kernel)
  have h00 : (("00" : PySem.Str)).length = 2 := by decide +kernel
  generalize (" !\"#$&'()*+,-./0123456789:;<=>?@ABCDEFGHIJKLMNOPQRSTUVWXYZ[\\]^_`" : PySem.Str) ++ ("abcdefghijklmnopqrstuvwxyz{|}~" : PySem.Str) = some' at ok2 ⊢
  have one : ∀ i, (chI some' i).length = 1 := fun _ => rfl
  have mid : ∀ b : Bool, ∀ a c i, PyData.strOk (cond b (cutS' t none a ++ chI some' i ++ cutS' t c none) t) = true ∧ (cond b (cutS' t none a ++ chI some' i ++ cutS' t c none) t).length ≤ 60 := by
    intro b a c i
    cases b
    · exact ⟨f1, by show t.length ≤ 60; omega⟩
    · refine ⟨ok_app (ok_app (ok_cutS _ _ f1) (ok_chI _ ok2)) (ok_cutS _ _ f1), ?_⟩
      show (cutS' t none a ++ chI some' i ++ cutS' t c none).length ≤ 60
      rw [app_len, app_len, one]
      have := cutS_le t none a; have := cutS_le t c none
      omega
  obtain ⟨m1, m2⟩ := mid (decide (m__law_cell x 12 % 3 = 1)) (some (m__law_cell x 12 / 3 % ((t.length : Int) + 1))) (some (m__law_cell x 12 / 3 % ((t.length : Int) + 1) + m__law_cell x 12 / 36 % 2)) (m__law_cell x 13 % 94)
  generalize cond (decide (m__law_cell x 12 % 3 = 1)) (cutS' t none (some (m__law_cell x 12 / 3 % ((t.length : Int) + 1))) ++ chI some' (m__law_cell x 13 % 94) ++ cutS' t (some (m__law_cell x 12 / 3 % ((t.length : Int) + 1) + m__law_cell x 12 / 36 % 2)) none) t = t2 at m1 m2 ⊢
  cases decide (m__law_cell x 12 / 3 % 4 = 1)
  · exact ⟨m1, by show t2.length ≤ 100; omega⟩
  · refine ⟨ok_app (ok_cutS _ _ (by decide +kernel)) m1, ?_⟩
    show (cutS' ("00" : PySem.Str) none _ ++ t2).length ≤ 100
    rw [app_len]
    have := cutS_le ("00" : PySem.Str) none (some (1 + m__law_cell x 12 / 12 % 2))
    omega
abbrev s__law_read : Stmt := top 12
def sp__law_read (K : Fg) : Sp := fun vs H Q E => ∃ (F : Hp) (row : PySem.Str) (w0 : V), vs = [w0] ∧ Same F H ∧ rp K F row w0 ∧ (row.length ≤ 3000) ∧ En (rV K) F H Q (m__law_read row)
theorem sv__law_read {K : Fg} {row : PySem.Str} (hpre : row.length ≤ 3000) : SpR (sp__law_read K) (fun (F : Hp) (vs : List V) => ∃ v r, vs = v :: r ∧ rp K F row v ∧ (fun (_ : Hp) (vs : List V) => vs = []) F r) CT (rV K (m__law_read row)) := by
  intro F H vs Q E s h _ hQ
  obtain ⟨v0, r0, e0, h0, h⟩ := h
  subst h
  subst e0
  exact ⟨F, row, v0, rfl, s, h0, hpre, hQ⟩
theorem sc__law_read : FnScope ["row", "caught", "found", "e"] ["row"] (defScope s__law_read) := ⟨rfl, rfl, rfl, by decide +kernel, rfl, by decide +kernel, by decide +kernel⟩
theorem ok__law_read {P : Program} {w : World} {K : Fg} {mg : PySem.Str → Option Value} {base : Heap} (B : Bs K mg) (D_read_row : Dn P w K mg base (L2.CX P w) "read_row" 3 ["row"] (sp_read_row K)) {f : Addr} {fd : FuncData} (F : FnP K "_law_read" s__law_read f fd) : FnOk P w K mg base CX0 4 f fd ["row"] (sp__law_read K) := by
  obtain ⟨f_read_row, d_read_row, G_read_row, g_read_row, k_read_row, b_read_row⟩ := D_read_row
  have nd : (["row", "caught", "found", "e"] : List PySem.Str).Nodup := sc__law_read.nd
  refine F.ok sc__law_read (fun vs H Q E h => ?_) (fun cdv A outer s H0 vs Q E hr h => ?_)
  · obtain ⟨F0, row, w0, rfl, s, hw0, hpre, hP⟩ := h
    rfl
  · obtain ⟨F0, row, w0, rfl, s, hw0, hpre, hP⟩ := h
    obtain rfl := Flat.is hw0
    have M : Sg Z0 F0 H0 F0 H0 ([] : List Cell) := ⟨GrZ.refl s, (fun _ h => by cases h), Cl.nil s⟩
    refine ⟨_, PSs.nox (by exact (pss_cons (ps_set (i := 1) nd rfl (Or.inl rfl) pe_non) (pss_cons (ps_set (i := 2) nd rfl (Or.inl rfl) pe_non) (pss_cons (ps_tryK K (i := 3) (j := 1) (c := .ref (He.ga K "RoofError")) (tb := fun W => _) rfl rfl rfl nd rfl rfl ⟨rfl, by decide, Or.inl B.x_RoofError.g⟩ takes0 rfl (fun W pn xe tk3 ps3 => (pss_cons (ps_set (i := 2) nd rfl (Or.inl rfl) (pe_callS G_read_row (hr.mono (by omega)) rfl g_read_row k_read_row b_read_row (fun σ => passAt tk3 σ) (pa_cons (pv 0) pa_nil))) pss_nil)) (fun a oe cls d pn hz hf => pss_one (ps_set (i := 1) nd rfl (Or.inl rfl) (pv 3)))) (pss_cons (ps_ret (pe_lst (pa_cons (pv 2) (pa_cons (pv 1) pa_nil)))) pss_nil))))), ?_⟩
    refine nf_ (σ' := [some (Flat.val row), none, none, none]) rfl ?_
    refine p_let (P := (En (rV K) F0 H0 Q)) hP (fun caught hcaught hP => ?_)
    refine x_set (K := K) M.s tv_noneO hcaught (fun F1 H1 v1 gr1 h_1 => ?_)
    have M := M.gr gr1
    refine nf_ (σ' := [some (Flat.val row), some v1, none, none]) rfl ?_
    refine p_let (P := (En (rV K) F0 H0 Q)) hP (fun found hfound hP => ?_)
    refine x_set (K := K) M.s tv_noneO hfound (fun F2 H2 v2 gr2 h_2 => ?_)
    have M := M.gr gr2
    refine nf_ (σ' := [some (Flat.val row), some v1, some v2, none]) rfl ?_
    refine x_tryC (K := K) (F := F2) (P := (En (rV K) F0 H0 Q)) (i := 3) (j := 1) (rb := ((bx (m_read_row (Dv.str row)) fun (y4 : (List Dv)) => (lt (some y4) fun (found : (Option (List Dv))) => (.ok (found)))) : Except Er ((Option (List Dv))))) (s0 := (found)) (c := .ref (He.ga K "RoofError")) hP (fun F H σ st => ∃ (ev_caught : V) (ev_found : V) (ew_e : Option V), σ = [some (Flat.val row), some ev_caught, some ev_found, ew_e] ∧ Sg Z0 F0 H0 F H ([] : List Cell) ∧ rp K F st.1 ev_caught ∧ rp K F st.2 ev_found) (fun F H σ => σ = [some (Flat.val row), some v1, some v2, none] ∧ Sg Z0 F0 H0 F H ([] : List Cell)) (by /- 4 errs -/ intro e he; rw [lr_err he]; exact B.m_NoRow_RoofError) ?_ ?_ ?_
    · intro Nt3 Wt3 Pt3 hP hN3 hE3
      refine p_bx (P := Pt3) hP (fun y4 hy4 hP => ?_) (fun e4 he4 hP => ?_)
      · refine nf_ (σ' := [some (Flat.val row), some v1, some v2, none]) rfl ?_
        refine p_let (P := Pt3) hP (fun found hfound hP => ?_)
        refine x_set (K := K) M.s (tv_some (TvL.tv (tl_callW (ta_cons (tv_dvS (tv_flat (tv_var rfl (Flat.of _)))) ta_nil) (sv_read_row (by /- 3 pre:read_row -/ first | decide | assumption | omega | ((try simp only [vS, vI]); omega))) (fun _ => trivial) hy4))) hfound (fun F5 H5 v5 gr5 h_5 => ?_)
        have M := M.gr gr5
        first | refine q_endS ?_ | refine q_endC ?_ | refine q_end ?_
        exact hN3 _ hP _ _ _ gr5.ex ⟨v1, v5, _, rfl, M, (rp_eq hcaught (up (Same.trans gr2.ex gr5.ex) h_1)), h_5⟩
      · exact x_setE (K := K) (W := Wt3) M.s (tf_callW (ta_cons (tv_dvS (tv_flat (tv_var rfl (Flat.of _)))) ta_nil) (sv_read_row (by /- 2 pre:read_row -/ first | decide | assumption | omega | ((try simp only [vS, vI]); omega))) (fun _ => trivial) he4) (fun F2 H2 cls d g2 x => hE3 _ hP F2 H2 _ cls d (Same.trans (Same.refl _) g2.ex) x ⟨rfl, M.gr g2⟩)
    · rintro e3 Fx3 Hx3 σx3 cls d he3 fx3 x3 ⟨rfl, M⟩
      exact ⟨(by show 3 < 4; decide), M.s, fun a ha => ⟨(.ref a), v2, _, rfl, M.gr (Gr.lay M.s ha), ⟨a, cls, d, rfl, upd_same, x3.mono (same_new (none_of M.s ha))⟩, up (fx3.trans (same_new (none_of M.s ha))) h_2⟩⟩
    · rintro ⟨caught, found⟩ Ft3 Ht3 σt3 hst3 ft3 ⟨vj3_1, vj3_2, wj3_3, rfl, M, hj3_1, hj3_2⟩ hP
      replace hP := p_lt2 (En (rV K) F0 H0 Q) hP
      refine nf_ (σ' := [some (Flat.val row), some vj3_1, some vj3_2, wj3_3]) rfl ?_
      exact x_ret (K := K) M.s (tv_hl (ta_tc (tv_var rfl hj3_2) (ta_t1 (tv_var rfl hj3_1))) (tlen (n := 2) (by decide))) (fun F1 H1 v g r => hP F1 H1 v ⟨(M.g.then g).gr, r⟩)
def m__law_right (text : PySem.Str) : Bool := (lt (m__law_due text) fun (due : Bool) => (lt (m_is_number text) fun (found : Bool) => (cond ((!true) || (!decide (found = due))) false (lt (("read north " : PySem.Str) ++ text) fun (row : PySem.Str) => (ltH2 (m__law_read row) fun (read : (Option (List Dv))) (caught : (Option Er)) => (cond (!due) ((read).isNone && (true && (true && (PyData.eqv (Dv.dat (erF (gt caught) "row")) (Dv.dat (Dv.str row)))))) (cond ((caught).isSome || ((!true) || (!PyData.eqv (Dv.dat (Dv.lst (gt read))) (Dv.dat (Dv.lst ([(Dv.str ("read" : PySem.Str)), (Dv.str ("north" : PySem.Str)), (Dv.int (intT text))] : List Dv)))))) false ((dvIs "int" (ixI (gt read) (2 : Int))) && (!(dvIs "bool" (ixI (gt read) (2 : Int))))))))))))
abbrev s__law_right : Stmt := top 13
def sp__law_right (K : Fg) : Sp := fun vs H Q E => ∃ (F : Hp) (text : PySem.Str) (w0 : V), vs = [w0] ∧ Same F H ∧ rp K F text w0 ∧ (text.length ≤ 1930 ∧ PyData.strOk text = true) ∧ En (rV K) F H Q (m__law_right text)
theorem sv__law_right {K : Fg} {text : PySem.Str} (hpre : text.length ≤ 1930 ∧ PyData.strOk text = true) : SpR (sp__law_right K) (fun (F : Hp) (vs : List V) => ∃ v r, vs = v :: r ∧ rp K F text v ∧ (fun (_ : Hp) (vs : List V) => vs = []) F r) CT (rV K (m__law_right text)) := by
  intro F H vs Q E s h _ hQ
  obtain ⟨v0, r0, e0, h0, h⟩ := h
  subst h
  subst e0
  exact ⟨F, text, v0, rfl, s, h0, hpre, hQ⟩
theorem sc__law_right : FnScope ["text", "due", "found", "row", "read", "caught"] ["text"] (defScope s__law_right) := ⟨rfl, rfl, rfl, by decide +kernel, rfl, by decide +kernel, by decide +kernel⟩
theorem ok__law_right {P : Program} {w : World} {K : Fg} {mg : PySem.Str → Option Value} {base : Heap} (B : Bs K mg) (D__law_due : Dn P w K mg base CX0 "_law_due" 1 ["text"] (sp__law_due K)) (D_is_number : Dn P w K mg base CX0 "is_number" 1 ["word"] (sp_is_number K)) (D__law_read : Dn P w K mg base CX0 "_law_read" 4 ["row"] (sp__law_read K)) {f : Addr} {fd : FuncData} (F : FnP K "_law_right" s__law_right f fd) : FnOk P w K mg base CX0 5 f fd ["text"] (sp__law_right K) := by
  obtain ⟨f__law_due, d__law_due, G__law_due, g__law_due, k__law_due, b__law_due⟩ := D__law_due
  obtain ⟨f_is_number, d_is_number, G_is_number, g_is_number, k_is_number, b_is_number⟩ := D_is_number
  obtain ⟨f__law_read, d__law_read, G__law_read, g__law_read, k__law_read, b__law_read⟩ := D__law_read
  have nd : (["text", "due", "found", "row", "read", "caught"] : List PySem.Str).Nodup := sc__law_right.nd
  refine F.ok sc__law_right (fun vs H Q E h => ?_) (fun cdv A outer s H0 vs Q E hr h => ?_)
  · obtain ⟨F0, text, w0, rfl, s, hw0, hpre, hP⟩ := h
    rfl
  · obtain ⟨F0, text, w0, rfl, s, hw0, hpre, hP⟩ := h
    obtain rfl := Flat.is hw0
    have hpl := hpre.1
    have hps := hpre.2
    have M : Sg Z0 F0 H0 F0 H0 ([] : List Cell) := ⟨GrZ.refl s, (fun _ h => by cases h), Cl.nil s⟩
    refine ⟨_, PSs.nox (by exact (pss_cons (ps_set (i := 1) nd rfl (Or.inl rfl) (pe_call G__law_due (hr.mono (by omega)) rfl g__law_due k__law_due b__law_due .nil pass0 (pa_cons (pv 0) pa_nil))) (pss_cons (ps_set (i := 2) nd rfl (Or.inl rfl) (pe_call G_is_number (hr.mono (by omega)) rfl g_is_number k_is_number b_is_number .nil pass0 (pa_cons (pv 0) pa_nil))) (pss_cons (ps_if (PW.pt (pw_or (pt_not (pt_val (pe_callB (isiK K) (by rfl) B.b_isinstance (by decide +kernel) (pa_cons (pv 2) (pa_cons (pe_bltn (v := .ty "bool") (by rfl) B.b_bool (by decide +kernel) rfl) pa_nil))))) (pw_or1 (pt_cmpR op_ne (pv 2) (pv 1) (nomark _))))) (pss_cons (ps_ret pe_bl) pss_nil) pss_nil) (pss_cons (ps_set (i := 3) nd rfl (Or.inl rfl) (pe_op op_add_str pe_str (pv 0))) (pss_cons (ps_asg (pe_call G__law_read (hr.mono (by omega)) rfl g__law_read k__law_read b__law_read .nil pass0 (pa_cons (pv 3) pa_nil)) (pg_lst (by rfl) (pgs_cons (pg_name (i := 4) nd rfl (Or.inl rfl)) (pgs_cons (pg_name (i := 5) nd rfl (Or.inl rfl)) pgs_nil)))) (pss_cons (ps_if (pt_not (pt_val (pv 1))) (pss_cons (ps_ret (pe_and (pe_cmpR op_isN1 (pv 4) pe_non (nomark _)) (pe_and (pe_callB (call_isEr K) (by rfl) B.b_isinstance (by decide +kernel) (pa_cons (pv 5) (pa_cons (pe_glob (v := .ref (He.ga K "NoRow")) rfl B.x_NoRow.g rfl) pa_nil))) (pe_and (pe_callB (call_isEr K) (by rfl) B.b_isinstance (by decide +kernel) (pa_cons (pv 5) (pa_cons (pe_bltn (v := .ty "ValueError") (by rfl) B.b_ValueError (by decide +kernel) rfl) pa_nil))) (pe_one (pe_cmpR (eqDK K (by exact hr.units)) (pe_ef K (pv 5)) (pv 3) (nomark _))))))) pss_nil) pss_nil) (pss_cons (ps_if (PW.pt (pw_or (pt_cmpR op_notN1 (pv 5) pe_non (nomark _)) (pw_or (pt_not (pt_val (pe_callB (isiK K) (by rfl) B.b_isinstance (by decide +kernel) (pa_cons (pv 4) (pa_cons (pe_bltn (v := .ty "list") (by rfl) B.b_list (by decide +kernel) rfl) pa_nil))))) (pw_or1 (pt_cmpR (neDK K (by exact hr.units)) (pv 4) (pe_lst (pa_cons pe_str (pa_cons pe_str (pa_cons (pe_callTy call_int_str (by rfl) B.b_int (by decide +kernel) (pa_cons (pv 0) pa_nil)) pa_nil)))) (nomark _)))))) (pss_cons (ps_ret pe_bl) pss_nil) pss_nil) (pss_cons (ps_ret (pe_and (pe_callB (isiK K) (by rfl) B.b_isinstance (by decide +kernel) (pa_cons (pe_ix (ix_listK K) (pv 4) pe_int (fun _ _ => rfl)) (pa_cons (pe_bltn (v := .ty "int") (by rfl) B.b_int (by decide +kernel) rfl) pa_nil))) (pe_one (pe_not (pe_callB (isiK K) (by rfl) B.b_isinstance (by decide +kernel) (pa_cons (pe_ix (ix_listK K) (pv 4) pe_int (fun _ _ => rfl)) (pa_cons (pe_bltn (v := .ty "bool") (by rfl) B.b_bool (by decide +kernel) rfl) pa_nil))))))) pss_nil))))))))), ?_⟩
    refine nf_ (σ' := [some (Flat.val text), none, none, none, none, none]) rfl ?_
    refine p_let (P := (En (rV K) F0 H0 Q)) hP (fun due hdue hP => ?_)
    refine x_setF (K := K) (tv_callV (ta_cons (tv_var rfl (Flat.of _)) ta_nil) (sv__law_due (by /- 1 pre:_law_due -/ first | decide | assumption | omega | ((try simp only [vS, vI]); omega))) (fun _ => trivial)) hdue (fun H1 e1 => ?_)
    have M := M.grow e1
    refine nf_ (σ' := [some (Flat.val text), some (Flat.val due), none, none, none, none]) rfl ?_
    refine p_let (P := (En (rV K) F0 H0 Q)) hP (fun found hfound hP => ?_)
    refine x_setF (K := K) (tv_callV (ta_cons (tv_var rfl (Flat.of _)) ta_nil) (sv_is_number (by /- 2 pre:is_number -/ first | decide | assumption | omega | ((try simp only [vS, vI]); omega))) (fun _ => trivial)) hfound (fun H2 e2 => ?_)
    have M := M.grow e2
    refine nf_ (σ' := [some (Flat.val text), some (Flat.val due), some (Flat.val found), none, none, none]) rfl ?_
    refine q_if (P := (En (rV K) F0 H0 Q)) hP (tt_or (tt_not (tt_B (K := K) (tv_isi (α := Bool) (n := "bool") (c := "bool") (b := true) (tv_var rfl (Flat.of _)) (by decide +kernel)))) (fun hq3 => (tt_test (K := K) (tv_op (tv_var rfl (Flat.of _)) (tv_var rfl (Flat.of _)) op2_neB)))) ?_ ?_
    · intro hc5 H5 e5 hP
      have M := M.grow e5
      refine nf_ (σ' := [some (Flat.val text), some (Flat.val due), some (Flat.val found), none, none, none]) rfl ?_
      exact x_ret (K := K) M.s (tv_flat tv_bl) (fun F1 H1 v g r => hP F1 H1 v ⟨(M.g.then g).gr, r⟩)
    · intro hc5 H5 e5 hP
      first | refine q_endS ?_ | refine q_endC ?_ | refine q_end ?_
      have M := M.grow e5
      have hc5p0 := (Bool.or_eq_false_iff.mp hc5).1
      have hr5p0 := (Bool.or_eq_false_iff.mp hc5).2
      have hc5p1 := hr5p0
      refine nf_ (σ' := [some (Flat.val text), some (Flat.val due), some (Flat.val found), none, none, none]) rfl ?_
      refine p_let (P := (En (rV K) F0 H0 Q)) hP (fun row hrow hP => ?_)
      refine x_setF (K := K) (tv_op tv_str (tv_var rfl (Flat.of _)) (op2_cats (by /- 3 strlen -/ first | ((have : (("read north " : PySem.Str)).length = 11 := by decide +kernel); ((try simp only [app_len, List.map_cons, List.map_nil, List.sum_cons, List.sum_nil, List.length_cons, List.length_nil]); omega)) | ((try simp only [decide_eq_true_eq, decide_eq_false_iff_not, Bool.not_eq_true', Bool.not_eq_false', Bool.and_eq_true, Bool.and_eq_false_iff, Bool.or_eq_true, Bool.or_eq_false_iff] at hc5); ((have : (("read north " : PySem.Str)).length = 11 := by decide +kernel); ((try simp only [app_len, List.map_cons, List.map_nil, List.sum_cons, List.sum_nil, List.length_cons, List.length_nil]); omega)))))) hrow (fun H6 e6 => ?_)
      have M := M.grow e6
      have hrl : row.length = 11 + text.length := by rw [hrow, app_len]; rfl
      refine nf_ (σ' := [some (Flat.val text), some (Flat.val due), some (Flat.val found), some (Flat.val row), none, none]) rfl ?_
      refine q_unpH2 (K := K) (P := (En (rV K) F0 H0 Q)) hP M.s (tv_callV (ta_cons (tv_flat (tv_var rfl (Flat.of _))) ta_nil) (sv__law_read (by /- 4 pre:_law_read -/ first | (first | decide | assumption | omega | ((try simp only [vS, vI]); omega)) | ((try simp only [decide_eq_true_eq, decide_eq_false_iff_not, Bool.not_eq_true', Bool.not_eq_false', Bool.and_eq_true, Bool.and_eq_false_iff, Bool.or_eq_true, Bool.or_eq_false_iff] at hc5); (first | decide | assumption | omega | ((try simp only [vS, vI]); omega))))) (fun _ => trivial)) ?_
      intro read caught F7 H7 v7_0 v7_1 hu_read gr7 h7_0 h7_1 hP
      obtain ⟨hF, hT⟩ := read_two hrow hu_read hdue
      have M := M.gr gr7
      refine nf_ (σ' := [some (Flat.val text), some (Flat.val due), some (Flat.val found), some (Flat.val row), some v7_0, some v7_1]) rfl ?_
      refine q_if (P := (En (rV K) F0 H0 Q)) hP (tt_not (tt_B (K := K) (tv_var rfl (Flat.of _)))) ?_ ?_
      · intro hc8 H8 e8 hP
        have M := M.grow e8
        refine nf_ (σ' := [some (Flat.val text), some (Flat.val due), some (Flat.val found), some (Flat.val row), some v7_0, some v7_1]) rfl ?_
        exact x_ret (K := K) M.s (tv_flat (tv_and (tv_op (tv_var rfl (up M.s h7_0)) tv_non op2_isN) (fun hq9 => (tv_and (tv_isEr (tv_gt (tv_var rfl (up M.s h7_1)) (by /- 5 some -/ rw [(hF (by simpa using hc8)).2]; rfl)) (by /- 6 exn -/ rw [(hF (by simpa using hc8)).2]; rfl) (ClsV.own _) B.y_NoRow B.k_NoRow_NoRow) (fun hq10 => (tv_and (tv_isEr (tv_gt (tv_var rfl (up M.s h7_1)) (by /- 7 some -/ rw [(hF (by simpa using hc8)).2]; rfl)) (by /- 8 exn -/ rw [(hF (by simpa using hc8)).2]; rfl) (ClsV.ty _) B.y_NoRow B.k_NoRow_ValueError) (fun hq11 => (tv_op (tv_erF (tv_gt (tv_var rfl (up M.s h7_1)) (by /- 9 some -/ rw [(hF (by simpa using hc8)).2]; rfl)) (by /- 10 exn -/ rw [(hF (by simpa using hc8)).2]; rfl) B.y_NoRow B.n_NoRow_row (by /- 11 erf -/ rw [(hF (by simpa using hc8)).2]; rfl)) (tv_dvS (tv_var rfl (Flat.of _))) (op2_eqV (by /- 12 shp -/ rw [(hF (by simpa using hc8)).2]; show SeqAt.shaped (Dv.dat (erF (noRow row) "row")) = true; rw [erF_row, hrow]; exact shp_str (row_ok hps)) (by /- 13 shp -/ rw [hrow]; exact shp_str (row_ok hps))))))))))) (fun F1 H1 v g r => hP F1 H1 v ⟨(M.g.then g).gr, r⟩)
      · intro hc8 H8 e8 hP
        first | refine q_endS ?_ | refine q_endC ?_ | refine q_end ?_
        have M := M.grow e8
        refine nf_ (σ' := [some (Flat.val text), some (Flat.val due), some (Flat.val found), some (Flat.val row), some v7_0, some v7_1]) rfl ?_
        refine q_if (P := (En (rV K) F0 H0 Q)) hP (tt_or (tt_test (K := K) (tv_op (tv_var rfl (up M.s h7_1)) tv_non op2_notN)) (fun hq13 => (tt_or (tt_not (tt_B (K := K) (tv_isi (α := (List Dv)) (n := "list") (c := "list") (b := true) (tv_gt (tv_var rfl (up M.s h7_0)) (by /- 14 some -/ rw [(hT (by simpa using hc8)).1]; rfl)) (by decide +kernel)))) (fun hq14 => (tt_test (K := K) (tv_op (tv_dvL (tv_gt (tv_var rfl (up M.s h7_0)) (by /- 17 some -/ rw [(hT (by simpa using hc8)).1]; rfl))) (tv_dvL (TvL.tv (tl_lst (ta_rcons (tv_dvS tv_str) (ta_rcons (tv_dvS tv_str) (ta_rcons (tv_dvI (tv_cb (ta_cons (tv_var rfl (Flat.of _)) ta_nil) (cb_intS (by /- 15 intt -/ exact (hT (by simpa using hc8)).2.2.2) (by /- 16 strlen1 -/ have := (hT (by simpa using hc8)).2.2.1; omega)))) ta_rnil))) (by show 3 ≤ 100000; decide)))) (op2_neV (by /- 18 shp -/ rw [(hT (by simpa using hc8)).1]; exact shp_rd _) (by /- 19 shp -/ exact shp_rd _)))))))) ?_ ?_
        · intro hc16 H16 e16 hP
          have M := M.grow e16
          refine nf_ (σ' := [some (Flat.val text), some (Flat.val due), some (Flat.val found), some (Flat.val row), some v7_0, some v7_1]) rfl ?_
          exact x_ret (K := K) M.s (tv_flat tv_bl) (fun F1 H1 v g r => hP F1 H1 v ⟨(M.g.then g).gr, r⟩)
        · intro hc16 H16 e16 hP
          first | refine q_endS ?_ | refine q_endC ?_ | refine q_end ?_
          have M := M.grow e16
          have hc16p0 := (Bool.or_eq_false_iff.mp hc16).1
          have hr16p0 := (Bool.or_eq_false_iff.mp hc16).2
          have hc16p1 := (Bool.or_eq_false_iff.mp hr16p0).1
          have hr16p1 := (Bool.or_eq_false_iff.mp hr16p0).2
          have hc16p2 := hr16p1
          refine nf_ (σ' := [some (Flat.val text), some (Flat.val due), some (Flat.val found), some (Flat.val row), some v7_0, some v7_1]) rfl ?_
          exact x_ret (K := K) M.s (tv_flat (tv_and (tv_isiDv (tv_op (tv_gt (tv_var rfl (up M.s h7_0)) (by /- 20 some -/ rw [(hT (by simpa using hc8)).1]; rfl)) tv_int (op2_ixL (by /- 21 ix -/ rw [(hT (by simpa using hc8)).1]; exact ⟨by show (-(3 : Int) ≤ 2); decide, by show ((2 : Int) < 3); decide⟩))) (kitv_int _)) (fun hq17 => (tv_not (tv_isiDv (tv_op (tv_gt (tv_var rfl (up M.s h7_0)) (by /- 22 some -/ rw [(hT (by simpa using hc8)).1]; rfl)) tv_int (op2_ixL (by /- 23 ix -/ rw [(hT (by simpa using hc8)).1]; exact ⟨by show (-(3 : Int) ≤ 2); decide, by show ((2 : Int) < 3); decide⟩))) (kitv_bool _)))))) (fun F1 H1 v g r => hP F1 H1 v ⟨(M.g.then g).gr, r⟩)
theorem strI_le {n : Int} (h0 : 0 ≤ n) (h1 : n < 1000000000) : (strI n).length ≤ 1921 := strI_len (log_small (by omega) (by omega))
theorem ok_strI (n : Int) : PyData.strOk (strI n) = true := by unfold strI; exact ok_str _
def m_law (script : Scr) : Bool := (lt ((m__law_cell script (14 : Int)) % ((10 : Int) ^ ((9 : Int)).toNat)) fun (number : Int) => ((m__law_right (m__law_text script)) && ((m__law_right (strI number)) && (m__law_due (strI number)))))
abbrev s_law : Stmt := top 14
def sp_law (K : Fg) : Sp := fun vs H Q E => ∃ (F : Hp) (script : Scr) (w0 : V), vs = [w0] ∧ Same F H ∧ rp K F script w0 ∧ En (rV K) F H Q (m_law script)
theorem sv_law {K : Fg} {script : Scr} : SpR (sp_law K) (fun (F : Hp) (vs : List V) => ∃ v r, vs = v :: r ∧ rp K F script v ∧ (fun (_ : Hp) (vs : List V) => vs = []) F r) CT (rV K (m_law script)) := by
  intro F H vs Q E s h _ hQ
  obtain ⟨v0, r0, e0, h0, h⟩ := h
  subst h
  subst e0
  exact ⟨F, script, v0, rfl, s, h0, hQ⟩
theorem sc_law : FnScope ["script", "number"] ["script"] (defScope s_law) := ⟨rfl, rfl, rfl, by decide +kernel, rfl, by decide +kernel, by decide +kernel⟩
theorem ok_law {P : Program} {w : World} {K : Fg} {mg : PySem.Str → Option Value} {base : Heap} (B : Bs K mg) (D__law_cell : Dn P w K mg base CX0 "_law_cell" 1 ["script", "k"] (sp__law_cell K)) (D__law_right : Dn P w K mg base CX0 "_law_right" 5 ["text"] (sp__law_right K)) (D__law_text : Dn P w K mg base CX0 "_law_text" 2 ["script"] (sp__law_text K)) (D__law_due : Dn P w K mg base CX0 "_law_due" 1 ["text"] (sp__law_due K)) {f : Addr} {fd : FuncData} (F : FnP K "law" s_law f fd) : FnOk P w K mg base CX0 6 f fd ["script"] (sp_law K) := by
  obtain ⟨f__law_cell, d__law_cell, G__law_cell, g__law_cell, k__law_cell, b__law_cell⟩ := D__law_cell
  obtain ⟨f__law_right, d__law_right, G__law_right, g__law_right, k__law_right, b__law_right⟩ := D__law_right
  obtain ⟨f__law_text, d__law_text, G__law_text, g__law_text, k__law_text, b__law_text⟩ := D__law_text
  obtain ⟨f__law_due, d__law_due, G__law_due, g__law_due, k__law_due, b__law_due⟩ := D__law_due
  have nd : (["script", "number"] : List PySem.Str).Nodup := sc_law.nd
  refine F.ok sc_law (fun vs H Q E h => ?_) (fun cdv A outer s H0 vs Q E hr h => ?_)
  · obtain ⟨F0, script, vp_0, rfl, s, hp_0, hP⟩ := h
    rfl
  · obtain ⟨F0, script, vp_0, rfl, s, hp_0, hP⟩ := h
    have h10 : (10 : Int) ^ ((9 : Int)).toNat = 1000000000 := by decide +kernel
    have M : Sg Z0 F0 H0 F0 H0 ([] : List Cell) := ⟨GrZ.refl s, (fun _ h => by cases h), Cl.nil s⟩
    refine ⟨_, PSs.nox (by exact (pss_cons (ps_set (i := 1) nd rfl (Or.inl rfl) (pe_op op_mod (pe_call G__law_cell (hr.mono (by omega)) rfl g__law_cell k__law_cell b__law_cell .nil pass0 (pa_cons (pv 0) (pa_cons pe_int pa_nil))) (pe_op op_pow pe_int pe_int))) (pss_cons (ps_ret (pe_and (pe_call G__law_right (hr.mono (by omega)) rfl g__law_right k__law_right b__law_right .nil pass0 (pa_cons (pe_call G__law_text (hr.mono (by omega)) rfl g__law_text k__law_text b__law_text .nil pass0 (pa_cons (pv 0) pa_nil)) pa_nil)) (pe_and (pe_call G__law_right (hr.mono (by omega)) rfl g__law_right k__law_right b__law_right .nil pass0 (pa_cons (pe_callTy call_str_int (by rfl) B.b_str (by decide +kernel) (pa_cons (pv 1) pa_nil)) pa_nil)) (pe_one (pe_call G__law_due (hr.mono (by omega)) rfl g__law_due k__law_due b__law_due .nil pass0 (pa_cons (pe_callTy call_str_int (by rfl) B.b_str (by decide +kernel) (pa_cons (pv 1) pa_nil)) pa_nil)))))) pss_nil))), ?_⟩
    refine nf_ (σ' := [some vp_0, none]) rfl ?_
    refine p_let (P := (En (rV K) F0 H0 Q)) hP (fun number hnumber hP => ?_)
    refine x_setF (K := K) (tv_op (tv_callV (ta_cons (tv_var rfl (up M.s hp_0)) (ta_cons tv_int ta_nil)) (sv__law_cell (by /- 1 pre:_law_cell -/ first | decide | assumption | omega | ((try simp only [vS, vI]); omega))) (fun _ => trivial)) (tv_op tv_int tv_int (op2_pow (by /- 2 CPow -/ first | exact ⟨by decide, by decide, by decide⟩ | exact ⟨by omega, by omega, by omega⟩))) (op2_mod (by /- 3 pos -/ first | decide | omega))) hnumber (fun H1 e1 => ?_)
    have M := M.grow e1
    have hn0 : 0 ≤ number := by rw [hnumber, h10]; omega
    have hn1 : number < 1000000000 := by rw [hnumber, h10]; omega
    refine nf_ (σ' := [some vp_0, some (Flat.val number)]) rfl ?_
    exact x_ret (K := K) M.s (tv_flat (tv_and (tv_callV (ta_cons (tv_callV (ta_cons (tv_var rfl (up M.s hp_0)) ta_nil) (sv__law_text ) (fun _ => trivial)) ta_nil) (sv__law_right (by /- 4 pre:_law_right -/ exact ⟨by have := (text_ok script).2; omega, (text_ok script).1⟩)) (fun _ => trivial)) (fun hq2 => (tv_and (tv_callV (ta_cons (tv_cb (ta_cons (tv_var rfl (Flat.of _)) ta_nil) (cb_strI (by /- 5 log -/ first | (exact log_small (by omega) (by omega)) | ((try simp only [decide_eq_true_eq, decide_eq_false_iff_not, Bool.not_eq_true', Bool.not_eq_false', Bool.and_eq_true, Bool.and_eq_false_iff, Bool.or_eq_true, Bool.or_eq_false_iff] at hq2); (exact log_small (by omega) (by omega)))))) ta_nil) (sv__law_right (by /- 6 pre:_law_right -/ exact ⟨by have := strI_le hn0 hn1; omega, ok_strI number⟩)) (fun _ => trivial)) (fun hq3 => (tv_callV (ta_cons (tv_cb (ta_cons (tv_var rfl (Flat.of _)) ta_nil) (cb_strI (by /- 7 log -/ first | (exact log_small (by omega) (by omega)) | ((try simp only [decide_eq_true_eq, decide_eq_false_iff_not, Bool.not_eq_true', Bool.not_eq_false', Bool.and_eq_true, Bool.and_eq_false_iff, Bool.or_eq_true, Bool.or_eq_false_iff] at hq2); (try simp only [decide_eq_true_eq, decide_eq_false_iff_not, Bool.not_eq_true', Bool.not_eq_false', Bool.and_eq_true, Bool.and_eq_false_iff, Bool.or_eq_true, Bool.or_eq_false_iff] at hq3); (exact log_small (by omega) (by omega)))))) ta_nil) (sv__law_due (by /- 8 pre:_law_due -/ have := strI_le hn0 hn1; omega)) (fun _ => trivial))))))) (fun F1 H1 v g r => hP F1 H1 v ⟨(M.g.then g).gr, r⟩)
theorem num_head : ∀ (n : Nat), 1 ≤ n → (TL.numL n).head? ≠ some 48 := by
  intro n
  induction n using Nat.strongRecOn with
  | _ n ih =>
    intro h
    by_cases h10 : n < 10
    · rw [TL.numL_lt h10]; simp; omega
    · rw [TL.numL_step (by omega), List.head?_append]
      have := ih (n / 10) (by omega) (by omega)
      cases q : (TL.numL (n / 10)).head? with
      | none => exact absurd (List.head?_eq_none_iff.mp q) (TL.numL_ne _)
      | some y => rw [q] at this; simpa using this
theorem due_num {n : Int} (h0 : 0 ≤ n) (h1 : n < 1000000000) : m__law_due (strI n) = true := by
  obtain ⟨k, rfl⟩ : ∃ k : Nat, n = (k : Int) := ⟨n.toNat, by omega⟩
  have e : strI ((k : Nat) : Int) = SX.S (TL.numL k) := SX.num_S k
  have hl : (TL.numL k).length ≤ 9 := TL.numL_len (by decide) (by have : (10 : Nat) ^ 9 = 1000000000 := by decide
                                                                  omega)
  have hc : (SX.S (TL.numL k)).cps.toList = TL.numL k := rfl
  have hlen : (SX.S (TL.numL k)).length = (TL.numL k).length := by show (TL.numL k).toArray.size = _; simp
  have hne := TL.numL_ne k
  rw [due_eq, e]
  have z1 : decide (SX.S (TL.numL k) = ("" : PySem.Str)) = false := decide_eq_false fun q => by
    have := congrArg (fun z : PySem.Str => z.cps.toList) q
    have e0 : (("" : PySem.Str)).cps.toList = [] := by decide +kernel
    exact hne ((show TL.numL k = _ from this).trans e0)
  have z2 : decide (((SX.S (TL.numL k)).length : Int) ≤ 9) = true := decide_eq_true (by rw [hlen]; omega)
  have z3 : nodig (SX.S (TL.numL k)) = false := (nodig_iff _).mpr (by rw [hc]; exact TL.numL_digits k)
  have z4 : (decide ((chI (SX.S (TL.numL k)) (0 : Int)) = ("0" : PySem.Str)) && decide (((SX.S (TL.numL k)).length : Int) > 1)) = false := by
    by_cases hk : k < 10
    · rw [hlen, TL.numL_lt hk]; simp
    · have hh := num_head k (by omega)
      have : decide ((chI (SX.S (TL.numL k)) (0 : Int)) = ("0" : PySem.Str)) = false := decide_eq_false fun q => by
        have q2 := congrArg (fun z : PySem.Str => z.cps.toList) q
        have e0 : (("0" : PySem.Str)).cps.toList = [48] := by decide +kernel
        have q3 : [ixI (SX.S (TL.numL k)).cps.toList 0] = [48] := (show [ixI (SX.S (TL.numL k)).cps.toList 0] = _ from q2).trans e0
        rw [hc] at q3
        have q4 := (List.cons.inj q3).1
        unfold ixI at q4
        cases hq : TL.numL k with
        | nil => exact hne hq
        | cons a r => rw [hq] at q4 hh; simp at q4 hh; exact hh q4
      rw [this]; rfl
  rw [z1, z2, z3, z4]; rfl
theorem right_ok {t : PySem.Str} (h : PyData.strOk t = true) : m__law_right t = true := by
  unfold m__law_right
  simp only [lt_eq, ltH2_eq, num_eq, lread_eq]
  have hr := row_ok h
  generalize ("read north " : PySem.Str) ++ t = row at hr ⊢
  have he : PyData.eqv (Dv.dat (Dv.str row)) (Dv.dat (Dv.str row)) = true := by simp [Dv.dat, PyData.eqv]
  cases m__law_due t
  · simp only [cond_false]
    show PyData.eqv (Dv.dat (erF (noRow row) "row")) (Dv.dat (Dv.str row)) = true
    rw [erF_row]; exact he
  · simp only [cond_true]
    have e2 : PyData.eqv (Dv.dat (Dv.lst [Dv.str "read", Dv.str "north", Dv.int (intT t)])) (Dv.dat (Dv.lst [Dv.str "read", Dv.str "north", Dv.int (intT t)])) = true := by simp [Dv.dat, Dv.dats, PyData.eqv, PyData.eqvAll]
    show (cond (!PyData.eqv (Dv.dat (Dv.lst [Dv.str "read", Dv.str "north", Dv.int (intT t)])) (Dv.dat (Dv.lst [Dv.str "read", Dv.str "north", Dv.int (intT t)]))) false true : Bool) = true
    rw [e2]; rfl
theorem law_true (ns : List Int) (_h : ns.length ≤ 63) : m_law ⟨ns⟩ = true := by
  unfold m_law
  simp only [lt_eq]
  have h10 : (10 : Int) ^ ((9 : Int)).toNat = 1000000000 := by decide +kernel
  rw [h10]
  have h0 : 0 ≤ m__law_cell ⟨ns⟩ 14 % 1000000000 := by omega
  have h1 : m__law_cell ⟨ns⟩ 14 % 1000000000 < 1000000000 := by omega
  generalize m__law_cell ⟨ns⟩ 14 % 1000000000 = n at h0 h1 ⊢
  rw [right_ok (text_ok ⟨ns⟩).1, right_ok (ok_strI n), due_num h0 h1]; rfl
def d_is_number : He.DefD := ⟨("is_number", none), "is_number", "is_number", defArgs s_is_number, defBody s_is_number, defScope s_is_number, [], []⟩
def d_shape_of : He.DefD := ⟨("shape_of", none), "shape_of", "shape_of", defArgs s_shape_of, defBody s_shape_of, defScope s_shape_of, [], []⟩
def d_read_row : He.DefD := ⟨("read_row", none), "read_row", "read_row", defArgs s_read_row, defBody s_read_row, defScope s_read_row, [], []⟩
def d__law_cell : He.DefD := ⟨("_law_cell", none), "_law_cell", "_law_cell", defArgs s__law_cell, defBody s__law_cell, defScope s__law_cell, [], []⟩
def d__law_text : He.DefD := ⟨("_law_text", none), "_law_text", "_law_text", defArgs s__law_text, defBody s__law_text, defScope s__law_text, [], []⟩
def d__law_due : He.DefD := ⟨("_law_due", none), "_law_due", "_law_due", defArgs s__law_due, defBody s__law_due, defScope s__law_due, [], []⟩
def d__law_read : He.DefD := ⟨("_law_read", none), "_law_read", "_law_read", defArgs s__law_read, defBody s__law_read, defScope s__law_read, [], []⟩
def d__law_right : He.DefD := ⟨("_law_right", none), "_law_right", "_law_right", defArgs s__law_right, defBody s__law_right, defScope s__law_right, [], []⟩
def d_law : He.DefD := ⟨("law", none), "law", "law", defArgs s_law, defBody s_law, defScope s_law, [], []⟩
def d_NoRow___init__ : He.DefD := ⟨("NoRow", some "__init__"), "__init__", "NoRow.__init__", defArgs s_NoRow___init__, defBody s_NoRow___init__, defScope s_NoRow___init__, [], []⟩
def fn_ : List He.DefD := [d_is_number, d_shape_of, d_read_row, d__law_cell, d__law_text, d__law_due, d__law_read, d__law_right, d_law, d_NoRow___init__]
def fa_ : List He.Fa := [.glo "is_number", .glo "shape_of", .glo "read_row", .glo "_law_cell", .glo "_law_text", .glo "_law_due", .glo "_law_read", .glo "_law_right", .glo "law", .free "len", .free "str", .free "isinstance", .free "zip", .free "int", .free "range", .free "bool", .free "ValueError", .free "list", .str "FIGURES" "0123456789", .glo "NoRow", .glo "RoofError", .exm "NoRow" "RoofError" true]
abbrev R_ : PySem.W.OpenRow := PySem.W.OpenLaw.row PySem.Challenge.rw_threeroofs_k81_numbers_in_rows
def ex_ (K : Fg) : Bool := (excC K (He.ga K "NoRow")) && (decide (PySem.W.kitOne K (.ref (He.ga K "NoRow")) (.ref (He.ga K "NoRow")) = some true)) && (decide (PySem.W.kitOne K (.ref (He.ga K "NoRow")) (.type "ValueError") = some true)) && (noB K "NoRow" "row") && (xiB K "NoRow")
abbrev hk_ : PySem.W.Hook := He.hookX 5 fa_ fn_ [] [] ex_
def ob_ (s : PySem.W.SharedT) : He.AlX := He.obsX 5 fa_ fn_ [] [] ex_ (HandSHeadRun.getT s)
theorem ob_eq (s : PySem.W.SharedT) : ob_ s = hk_.obs s.abs := He.obsX_eq (HandSHeadRun.getT_eq s)
def loose_ : List PySem.Str := ["RoofError", "NoRow", "FIGURES", "is_number", "shape_of", "read_row", "_law_cell", "_law_text", "_law_due", "_law_read", "_law_right"]
theorem ex_at0 {K : Fg} (h : ex_ K = true) : (excC K (He.ga K "NoRow")) = true := by
  unfold ex_ at h
  try simp only [Bool.and_eq_true] at h
  exact h.1.1.1.1
theorem ex_at1 {K : Fg} (h : ex_ K = true) : (decide (PySem.W.kitOne K (.ref (He.ga K "NoRow")) (.ref (He.ga K "NoRow")) = some true)) = true := by
  unfold ex_ at h
  try simp only [Bool.and_eq_true] at h
  exact h.1.1.1.2
theorem ex_at2 {K : Fg} (h : ex_ K = true) : (decide (PySem.W.kitOne K (.ref (He.ga K "NoRow")) (.type "ValueError") = some true)) = true := by
  unfold ex_ at h
  try simp only [Bool.and_eq_true] at h
  exact h.1.1.2
theorem ex_at3 {K : Fg} (h : ex_ K = true) : (noB K "NoRow" "row") = true := by
  unfold ex_ at h
  try simp only [Bool.and_eq_true] at h
  exact h.1.2
theorem ex_at4 {K : Fg} (h : ex_ K = true) : (xiB K "NoRow") = true := by
  unfold ex_ at h
  try simp only [Bool.and_eq_true] at h
  exact h.2
theorem run_ (w : World) : HandSHeadRun.RunEq R_ (PySem.W.view R_.prog [14]) hk_ ob_ 3000 loose_ w := by
  intro os
  kernel_rfl
theorem facts_ {P : Program} {w : World} {K : Fg} {h : Heap} {mg : PySem.Str → Option Value} {f : Addr} (X : K.In h) (G : h.Ns mainGlobals mg) (hfa : mg ("law" : PySem.Str) = some (.ref f)) (c : He.SaysD fa_ fn_ K) (cx : ex_ K = true) :
    ∃ fd : FuncData, (∀ (s : Shared) (v : Value), BindsTo s fd ⟨[v], []⟩ [("script", v)]) ∧ ∀ base : Heap, K.In base → base.Ns mainGlobals mg → FnOk P w K mg base CX0 6 f fd ["script"] (sp_law K) := by
  have B : Bs K mg := ⟨He.free_ok X G (c.fact 9 (f := .free "len") rfl), He.free_ok X G (c.fact 10 (f := .free "str") rfl), He.free_ok X G (c.fact 11 (f := .free "isinstance") rfl), He.free_ok X G (c.fact 12 (f := .free "zip") rfl), He.free_ok X G (c.fact 13 (f := .free "int") rfl), He.free_ok X G (c.fact 14 (f := .free "range") rfl), He.free_ok X G (c.fact 15 (f := .free "bool") rfl), He.free_ok X G (c.fact 16 (f := .free "ValueError") rfl), He.free_ok X G (c.fact 17 (f := .free "list") rfl), He.str_ok X G (c.fact 18 (f := .str "FIGURES" "0123456789") rfl), (xiB_ok (ex_at4 cx) (He.glo_ok X G (c.fact 19 (f := .glo "NoRow") rfl))), ⟨He.glo_ok X G (c.fact 20 (f := .glo "RoofError") rfl)⟩, He.exm_ok (c.fact 21 (f := .exm "NoRow" "RoofError" true) rfl), excC_ok (ex_at0 cx), of_decide_eq_true (ex_at1 cx), of_decide_eq_true (ex_at2 cx), of_decide_eq_true (ex_at3 cx)⟩
  obtain ⟨fd_is_number, F_is_number⟩ := c.def_ 0 (d := d_is_number) rfl
  have gl_is_number := He.glo_ok X G (c.fact 0 (f := .glo "is_number") rfl)
  obtain ⟨fd_shape_of, F_shape_of⟩ := c.def_ 1 (d := d_shape_of) rfl
  have gl_shape_of := He.glo_ok X G (c.fact 1 (f := .glo "shape_of") rfl)
  obtain ⟨fd_read_row, F_read_row⟩ := c.def_ 2 (d := d_read_row) rfl
  have gl_read_row := He.glo_ok X G (c.fact 2 (f := .glo "read_row") rfl)
  obtain ⟨fd__law_cell, F__law_cell⟩ := c.def_ 3 (d := d__law_cell) rfl
  have gl__law_cell := He.glo_ok X G (c.fact 3 (f := .glo "_law_cell") rfl)
  obtain ⟨fd__law_text, F__law_text⟩ := c.def_ 4 (d := d__law_text) rfl
  have gl__law_text := He.glo_ok X G (c.fact 4 (f := .glo "_law_text") rfl)
  obtain ⟨fd__law_due, F__law_due⟩ := c.def_ 5 (d := d__law_due) rfl
  have gl__law_due := He.glo_ok X G (c.fact 5 (f := .glo "_law_due") rfl)
  obtain ⟨fd__law_read, F__law_read⟩ := c.def_ 6 (d := d__law_read) rfl
  have gl__law_read := He.glo_ok X G (c.fact 6 (f := .glo "_law_read") rfl)
  obtain ⟨fd__law_right, F__law_right⟩ := c.def_ 7 (d := d__law_right) rfl
  have gl__law_right := He.glo_ok X G (c.fact 7 (f := .glo "_law_right") rfl)
  obtain ⟨fd_law, F_law⟩ := c.def_ 8 (d := d_law) rfl
  have gl_law := He.glo_ok X G (c.fact 8 (f := .glo "law") rfl)
  have e := hfa.symm.trans gl_law
  cases e
  have b := FunD.bindsA (ps := ["script"]) F_law fun _ _ _ _ _ _ us hl => match us, hl with | [_], _ => rfl
  refine ⟨fd_law, fun s v => b s [v] rfl, fun base _ _ => ?_⟩
  obtain ⟨fd_NoRow___init__, F_NoRow___init__⟩ := c.def_ 9 (d := d_NoRow___init__) rfl
  have D_NoRow___init__ : ∃ f fd, FnOk P w K mg base CX0 1 f fd ["self", "row"] (spEx (He.ga K "NoRow") ["row"]) ∧ f = He.ma K (He.ga K "NoRow") "__init__" ∧ Binds K fd ["self", "row"] [] := ⟨_, fd_NoRow___init__, ok_NoRow___init__ B.x_NoRow.o B.n_NoRow_row F_NoRow___init__, rfl, F_NoRow___init__.bindsN fun _ _ _ _ _ _ us hl => match us, hl with | [_, _], _ => rfl⟩
  have D_is_number : Dn P w K mg base CX0 "is_number" 1 ["word"] (sp_is_number K) := ⟨_, fd_is_number, ok_is_number B  F_is_number, gl_is_number, F_is_number.kp, F_is_number.bindsN fun _ _ _ _ _ _ us hl => match us, hl with | [_], _ => rfl⟩
  have D_shape_of : Dn P w K mg base CX0 "shape_of" 1 ["word", "many"] (sp_shape_of K) := ⟨_, fd_shape_of, ok_shape_of B  F_shape_of, gl_shape_of, F_shape_of.kp, F_shape_of.bindsN fun _ _ _ _ _ _ us hl => match us, hl with | [_, _], _ => rfl⟩
  have D_read_row : Dn P w K mg base (L2.CX P w) "read_row" 3 ["row"] (sp_read_row K) := ⟨_, fd_read_row, ok_read_row B D_NoRow___init__ D_shape_of D_is_number F_read_row, gl_read_row, F_read_row.kp, F_read_row.bindsN fun _ _ _ _ _ _ us hl => match us, hl with | [_], _ => rfl⟩
  have D__law_cell : Dn P w K mg base CX0 "_law_cell" 1 ["script", "k"] (sp__law_cell K) := ⟨_, fd__law_cell, ok__law_cell B  F__law_cell, gl__law_cell, F__law_cell.kp, F__law_cell.bindsN fun _ _ _ _ _ _ us hl => match us, hl with | [_, _], _ => rfl⟩
  have D__law_text : Dn P w K mg base CX0 "_law_text" 2 ["script"] (sp__law_text K) := ⟨_, fd__law_text, ok__law_text B D__law_cell F__law_text, gl__law_text, F__law_text.kp, F__law_text.bindsN fun _ _ _ _ _ _ us hl => match us, hl with | [_], _ => rfl⟩
  have D__law_due : Dn P w K mg base CX0 "_law_due" 1 ["text"] (sp__law_due K) := ⟨_, fd__law_due, ok__law_due B  F__law_due, gl__law_due, F__law_due.kp, F__law_due.bindsN fun _ _ _ _ _ _ us hl => match us, hl with | [_], _ => rfl⟩
  have D__law_read : Dn P w K mg base CX0 "_law_read" 4 ["row"] (sp__law_read K) := ⟨_, fd__law_read, ok__law_read B D_read_row F__law_read, gl__law_read, F__law_read.kp, F__law_read.bindsN fun _ _ _ _ _ _ us hl => match us, hl with | [_], _ => rfl⟩
  have D__law_right : Dn P w K mg base CX0 "_law_right" 5 ["text"] (sp__law_right K) := ⟨_, fd__law_right, ok__law_right B D__law_due D_is_number D__law_read F__law_right, gl__law_right, F__law_right.kp, F__law_right.bindsN fun _ _ _ _ _ _ us hl => match us, hl with | [_], _ => rfl⟩
  exact ok_law B D__law_cell D__law_right D__law_text D__law_due F_law
end Th
open PySem PySem.W PySem.Calls PyProof.Rows
theorem PySem.Challenge.cw_threeroofs_k81_numbers_in_rows_holds : PySem.Challenge.rw_threeroofs_k81_numbers_in_rows.Holds := by
  w_on; o_law
  refine HandSHeadRun.head_any (r := OpenLaw.row PySem.Challenge.rw_threeroofs_k81_numbers_in_rows) (q := view (OpenLaw.row PySem.Challenge.rw_threeroofs_k81_numbers_in_rows).prog [14]) (H := Th.hk_) (ob := Th.ob_) (M := 3000) (loose := Th.loose_) (d := HandSHeadRun.topDef (OpenLaw.row PySem.Challenge.rw_threeroofs_k81_numbers_in_rows).prog 14) (kwd := []) Th.ob_eq
    (by kernel_rfl) (fun s => by kernel_rfl) Th.run_ (by kernel_rfl) (by kernel_rfl) (by kernel_rfl) (by rfl) (by first | assumption | decide +kernel) (by decide +kernel) ⟨rfl, rfl, rfl, rfl, rfl, by decide +kernel⟩ ?hw ?hc
  case hw => w_witness2
  case hc =>
    refine L2.walk_ofE (l := PySem.Challenge.rw_threeroofs_k81_numbers_in_rows) (n := 63) (k := 6) (x := "script") (CX := L2.CX0) rfl (by decide) (by kernel_rfl) ⟨rfl, by decide, by decide⟩ ?F (fun _ _ _ _ z => z)
    intro w mg fa h Y G hmg0
    obtain ⟨K, KX, c⟩ := Y
    have hmg : mg ("law" : PySem.Str) = some (.ref fa) := by
      have e : (HandSHeadRun.topDef (OpenLaw.row PySem.Challenge.rw_threeroofs_k81_numbers_in_rows).prog 14).name = ("law" : PySem.Str) := by kernel_rfl
      rw [← e]
      exact hmg0
    obtain ⟨fd, hb, hF⟩ := Th.facts_ (P := (PySem.Challenge.rw_threeroofs_k81_numbers_in_rows).prog) (w := w) KX G hmg c.t.d c.more
    exact ⟨K, fd, Th.sp_law K, KX, hb, fun H a ns hl _ hS => ⟨H, ⟨ns⟩, .ref a, rfl, L2.Same.refl H, ⟨a, rfl, hS⟩, fun F' H' r ⟨g, hr⟩ => by
      have e : r = L2.V.bl (Th.m_law ⟨ns⟩) := hr
      rw [e, Th.law_true ns hl]⟩, hF⟩
#print axioms PySem.Challenge.cw_threeroofs_k81_numbers_in_rows_holds
