import PyProof.Rows.All
import Wide.All
import OpenK.AllK
import Wide.FinOn
import HandS.ForMost
import HandS.ForExc
import HandS.Flow
import HandS.Zip
import HandS.IsInst
import HandS.Style
import HandS.Evl
import HandS.Steps
import HandS.Defaults
import HandS.Head0
import HandS.Head1
import HandS.Head2
import HandS.HeadEnd
import HandS.HeadHook1
import HandS.HeadHook2
import PySem.Challenge.RW_threeroofs_k72_whole_those_that_miss
set_option Elab.async false
set_option linter.all false
set_option maxRecDepth 100000
set_option maxHeartbeats 2000000
/-! Typed mirrors over the readings: what a value of the heap stands for (Rep), what a reading gives (Tv, Tt, TvA, It), statements (q_*). -/
namespace Rf
open PySem L2
abbrev Fg := PySem.W.Frag
abbrev St := L2.St
/-! ### growing heaps: F is the part that never changes any more, H the whole -/
structure Gr (F H F' H' : Hp) : Prop where
  ex : Same F F'
  keep : Same H H'
  sub : Same F' H'
  new : forall a o, H a = some o -> F' a = F a
/-- .. but for a zone Z that may change -/
structure GrZ (Z : Addr -> Prop) (F H F' H' : Hp) : Prop where
  ex : Same F F'
  keep : forall a o, ¬ Z a -> H a = some o -> H' a = some o
  dom : forall a o, H a = some o -> exists o', H' a = some o'
  sub : Same F' H'
  new : forall a o, H a = some o -> F' a = F a
abbrev Z0 : Addr -> Prop := fun _ => False
section
variable {Z : Addr -> Prop} {F H F1 H1 F2 H2 : Hp} {p : Addr} {o : HO}
theorem Gr.refl (s : Same F H) : Gr F H F H := ⟨Same.refl F, Same.refl H, s, fun _ _ _ => rfl⟩
theorem Gr.self (H : Hp) : Gr H H H H := Gr.refl (Same.refl H)
theorem Gr.trans (a : Gr F H F1 H1) (b : Gr F1 H1 F2 H2) : Gr F H F2 H2 :=
  ⟨a.ex.trans b.ex, a.keep.trans b.keep, b.sub, fun x o e => (b.new x o (a.keep x o e)).trans (a.new x o e)⟩
theorem same_upd (s : Same F H) : Same (upd F p o) (upd H p o) := fun a u e => by
  by_cases h : a = p
  · subst h; rw [upd_same] at e ⊢; exact e
  · rw [upd_ne h] at e ⊢; exact s a u e
theorem same_new (h : H p = none) : Same H (upd H p o) := fun a u e => by
  rw [upd_ne (ne_of_none e h)]; exact e
theorem same_mut (s : Same F H) (h : F p = none) : Same F (upd H p o) := fun a u e => by
  rw [upd_ne (ne_of_none e h)]; exact s a u e
theorem same_in (s : Same F H) (h : H p = some o) : Same (upd F p o) H := fun a u e => by
  by_cases q : a = p
  · subst q; rw [upd_same] at e; rw [h]; exact e
  · rw [upd_ne q] at e; exact s a u e
theorem none_of (s : Same F H) (h : H p = none) : F p = none := Same.free s h
/-- a new frozen object -/
theorem Gr.lay (s : Same F H) (h : H p = none) : Gr F H (upd F p o) (upd H p o) :=
  ⟨same_new (none_of s h), same_new h, same_upd s, fun a u e => upd_ne (ne_of_none e h)⟩
/-- a new object that may change still -/
theorem Gr.put (s : Same F H) (h : H p = none) : Gr F H F (upd H p o) :=
  ⟨Same.refl F, same_new h, same_mut s (none_of s h), fun _ _ _ => rfl⟩
/-- the whole grew, the frozen part stays -/
theorem Gr.up (s : Same F H) (e : Same H H1) : Gr F H F H1 := ⟨Same.refl F, e, s.trans e, fun _ _ _ => rfl⟩
/-- an object new since H is frozen now -/
theorem Gr.ice (g : Gr F H F1 H1) (n : H p = none) (e : H1 p = some o) (f : F1 p = none) : Gr F H (upd F1 p o) H1 :=
  ⟨g.ex.trans (same_new f), g.keep, same_in g.sub e, fun a u q => (upd_ne (ne_of_none q n)).trans (g.new a u q)⟩
theorem Gr.whole (e : Same H H1) : Gr H H H1 H1 := ⟨e, e, Same.refl H1, fun a o q => by rw [q]; exact e a o q⟩
theorem GrZ.refl (s : Same F H) : GrZ Z F H F H := ⟨Same.refl F, fun _ _ _ e => e, fun _ o e => ⟨o, e⟩, s, fun _ _ _ => rfl⟩
theorem GrZ.of (g : Gr F H F1 H1) : GrZ Z F H F1 H1 := ⟨g.ex, fun a o _ e => g.keep a o e, fun a o e => ⟨o, g.keep a o e⟩, g.sub, g.new⟩
theorem GrZ.gr (g : GrZ Z0 F H F1 H1) : Gr F H F1 H1 := ⟨g.ex, fun a o e => g.keep a o (fun z => z) e, g.sub, g.new⟩
theorem GrZ.then (a : GrZ Z F H F1 H1) (b : Gr F1 H1 F2 H2) : GrZ Z F H F2 H2 :=
  ⟨a.ex.trans b.ex, fun x o z e => b.keep x o (a.keep x o z e), fun x o e => let ⟨o', e'⟩ := a.dom x o e; ⟨o', b.keep x o' e'⟩, b.sub,
    fun x o e => let ⟨o', e'⟩ := a.dom x o e; (b.new x o' e').trans (a.new x o e)⟩
theorem GrZ.thenZ {Y : Addr -> Prop} (a : GrZ Z F H F1 H1) (b : GrZ Y F1 H1 F2 H2) (hy : forall x, Y x -> Z x ∨ H x = none) : GrZ Z F H F2 H2 :=
  ⟨a.ex.trans b.ex, fun x o z e => b.keep x o (fun y => (hy x y).elim z fun n => by rw [n] at e; cases e) (a.keep x o z e),
    fun x o e => let ⟨o', e'⟩ := a.dom x o e; b.dom x o' e', b.sub, fun x o e => let ⟨o', e'⟩ := a.dom x o e; (b.new x o' e').trans (a.new x o e)⟩
/-- an object new since H is changed -/
theorem GrZ.mut (a : GrZ Z F H F1 H1) (n : H p = none) (f : F1 p = none) : GrZ Z F H F1 (upd H1 p o) :=
  ⟨a.ex, fun x u z e => by rw [upd_ne (ne_of_none e n)]; exact a.keep x u z e, fun x u e => by rw [upd_ne (ne_of_none e n)]; exact a.dom x u e, same_mut a.sub f, a.new⟩
theorem GrZ.ice (g : GrZ Z F H F1 H1) (n : H p = none) (e : H1 p = some o) (f : F1 p = none) : GrZ Z F H (upd F1 p o) H1 :=
  ⟨g.ex.trans (same_new f), g.keep, g.dom, same_in g.sub e, fun a u q => (upd_ne (ne_of_none q n)).trans (g.new a u q)⟩
end

/-! ### what a value stands for -/
/-- all that stood stands, but that dicts may be locked and unlocked -/
def Le (F F' : Hp) : Prop := forall a o, F a = some o -> F' a = some o ∨ (exists ob kvs, o = .dK kvs ∧ F' a = some (.frz ob (.dK kvs))) ∨ exists ob kvs, o = .frz ob (.dK kvs) ∧ F' a = some (.dK kvs)
theorem Le.of {F F' : Hp} (s : Same F F') : Le F F' := fun a o e => .inl (s a o e)
theorem Le.at_ {F F' : Hp} {a : Addr} {o : HO} (l : Le F F') (h : F a = some o) (n1 : forall kvs, o ≠ .dK kvs) (n2 : forall ob kvs, o ≠ .frz ob (.dK kvs)) : F' a = some o := by
  rcases l a o h with h | ⟨ob, kvs, e, _⟩ | ⟨ob, kvs, e, _⟩
  · exact h
  · exact (n1 _ e).elim
  · exact (n2 _ _ e).elim
theorem Le.lst {F F' : Hp} {a : Addr} {xs : List V} (l : Le F F') (h : F a = some (.lst xs)) : F' a = some (.lst xs) := l.at_ h (fun _ z => nomatch z) (fun _ _ z => nomatch z)
theorem Le.tup {F F' : Hp} {a : Addr} {xs : List V} (l : Le F F') (h : F a = some (.tup xs)) : F' a = some (.tup xs) := l.at_ h (fun _ z => nomatch z) (fun _ _ z => nomatch z)
theorem Le.ext {F F' : Hp} {a : Addr} {φ : Heap -> Prop} (l : Le F F') (h : F a = some (.ext φ)) : F' a = some (.ext φ) := l.at_ h (fun _ z => nomatch z) (fun _ _ z => nomatch z)
theorem Le.dT {F F' : Hp} {a : Addr} {kvs : List (List Key × V)} (l : Le F F') (h : F a = some (.dT kvs)) : F' a = some (.dT kvs) := l.at_ h (fun _ z => nomatch z) (fun _ _ z => nomatch z)
theorem Le.dK {F F' : Hp} {a : Addr} {kvs : List (Key × V)} (l : Le F F') (h : Rd F a (.dK kvs)) : Rd F' a (.dK kvs) := by
  rcases h with h | ⟨o, h⟩
  · rcases l a _ h with h | ⟨ob, k2, e, h⟩ | ⟨ob, k2, e, h⟩
    · exact .inl h
    · cases e; exact .inr ⟨_, h⟩
    · cases e
  · rcases l a _ h with h | ⟨ob, k2, e, h⟩ | ⟨ob, k2, e, h⟩
    · exact .inr ⟨_, h⟩
    · cases e
    · cases e; exact .inl h
theorem Le.sqL {K : Fg} {F F' : Hp} {a : Addr} {xs : List V} (l : Le F F') (h : SqL K F a xs) : SqL K F' a xs := by
  rcases h with (h | ⟨o, h⟩) | h
  · exact .inl (.inl (l.lst h))
  · exact .inl (.inr ⟨o, l.at_ h (fun _ z => nomatch z) (fun _ _ z => nomatch z)⟩)
  · exact .inr h
theorem Le.lock {F : Hp} {a : Addr} {ob : Obj} {kvs : List (Key × V)} (h : F a = some (.dK kvs)) : Le F (upd F a (.frz ob (.dK kvs))) := fun b o e => by
  by_cases q : b = a
  · subst q; rw [h] at e; cases e; exact .inr (.inl ⟨ob, kvs, rfl, upd_same⟩)
  · exact .inl (by rw [upd_ne q]; exact e)
theorem Le.unlock {F : Hp} {a : Addr} {ob : Obj} {kvs : List (Key × V)} (h : F a = some (.frz ob (.dK kvs))) : Le F (upd F a (.dK kvs)) := fun b o e => by
  by_cases q : b = a
  · subst q; rw [h] at e; cases e; exact .inr (.inr ⟨ob, kvs, rfl, upd_same⟩)
  · exact .inl (by rw [upd_ne q]; exact e)
class Rep (α : Type) where
  rp : Fg -> Hp -> α -> V -> Prop
  mono : forall {K : Fg} {F F' : Hp} {x : α} {v : V}, Le F F' -> rp K F x v -> rp K F' x v
open Rep (rp)
theorem up [Rep α] {K : Fg} {F F' : Hp} {x : α} {v : V} (s : Same F F') (h : rp K F x v) : rp K F' x v := Rep.mono (Le.of s) h
/-- nothing of it stands in the heap -/
class Flat (α : Type) [Rep α] where
  val : α -> V
  is : forall {K : Fg} {F : Hp} {x : α} {v : V}, rp K F x v -> v = val x
  of : forall {K : Fg} {F : Hp} (x : α), rp K F x (val x)
instance : Rep Int := ⟨fun _ _ x v => v = .int x, fun _ h => h⟩
instance : Rep Bool := ⟨fun _ _ x v => v = .bl x, fun _ h => h⟩
instance : Rep PySem.Str := ⟨fun _ _ x v => v = .str x, fun _ h => h⟩
instance : Rep Unit := ⟨fun _ _ _ v => v = .non, fun _ h => h⟩
instance : Rep V := ⟨fun _ _ x v => v = x, fun _ h => h⟩
instance : Flat Int := ⟨fun x => .int x, fun h => h, fun _ => rfl⟩
instance : Flat Bool := ⟨fun x => .bl x, fun h => h, fun _ => rfl⟩
instance : Flat PySem.Str := ⟨fun x => .str x, fun h => h, fun _ => rfl⟩
instance : Flat Unit := ⟨fun _ => .non, fun h => h, fun _ => rfl⟩
instance : Flat V := ⟨fun x => x, fun h => h, fun _ => rfl⟩
theorem Flat.any [Rep α] [Flat α] {K : Fg} {F F' : Hp} {x : α} {v : V} (h : rp K F x v) : rp K F' x v := by
  rw [Flat.is h]; exact Flat.of x
/-- None or a thing (that is never None) -/
instance [Rep α] : Rep (Option α) := ⟨fun K F x v => match x with | none => v = .non | some y => rp K F y v, fun {K F F' x v} s h => by
  cases x with
  | none => exact h
  | some y => exact Rep.mono (x := y) s h⟩
instance [Rep α] [Flat α] : Flat (Option α) := ⟨fun x => match x with | none => .non | some y => Flat.val y, fun {K F x v} h => by
  cases x with
  | none => exact h
  | some y => exact Flat.is (K := K) (F := F) (x := y) h, fun {K F} x => by
  cases x with
  | none => exact (rfl : V.non = V.non)
  | some y => exact Flat.of (K := K) (F := F) y⟩
abbrev Rps [Rep α] (K : Fg) (F : Hp) (xs : List α) (vs : List V) : Prop := Paired (rp K F) xs vs
theorem rps_le [Rep α] {K : Fg} {F F' : Hp} {xs : List α} {vs : List V} (s : Le F F') (h : Rps K F xs vs) : Rps K F' xs vs := Paired.mono (fun _ _ r => Rep.mono s r) h
theorem rps_mono [Rep α] {K : Fg} {F F' : Hp} {xs : List α} {vs : List V} (s : Same F F') (h : Rps K F xs vs) : Rps K F' xs vs := rps_le (Le.of s) h
theorem rps_flat [Rep α] [Flat α] {K : Fg} {F : Hp} : forall {xs : List α} {vs : List V}, Rps K F xs vs -> vs = xs.map Flat.val
  | _, _, .nil => rfl
  | _, _, .cons r t => by rw [Flat.is r, rps_flat t]; rfl
theorem rps_of [Rep α] [Flat α] {K : Fg} {F : Hp} : forall (xs : List α), Rps K F xs (xs.map Flat.val)
  | [] => .nil
  | x :: r => .cons (Flat.of x) (rps_of r)
theorem rps_app [Rep α] {K : Fg} {F : Hp} : forall {xs ys : List α} {vs ws : List V}, Rps K F xs vs -> Rps K F ys ws -> Rps K F (xs ++ ys) (vs ++ ws)
  | _, _, _, _, .nil, s => s
  | _, _, _, _, .cons r t, s => .cons r (rps_app t s)
theorem same_sqT {K : Fg} {H H' : Hp} {a : Addr} {xs : List V} (e : Same H H') (h : SqT K H a xs) : SqT K H' a xs := by
  rcases h with (h | ⟨o, h⟩) | h
  · exact .inl (.inl (e _ _ h))
  · exact .inl (.inr ⟨o, e _ _ h⟩)
  · exact .inr h
theorem same_rd {H H' : Hp} {a : Addr} {u : HO} (e : Same H H') (h : Rd H a u) : Rd H' a u := by
  rcases h with h | ⟨o, h⟩
  · exact .inl (e _ _ h)
  · exact .inr ⟨o, e _ _ h⟩
/-- a list -/
instance [Rep α] : Rep (List α) := ⟨fun K F xs v => exists a vs, v = .ref a ∧ F a = some (.lst vs) ∧ Rps K F xs vs, fun s ⟨a, vs, e, q, r⟩ => ⟨a, vs, e, s.lst q, rps_le s r⟩⟩
/-- the law's script -/
structure Scr where
  l : List Int
instance : Rep Scr := ⟨fun K F x v => exists a, v = .ref a ∧ SqL K F a (x.l.map V.int), fun s ⟨a, e, q⟩ => ⟨a, e, s.sqL q⟩⟩
/-- the items of a tuple: α × β × γ is a triple -/
class RepT (α : Type) where
  rt : Fg -> Hp -> α -> List V -> Prop
  mono : forall {K : Fg} {F F' : Hp} {x : α} {vs : List V}, Le F F' -> rt K F x vs -> rt K F' x vs
instance (priority := low) [Rep α] : RepT α := ⟨fun K F x vs => exists v, vs = [v] ∧ rp K F x v, fun s ⟨v, e, r⟩ => ⟨v, e, Rep.mono s r⟩⟩
instance (priority := high) [Rep α] [RepT β] : RepT (α × β) := ⟨fun K F x vs => exists v r, vs = v :: r ∧ rp K F x.1 v ∧ RepT.rt K F x.2 r, fun s ⟨v, r, e, h, t⟩ => ⟨v, r, e, Rep.mono s h, RepT.mono s t⟩⟩
instance [Rep α] [RepT β] : Rep (α × β) := ⟨fun K F x v => exists a vs, v = .ref a ∧ F a = some (.tup vs) ∧ RepT.rt K F x vs, fun s ⟨a, vs, e, q, r⟩ => ⟨a, vs, e, s.tup q, RepT.mono s r⟩⟩
/-- a pair (of zip, enumerate, items), whatever its items are -/
structure Pr (α β : Type) where
  fst : α
  snd : β
instance [Inhabited α] [Inhabited β] : Inhabited (Pr α β) := ⟨⟨default, default⟩⟩
instance [Rep α] [Rep β] : Rep (Pr α β) := ⟨fun K F x v => exists a v1 v2, v = .ref a ∧ F a = some (.tup [v1, v2]) ∧ rp K F x.fst v1 ∧ rp K F x.snd v2, fun s ⟨a, v1, v2, e, q, r1, r2⟩ => ⟨a, v1, v2, e, s.tup q, Rep.mono s r1, Rep.mono s r2⟩⟩
/-- a tuple of any length of things of one kind -/
structure Tup (α : Type) where
  l : List α
instance [Rep α] : Rep (Tup α) := ⟨fun K F xs v => exists a vs, v = .ref a ∧ F a = some (.tup vs) ∧ Rps K F xs.l vs, fun s ⟨a, vs, e, q, r⟩ => ⟨a, vs, e, s.tup q, rps_le s r⟩⟩

/-! ### lists of our own that may change still -/
structure MutL [Rep α] (K : Fg) (F H : Hp) (p : Addr) (xs : List α) : Prop where
  fr : F p = none
  at_ : exists vs, H p = some (.lst vs) ∧ Rps K F xs vs
section
variable [Rep α] {K : Fg} {F H F1 H1 : Hp} {p q : Addr} {xs : List α} {x : α} {v : V} {o : HO}
theorem MutL.go (m : MutL K F H p xs) (g : Gr F H F1 H1) : MutL K F1 H1 p xs := by
  obtain ⟨f, vs, e, r⟩ := m
  exact ⟨(g.new p _ e).trans f, vs, g.keep p _ e, rps_mono g.ex r⟩
theorem MutL.grow (m : MutL K F H p xs) (g : Same H H1) : MutL K F H1 p xs := by
  obtain ⟨f, vs, e, r⟩ := m
  exact ⟨f, vs, g p _ e, r⟩
theorem MutL.past (m : MutL K F H p xs) (n : p ≠ q) : MutL K F (upd H q o) p xs := by
  obtain ⟨f, vs, e, r⟩ := m
  exact ⟨f, vs, by rw [upd_ne n]; exact e, r⟩
theorem MutL.ne (m : MutL K F H p xs) (h : H q = none) : p ≠ q := by
  obtain ⟨f, vs, e, r⟩ := m
  exact ne_of_none e h
/-- read as it stands -/
theorem MutL.rd (m : MutL K F H p xs) (s : Same F H) : rp K H xs (.ref p) := by
  obtain ⟨f, vs, e, r⟩ := m
  exact ⟨p, vs, rfl, e, rps_mono s r⟩
/-- frozen for good -/
theorem MutL.ice (m : MutL K F H p xs) : exists vs, H p = some (.lst vs) ∧ rp K (upd F p (.lst vs)) xs (.ref p) := by
  obtain ⟨f, vs, e, r⟩ := m
  exact ⟨vs, e, p, vs, rfl, upd_same, rps_mono (same_new f) r⟩
end

/-! ### what a reading gives -/
def Tv [Rep α] (K : Fg) (te : TE) (σ : St) (F H : Hp) (x : α) : Prop :=
  forall F1 H1, Gr F H F1 H1 -> forall Q : VK, (forall F2 H2 v, Gr F1 H1 F2 H2 -> rp K F2 x v -> Q v H2) -> te σ H1 Q
def Tt (tt : TT) (σ : St) (H : Hp) (b : Bool) : Prop :=
  forall H1, Same H H1 -> forall Q : Bool -> Hp -> Prop, (forall H2, Same H1 H2 -> Q b H2) -> tt σ H1 Q
def TvA (ta : TA) (σ : St) (F H : Hp) (P : Hp -> List V -> Prop) : Prop :=
  forall F1 H1, Gr F H F1 H1 -> forall Q : List V -> Hp -> Prop, (forall F2 H2 vs, Gr F1 H1 F2 H2 -> P F2 vs -> Q vs H2) -> ta σ H1 Q
/-- a new list, whose items are xs -/
def TvL [Rep α] (K : Fg) (te : TE) (σ : St) (F H : Hp) (xs : List α) : Prop :=
  forall F1 H1, Gr F H F1 H1 -> forall Q : VK, (forall F2 H2 p, Gr F1 H1 F2 H2 -> H1 p = none -> MutL K F2 H2 p xs -> Q (.ref p) H2) -> te σ H1 Q
section
variable {K : Fg} {σ : St} {F H F1 H1 : Hp} {ta tb te : TE} {tt tu : TT} {i : Nat} {v : V}
theorem Tv.mono [Rep α] {x : α} (g : Gr F H F1 H1) (h : Tv K te σ F H x) : Tv K te σ F1 H1 x := fun F2 H2 k => h F2 H2 (g.trans k)
/-- a flat value by the whole heap -/
theorem tv_flat [Rep α] [Flat α] {x : α} (h : Tv K te σ H H x) : Tv K te σ F H x := fun F1 H1 g Q q =>
  h H1 H1 (Gr.whole g.keep) Q fun F2 H2 v g2 r => q F1 H2 v (Gr.up g.sub g2.keep) (Flat.any r)
theorem TvL.tv [Rep α] {xs : List α} (h : TvL K te σ F H xs) : Tv K te σ F H xs := fun F1 H1 g Q q =>
  h F1 H1 g Q fun F2 H2 p g2 n m => by
    obtain ⟨vs, e, r⟩ := m.ice
    exact q _ H2 _ (g2.ice n e m.fr) r
theorem tv_var [Rep α] {x : α} (e : σ[i]? = some (some v)) (h : rp K F x v) : Tv K (tVar i) σ F H x := fun F1 H1 g Q q =>
  ⟨v, e, q F1 H1 v (Gr.refl g.sub) (up g.ex h)⟩
theorem tv_c [Rep α] {x : α} (h : forall F, rp K F x v) : Tv K (tC v) σ F H x := fun F1 H1 g Q q => q F1 H1 v (Gr.refl g.sub) (h F1)
theorem tv_int {i : Int} : Tv K (tC (.int i)) σ F H i := tv_c fun _ => rfl
theorem tv_str {s : PySem.Str} : Tv K (tC (.str s)) σ F H s := tv_c fun _ => rfl
theorem tv_bl {b : Bool} : Tv K (tC (.bl b)) σ F H b := tv_c fun _ => rfl
theorem tv_non : Tv K (tC .non) σ F H () := tv_c fun _ => rfl
theorem tv_noneO [Rep α] : Tv K (tC .non) σ F H (none : Option α) := tv_c fun _ => rfl
theorem tv_some [Rep α] {x : α} (h : Tv K te σ F H x) : Tv K te σ F H (some x) := fun F1 H1 g Q q => h F1 H1 g Q fun F2 H2 v g2 r => q F2 H2 v g2 r
theorem Tv.is [Rep α] {x y : α} (h : Tv K te σ F H x) (e : x = y) : Tv K te σ F H y := e ▸ h
/-- two in a row -/
theorem tv_bin [Rep α] [Rep β] {x : α} {y : β} (ha : Tv K ta σ F H x) (hb : Tv K tb σ F H y) {R : V -> V -> Hp -> Prop} (g : Gr F H F1 H1)
    (k : forall F2 H2 v w, Gr F1 H1 F2 H2 -> rp K F2 x v -> rp K F2 y w -> R v w H2) : ta σ H1 fun v H2 => tb σ H2 fun w H3 => R v w H3 :=
  ha F1 H1 g _ fun F2 H2 v g2 r => hb F2 H2 (g.trans g2) _ fun F3 H3 w g3 r' => k F3 H3 v w (g2.trans g3) (up g3.ex r) r'
/-- an operator by values -/
def Op2 [Rep α] [Rep β] [Rep γ] (K : Fg) (r : R2) (x : α) (y : β) (z : γ) : Prop :=
  forall F H v w, Same F H -> rp K F x v -> rp K F y w -> forall Q : VK, (forall F2 H2 u, Gr F H F2 H2 -> rp K F2 z u -> Q u H2) -> r v w H Q
theorem tv_op [Rep α] [Rep β] [Rep γ] {x : α} {y : β} {z : γ} {r : R2} (ha : Tv K ta σ F H x) (hb : Tv K tb σ F H y) (ho : Op2 K r x y z) : Tv K (tOp r ta tb) σ F H z := fun F1 H1 g Q q =>
  tv_bin (R := fun v w H => r v w H Q) ha hb g fun F2 H2 v w g2 r1 r2 => ho F2 H2 v w g2.sub r1 r2 Q fun F3 H3 u g3 ru => q F3 H3 u (g2.trans g3) ru
theorem op2_I0 {f : Int -> Int -> V} [Rep γ] {i j : Int} {z : γ} (h : forall F, rp K F z (f i j)) : Op2 K (rI0 f) i j z := fun F H v w s r1 r2 Q q =>
  ⟨i, j, r1, r2, q F H _ (Gr.refl s) (h F)⟩
theorem op2_I {C : Int -> Int -> Prop} {f : Int -> Int -> V} [Rep γ] {i j : Int} {z : γ} (c : C i j) (h : forall F, rp K F z (f i j)) : Op2 K (rI C f) i j z := fun F H v w s r1 r2 Q q =>
  ⟨i, j, r1, r2, c, q F H _ (Gr.refl s) (h F)⟩
theorem op2_add {i j : Int} : Op2 K (rI0 fun i j => .int (i + j)) i j (i + j) := op2_I0 fun _ => rfl
theorem op2_sub {i j : Int} : Op2 K (rI0 fun i j => .int (i - j)) i j (i - j) := op2_I0 fun _ => rfl
theorem op2_mul {i j : Int} (c : CMul i j) : Op2 K (rI CMul fun i j => .int (i * j)) i j (i * j) := op2_I c fun _ => rfl
theorem op2_div {i j : Int} (c : CDiv i j) : Op2 K (rI CDiv fun i j => .int (i / j)) i j (i / j) := op2_I c fun _ => rfl
theorem op2_mod {i j : Int} (c : 0 < j) : Op2 K (rI (fun _ j => 0 < j) fun i j => .int (i % j)) i j (i % j) := op2_I c fun _ => rfl
theorem op2_lt {i j : Int} : Op2 K (rI0 fun i j => .bl (decide (i < j))) i j (decide (i < j)) := op2_I0 fun _ => rfl
theorem op2_le {i j : Int} : Op2 K (rI0 fun i j => .bl (decide (i ≤ j))) i j (decide (i ≤ j)) := op2_I0 fun _ => rfl
theorem op2_gt {i j : Int} : Op2 K (rI0 fun i j => .bl (decide (j < i))) i j (decide (j < i)) := op2_I0 fun _ => rfl
theorem op2_ge {i j : Int} : Op2 K (rI0 fun i j => .bl (decide (j ≤ i))) i j (decide (j ≤ i)) := op2_I0 fun _ => rfl
theorem op2_shr {i j : Int} (c : 0 ≤ j) : Op2 K (rI (fun _ j => 0 ≤ j) fun i j => .int (i / 2 ^ j.toNat)) i j (i / 2 ^ j.toNat) := op2_I c fun _ => rfl
theorem op2_shl {i j : Int} (c : CPow i j) : Op2 K (rI CPow fun i j => .int (i * 2 ^ j.toNat)) i j (i * 2 ^ j.toNat) := op2_I c fun _ => rfl
theorem op2_pow {i j : Int} (c : CPow i j) : Op2 K (rI CPow fun i j => .int (i ^ j.toNat)) i j (i ^ j.toNat) := op2_I c fun _ => rfl
theorem op2_band {i j : Int} : Op2 K (rI0 fun i j => .int (Builtin.bitAnd i j)) i j (Builtin.bitAnd i j) := op2_I0 fun _ => rfl
theorem op2_bor {i j : Int} : Op2 K (rI0 fun i j => .int (Builtin.bitOr i j)) i j (Builtin.bitOr i j) := op2_I0 fun _ => rfl
theorem op2_eqI {i j : Int} : Op2 K rEq i j (decide (i = j)) := fun F H v w s r1 r2 Q q => by
  cases r1; cases r2
  exact ⟨rfl, q F H _ (Gr.refl s) (by show V.bl _ = V.bl _; congr 1; exact decide_eq_decide.mpr ⟨fun h => V.int.inj h, fun h => by rw [h]⟩)⟩
theorem op2_neI {i j : Int} : Op2 K rNe i j (!decide (i = j)) := fun F H v w s r1 r2 Q q => by
  cases r1; cases r2
  exact ⟨rfl, q F H _ (Gr.refl s) (by show V.bl _ = V.bl _; congr 2; exact decide_eq_decide.mpr ⟨fun h => V.int.inj h, fun h => by rw [h]⟩)⟩
theorem op2_eqB {i j : Bool} : Op2 K rEq i j (decide (i = j)) := fun F H v w s r1 r2 Q q => by
  cases r1; cases r2
  exact ⟨rfl, q F H _ (Gr.refl s) (by show V.bl _ = V.bl _; congr 1; exact decide_eq_decide.mpr ⟨fun h => V.bl.inj h, fun h => by rw [h]⟩)⟩
theorem op2_neB {i j : Bool} : Op2 K rNe i j (!decide (i = j)) := fun F H v w s r1 r2 Q q => by
  cases r1; cases r2
  exact ⟨rfl, q F H _ (Gr.refl s) (by show V.bl _ = V.bl _; congr 2; exact decide_eq_decide.mpr ⟨fun h => V.bl.inj h, fun h => by rw [h]⟩)⟩
theorem op2_eqS {i j : PySem.Str} : Op2 K rEq i j (decide (i = j)) := fun F H v w s r1 r2 Q q => by
  cases r1; cases r2
  exact ⟨rfl, q F H _ (Gr.refl s) (by show V.bl _ = V.bl _; congr 1; exact decide_eq_decide.mpr ⟨fun h => V.str.inj h, fun h => by rw [h]⟩)⟩
theorem op2_neS {i j : PySem.Str} : Op2 K rNe i j (!decide (i = j)) := fun F H v w s r1 r2 Q q => by
  cases r1; cases r2
  exact ⟨rfl, q F H _ (Gr.refl s) (by show V.bl _ = V.bl _; congr 2; exact decide_eq_decide.mpr ⟨fun h => V.str.inj h, fun h => by rw [h]⟩)⟩
/-- tests -/
theorem tt_test {b : Bool} (h : Tv K te σ H H b) : Tt (tTest te) σ H b := fun H1 e Q q => h H1 H1 (Gr.whole e) _ fun F2 H2 v g r => ⟨b, r, q H2 g.keep⟩
theorem tt_B {b : Bool} (h : Tv K te σ H H b) : Tt (tB te) σ H b := fun H1 e Q q => h H1 H1 (Gr.whole e) _ fun F2 H2 v g r => ⟨b, r, q H2 g.keep⟩
theorem tt_and {a b : Bool} (h1 : Tt tt σ H a) (h2 : a = true -> Tt tu σ H b) : Tt (tAnd tt tu) σ H (a && b) := fun H1 e Q q => h1 H1 e _ fun H2 e2 => by
  cases a with
  | true => exact h2 rfl H2 (e.trans e2) Q fun H3 e3 => q H3 (e2.trans e3)
  | false => exact q H2 e2
theorem tt_or {a b : Bool} (h1 : Tt tt σ H a) (h2 : a = false -> Tt tu σ H b) : Tt (tOr tt tu) σ H (a || b) := fun H1 e Q q => h1 H1 e _ fun H2 e2 => by
  cases a with
  | true => exact q H2 e2
  | false => exact h2 rfl H2 (e.trans e2) Q fun H3 e3 => q H3 (e2.trans e3)
theorem tt_not {a : Bool} (h1 : Tt tt σ H a) : Tt (tNot tt) σ H (!a) := fun H1 e Q q => h1 H1 e _ fun H2 e2 => q H2 e2
theorem Tt.is {a b : Bool} (h : Tt tt σ H a) (e : a = b) : Tt tt σ H b := e ▸ h
theorem tv_and {a b : Bool} (h1 : Tv K ta σ H H a) (h2 : a = true -> Tv K tb σ H H b) : Tv K (tAndV ta tb) σ H H (a && b) := fun F1 H1 g Q q => h1 F1 H1 g _ fun F2 H2 v g2 r => ⟨a, r, by
  cases a with
  | true => exact h2 rfl F2 H2 (g.trans g2) Q fun F3 H3 w g3 r3 => q F3 H3 w (g2.trans g3) r3
  | false => exact q F2 H2 _ g2 rfl⟩
theorem tv_or {a b : Bool} (h1 : Tv K ta σ H H a) (h2 : a = false -> Tv K tb σ H H b) : Tv K (tOrV ta tb) σ H H (a || b) := fun F1 H1 g Q q => h1 F1 H1 g _ fun F2 H2 v g2 r => ⟨a, r, by
  cases a with
  | true => exact q F2 H2 _ g2 rfl
  | false => exact h2 rfl F2 H2 (g.trans g2) Q fun F3 H3 w g3 r3 => q F3 H3 w (g2.trans g3) r3⟩
theorem tv_not {a : Bool} (h1 : Tv K ta σ H H a) : Tv K (tNotV ta) σ H H (!a) := fun F1 H1 g Q q => h1 F1 H1 g _ fun F2 H2 v g2 r => ⟨a, r, q F2 H2 _ g2 rfl⟩
/-- a if c else b -/
theorem tv_if [Rep α] {c : Bool} {x y : α} (hc : Tt tt σ H c) (h1 : c = true -> Tv K ta σ F H x) (h2 : c = false -> Tv K tb σ F H y) : Tv K (tIf tt ta tb) σ F H (cond c x y) := fun F1 H1 g Q q => hc H1 g.keep _ fun H2 e2 => by
  cases c with
  | true => exact h1 rfl F1 H2 (g.trans (Gr.up g.sub e2)) Q fun F3 H3 w g3 r3 => q F3 H3 w ((Gr.up g.sub e2).trans g3) r3
  | false => exact h2 rfl F1 H2 (g.trans (Gr.up g.sub e2)) Q fun F3 H3 w g3 r3 => q F3 H3 w ((Gr.up g.sub e2).trans g3) r3
/-! ### arguments, displays, calls -/
theorem ta_nil : TvA tNil σ F H (fun _ vs => vs = []) := fun F1 H1 g Q q => q F1 H1 [] (Gr.refl g.sub) rfl
theorem ta_cons [Rep α] {x : α} {tr : TA} {P : Hp -> List V -> Prop} (h : Tv K te σ F H x) (hr : TvA tr σ F H P) : TvA (tCons te tr) σ F H (fun F vs => exists v r, vs = v :: r ∧ rp K F x v ∧ P F r) := fun F1 H1 g Q q =>
  h F1 H1 g _ fun F2 H2 v g2 r => hr F2 H2 (g.trans g2) _ fun F3 H3 vs g3 p => q F3 H3 (v :: vs) (g2.trans g3) ⟨v, vs, rfl, up g3.ex r, p⟩
/-- things of one kind -/
theorem ta_rnil [Rep α] : TvA tNil σ F H (fun F vs => Rps K F ([] : List α) vs) := fun F1 H1 g Q q => q F1 H1 [] (Gr.refl g.sub) .nil
theorem ta_rcons [Rep α] {x : α} {xs : List α} {tr : TA} (h : Tv K te σ F H x) (hr : TvA tr σ F H (fun F vs => Rps K F xs vs)) : TvA (tCons te tr) σ F H (fun F vs => Rps K F (x :: xs) vs) := fun F1 H1 g Q q =>
  h F1 H1 g _ fun F2 H2 v g2 r => hr F2 H2 (g.trans g2) _ fun F3 H3 vs g3 p => q F3 H3 (v :: vs) (g2.trans g3) (.cons (up g3.ex r) p)
/-- a tuple's items -/
theorem ta_t1 [Rep α] {x : α} (h : Tv K te σ F H x) : TvA (tCons te tNil) σ F H (fun F vs => exists v, vs = [v] ∧ rp K F x v) := fun F1 H1 g Q q =>
  h F1 H1 g _ fun F2 H2 v g2 r => q F2 H2 [v] g2 ⟨v, rfl, r⟩
theorem ta_tc [Rep α] [RepT β] {x : α} {y : β} {tr : TA} (h : Tv K te σ F H x) (hr : TvA tr σ F H (fun F vs => RepT.rt K F y vs)) : TvA (tCons te tr) σ F H (fun F vs => RepT.rt K F (x, y) vs) := fun F1 H1 g Q q =>
  h F1 H1 g _ fun F2 H2 v g2 r => hr F2 H2 (g.trans g2) _ fun F3 H3 vs g3 p => q F3 H3 (v :: vs) (g2.trans g3) ⟨v, vs, rfl, up g3.ex r, p⟩
theorem ta_tl [Rep α] {x : α} (h : Tv K te σ F H x) : TvA (tCons te tNil) σ F H (fun F vs => exists v, vs = [v] ∧ rp K F x v) := ta_t1 h
theorem sz {n : Nat} (h : n ≤ 100000) : n ≤ sizeLine := Nat.le_trans h (by decide)
theorem szl {n : Nat} (h : n < 100000) : n < sizeLine := Nat.lt_of_lt_of_le h (by decide)
theorem tl_lst [Rep α] {xs : List α} {t : TA} (h : TvA t σ F H (fun F vs => Rps K F xs vs)) (hl : xs.length ≤ 100000) : TvL K (tLst t) σ F H xs := fun F1 H1 g Q q =>
  h F1 H1 g _ fun F2 H2 vs g2 r => ⟨by rw [← r.length]; exact sz hl, fun p hp =>
    q F2 (upd H2 p (.lst vs)) p (g2.trans (Gr.put g2.sub hp)) (none_of g2.keep hp) ⟨none_of g2.sub hp, vs, upd_same, r⟩⟩
theorem tv_tup [Rep α] [RepT β] {z : α × β} {t : TA} (h : TvA t σ F H (fun F vs => RepT.rt K F z vs)) (hl : forall F vs, RepT.rt K F z vs -> vs.length ≤ 100000) : Tv K (tTup t) σ F H z := fun F1 H1 g Q q =>
  h F1 H1 g _ fun F2 H2 vs g2 r => ⟨sz (hl F2 vs r), fun p hp => q (upd F2 p (.tup vs)) (upd H2 p (.tup vs)) _ (g2.trans (Gr.lay g2.sub hp)) ⟨p, vs, rfl, upd_same, RepT.mono (Le.of <| same_new (none_of g2.sub hp)) r⟩⟩
theorem tv_tupN [Rep α] {xs : List α} {t : TA} (h : TvA t σ F H (fun F vs => Rps K F xs vs)) (hl : xs.length ≤ 100000) : Tv K (tTup t) σ F H (Tup.mk xs) := fun F1 H1 g Q q =>
  h F1 H1 g _ fun F2 H2 vs g2 r => ⟨by rw [← r.length]; exact sz hl, fun p hp => q (upd F2 p (.tup vs)) (upd H2 p (.tup vs)) _ (g2.trans (Gr.lay g2.sub hp)) ⟨p, vs, rfl, upd_same, rps_mono (same_new (none_of g2.sub hp)) r⟩⟩
/-- a promise: of such arguments such a value; a new list -/
def SpV [Rep β] (K : Fg) (sp : Sp) (P : Hp -> List V -> Prop) (y : β) : Prop := forall F H vs Q E, Same F H -> P F vs -> (forall F' H' r, Gr F H F' H' -> rp K F' y r -> Q r H') -> sp vs H Q E
def SpL [Rep β] (K : Fg) (sp : Sp) (P : Hp -> List V -> Prop) (ys : List β) : Prop := forall F H vs Q E, Same F H -> P F vs -> (forall F' H' p, Gr F H F' H' -> H p = none -> MutL K F' H' p ys -> Q (.ref p) H') -> sp vs H Q E
theorem tv_call [Rep β] {y : β} {t : TA} {sp : Sp} {E : XK} {P : Hp -> List V -> Prop} (h : TvA t σ F H P) (hs : SpV K sp P y) : Tv K (tCall sp [] E t) σ F H y := fun F1 H1 g Q q =>
  h F1 H1 g _ fun F2 H2 vs g2 p => hs F2 H2 (vs ++ []) Q E g2.sub (by rw [List.append_nil]; exact p) fun F3 H3 r g3 rr => q F3 H3 r (g2.trans g3) rr
theorem tl_call [Rep β] {ys : List β} {t : TA} {sp : Sp} {E : XK} {P : Hp -> List V -> Prop} (h : TvA t σ F H P) (hs : SpL K sp P ys) : TvL K (tCall sp [] E t) σ F H ys := fun F1 H1 g Q q =>
  h F1 H1 g _ fun F2 H2 vs g2 p => hs F2 H2 (vs ++ []) Q E g2.sub (by rw [List.append_nil]; exact p) fun F3 H3 a g3 n m => q F3 H3 a (g2.trans g3) (none_of g2.keep n) m
/-- a built-in called, by values -/
def CbV [Rep β] (K : Fg) (r : List V -> Hp -> VK -> Prop) (P : Hp -> List V -> Prop) (y : β) : Prop := forall F H vs (Q : VK), Same F H -> P F vs -> (forall F' H' w, Gr F H F' H' -> rp K F' y w -> Q w H') -> r vs H Q
def CbL [Rep β] (K : Fg) (r : List V -> Hp -> VK -> Prop) (P : Hp -> List V -> Prop) (ys : List β) : Prop := forall F H vs (Q : VK), Same F H -> P F vs -> (forall F' H' p, Gr F H F' H' -> H p = none -> MutL K F' H' p ys -> Q (.ref p) H') -> r vs H Q
theorem tv_cb [Rep β] {y : β} {t : TA} {r : List V -> Hp -> VK -> Prop} {P : Hp -> List V -> Prop} (h : TvA t σ F H P) (hs : CbV K r P y) : Tv K (tCB r t) σ F H y := fun F1 H1 g Q q =>
  h F1 H1 g _ fun F2 H2 vs g2 p => hs F2 H2 vs Q g2.sub p fun F3 H3 w g3 rr => q F3 H3 w (g2.trans g3) rr
theorem tl_cb [Rep β] {ys : List β} {t : TA} {r : List V -> Hp -> VK -> Prop} {P : Hp -> List V -> Prop} (h : TvA t σ F H P) (hs : CbL K r P ys) : TvL K (tCB r t) σ F H ys := fun F1 H1 g Q q =>
  h F1 H1 g _ fun F2 H2 vs g2 p => hs F2 H2 vs Q g2.sub p fun F3 H3 a g3 n m => q F3 H3 a (g2.trans g3) (none_of g2.keep n) m
end
end Rf

/-! ### the mirrors' words -/
namespace Rf
open PySem L2
open Rep (rp)
@[irreducible] def lt {α β : Type} (e : α) (k : α -> β) : β := k e
@[irreducible] def lt2 {α β γ : Type} (e : α × β) (k : α -> β -> γ) : γ := k e.1 e.2
@[irreducible] def lt3 {α β γ δ : Type} (e : α × β × γ) (k : α -> β -> γ -> δ) : δ := k e.1 e.2.1 e.2.2
@[irreducible] def lt4 {α β γ δ ε : Type} (e : α × β × γ × δ) (k : α -> β -> γ -> δ -> ε) : ε := k e.1 e.2.1 e.2.2.1 e.2.2.2
@[irreducible] def ltP {α β γ : Type} (e : Pr α β) (k : α -> β -> γ) : γ := k e.1 e.2
theorem ltP_eq {α β γ : Type} (e : Pr α β) (k : α -> β -> γ) : ltP e k = k e.1 e.2 := by unfold ltP; rfl
theorem p_ltP {α β γ : Type} (P : γ -> Prop) {a : α} {b : β} {k : α -> β -> γ} (h : P (ltP ⟨a, b⟩ k)) : P (k a b) := by rw [ltP_eq] at h; exact h
theorem lt_eq {α β : Type} (e : α) (k : α -> β) : lt e k = k e := by unfold lt; rfl
theorem lt2_eq {α β γ : Type} (e : α × β) (k : α -> β -> γ) : lt2 e k = k e.1 e.2 := by unfold lt2; rfl
theorem lt3_eq {α β γ δ : Type} (e : α × β × γ) (k : α -> β -> γ -> δ) : lt3 e k = k e.1 e.2.1 e.2.2 := by unfold lt3; rfl
theorem lt4_eq {α β γ δ ε : Type} (e : α × β × γ × δ) (k : α -> β -> γ -> δ -> ε) : lt4 e k = k e.1 e.2.1 e.2.2.1 e.2.2.2 := by unfold lt4; rfl
theorem p_lt {α β : Type} (P : β -> Prop) {e : α} {k : α -> β} (h : P (lt e k)) : P (k e) := by rw [lt_eq] at h; exact h
theorem p_lt2 {α β γ : Type} (P : γ -> Prop) {a : α} {b : β} {k : α -> β -> γ} (h : P (lt2 (a, b) k)) : P (k a b) := by rw [lt2_eq] at h; exact h
theorem p_lt3 {α β γ δ : Type} (P : δ -> Prop) {a : α} {b : β} {c : γ} {k : α -> β -> γ -> δ} (h : P (lt3 (a, b, c) k)) : P (k a b c) := by rw [lt3_eq] at h; exact h
theorem p_lt4 {α β γ δ ε : Type} (P : ε -> Prop) {a : α} {b : β} {c : γ} {d : δ} {k : α -> β -> γ -> δ -> ε} (h : P (lt4 (a, b, c, d) k)) : P (k a b c d) := by rw [lt4_eq] at h; exact h
/-- how a block ends: on, out of the loop, out of the def -/
inductive Fl (S R : Type) where
  | nx (s : S) | bk (s : S) | rt (r : R)
def run {α S R : Type} (body : S -> α -> Fl S R) : S -> List α -> Fl S R
  | s, [] => .nx s
  | s, x :: xs => match body s x with
    | .nx s' => run body s' xs
    | .bk s' => .bk s'
    | .rt r => .rt r
@[irreducible] def fin {S R T : Type} (f : Fl S R) (ret : R -> T) (k : S -> T) : T := match f with
  | .nx s => k s
  | .bk s => k s
  | .rt r => ret r
instance {S R : Type} [Inhabited R] : Inhabited (Fl S R) := ⟨.rt default⟩
theorem fin_nx {S R T : Type} (s : S) (ret : R -> T) (k : S -> T) : fin (Fl.nx s) ret k = k s := by unfold fin; rfl
theorem fin_bk {S R T : Type} (s : S) (ret : R -> T) (k : S -> T) : fin (Fl.bk s) ret k = k s := by unfold fin; rfl
theorem fin_rt {S R T : Type} (r : R) (ret : R -> T) (k : S -> T) : fin (Fl.rt r) ret k = ret r := by unfold fin; rfl
section
variable {α S R : Type} {body : S -> α -> Fl S R}
theorem run_snoc : forall (xs : List α) (s : S) (x : α), run body s (xs ++ [x]) = match run body s xs with
    | .nx s' => body s' x
    | .bk s' => .bk s'
    | .rt r => .rt r
  | [], s, x => by
    show run body s [x] = body s x
    simp only [run]
    cases body s x <;> rfl
  | y :: ys, s, x => by
    simp only [List.cons_append, run]
    cases body s y with
    | nx s' => exact run_snoc ys s' x
    | bk s' => rfl
    | rt r => rfl
theorem run_app : forall (xs ys : List α) (s : S), run body s (xs ++ ys) = match run body s xs with
    | .nx s' => run body s' ys
    | .bk s' => .bk s'
    | .rt r => .rt r
  | [], ys, s => rfl
  | y :: r, ys, s => by
    simp only [List.cons_append, run]
    cases body s y with
    | nx s' => exact run_app r ys s'
    | bk s' => rfl
    | rt r => rfl
theorem take_snoc {i : Nat} {x : α} : forall {l : List α}, l[i]? = some x -> l.take (i + 1) = l.take i ++ [x] := fun {l} h => by
  obtain ⟨hi, rfl⟩ := List.getElem?_eq_some_iff.mp h
  exact (List.take_append_getElem hi).symm
theorem run_out {xs : List α} {i : Nat} {x : α} {s0 s : S} {o : Fl S R} (hi : xs[i]? = some x) (hr : run body s0 (xs.take i) = .nx s) (ho : body s x = o) (hn : forall s', o ≠ .nx s') : run body s0 xs = o := by
  have e : xs = xs.take (i + 1) ++ xs.drop (i + 1) := (List.take_append_drop _ _).symm
  rw [e, run_app, take_snoc hi, run_snoc, hr]
  show (match body s x with | .nx s' => run body s' _ | .bk s' => .bk s' | .rt r => .rt r) = o
  rw [ho]
  cases o with
  | nx s' => exact (hn s' rfl).elim
  | bk s' => rfl
  | rt r => rfl
end
/-! ### what is wanted at the end of a def -/
def Ret [Rep β] (K : Fg) (Z : Addr -> Prop) (F0 H0 : Hp) (Q : VK) (y : β) : Prop := forall F' H' r, GrZ Z F0 H0 F' H' -> rp K F' y r -> Q r H'
def RetL [Rep β] (K : Fg) (Z : Addr -> Prop) (F0 H0 : Hp) (Q : VK) (ys : List β) : Prop := forall F' H' p, GrZ Z F0 H0 F' H' -> H0 p = none -> MutL K F' H' p ys -> Q (.ref p) H'
/-! ### statements -/
section
variable {K : Fg} {Z : Addr -> Prop} {σ : St} {F H F0 H0 : Hp} {te ta tb : TE} {tt : TT} {t1 t2 u : TS} {D : Ends} {i : Nat}
theorem q_set [Rep α] {β : Type} {e : α} {k : α -> β} {P : β -> Prop} (hP : P (lt e k)) (s : Same F H) (he : Tv K te σ F H e) (nxt : forall x F1 H1 v, x = e -> Gr F H F1 H1 -> rp K F1 x v -> P (k x) -> u D (σ.set i (some v)) H1) : tSeq (tAsg te (gName i)) u D σ H :=
  he F H (Gr.refl s) _ fun F2 H2 v g r => nxt e F2 H2 v rfl g r (p_lt P hP)
theorem q_setF [Rep α] [Flat α] {β : Type} {e : α} {k : α -> β} {P : β -> Prop} (hP : P (lt e k)) (he : Tv K te σ H H e) (nxt : forall x H1, x = e -> Same H H1 -> P (k x) -> u D (σ.set i (some (Flat.val x))) H1) : tSeq (tAsg te (gName i)) u D σ H :=
  he H H (Gr.self H) _ fun F2 H2 v g r => by
    rw [Flat.is r]
    exact nxt e H2 rfl g.keep (p_lt P hP)
theorem q_setM [Rep α] {β : Type} {e : List α} {k : List α -> β} {P : β -> Prop} (hP : P (lt e k)) (s : Same F H) (he : TvL K te σ F H e) (nxt : forall x F1 H1 p, x = e -> Gr F H F1 H1 -> H p = none -> MutL K F1 H1 p x -> P (k x) -> u D (σ.set i (some (.ref p))) H1) : tSeq (tAsg te (gName i)) u D σ H :=
  he F H (Gr.refl s) _ fun F2 H2 p g n m => nxt e F2 H2 p rfl g n m (p_lt P hP)
theorem q_ret [Rep β] {e : β} (hP : Ret K Z F0 H0 D.rt e) (g : GrZ Z F0 H0 F H) (he : Tv K te σ F H e) : tSeq (tRet te) u D σ H :=
  he F H (Gr.refl g.sub) _ fun F2 H2 v g2 r => hP F2 H2 v (g.then g2) r
theorem q_retF [Rep β] [Flat β] {e : β} (hP : Ret K Z F0 H0 D.rt e) (g : GrZ Z F0 H0 F H) (he : Tv K te σ H H e) : tSeq (tRet te) u D σ H := q_ret hP g (tv_flat he)
theorem q_retL [Rep β] {e : List β} (hP : RetL K Z F0 H0 D.rt e) (g : GrZ Z F0 H0 F H) (he : TvL K te σ F H e) : tSeq (tRet te) u D σ H :=
  he F H (Gr.refl g.sub) _ fun F2 H2 p g2 n m => hP F2 H2 p (g.then g2) (by
    cases q : H0 p with
    | none => rfl
    | some o =>
      obtain ⟨o', e'⟩ := g.dom p o q
      rw [n] at e'; cases e') m
theorem q_retM [Rep β] {e : List β} {p : Addr} (hP : RetL K Z F0 H0 D.rt e) (g : GrZ Z F0 H0 F H) (hi : σ[i]? = some (some (.ref p))) (n : H0 p = none) (m : MutL K F H p e) : tSeq (tRet (tVar i)) u D σ H :=
  ⟨.ref p, hi, hP F H p g n m⟩
theorem q_retI [Rep β] {e : List β} {p : Addr} (hP : Ret K Z F0 H0 D.rt e) (g : GrZ Z F0 H0 F H) (hi : σ[i]? = some (some (.ref p))) (n : H0 p = none) (m : MutL K F H p e) : tSeq (tRet (tVar i)) u D σ H := by
  obtain ⟨vs, q, r⟩ := m.ice
  exact ⟨.ref p, hi, hP _ H _ (g.ice n q m.fr) r⟩
theorem q_end (h : D.nx σ H) : tNext D σ H := h
theorem q_endS (h : tSeq t1 t2 D σ H) : tNext { D with nx := tSeq t1 t2 D } σ H := h
theorem q_endC (h : Evl.tCut t1 t2 D σ H) : tNext { D with nx := Evl.tCut t1 t2 D } σ H := h
theorem q_one {t : TS} (h : tSeq t tNext D σ H) : t D σ H := h
theorem q_if {β : Type} {P : β -> Prop} {c : Bool} {A B : β} (hP : P (cond c A B)) (hc : Tt tt σ H c) (h1 : c = true -> forall H1, Same H H1 -> P A -> t1 { D with nx := u D } σ H1) (h2 : c = false -> forall H1, Same H H1 -> P B -> t2 { D with nx := u D } σ H1) : tSeq (tIfS tt t1 t2) u D σ H :=
  hc H (Same.refl H) _ fun H1 e => by
    cases c with
    | true => exact h1 rfl H1 e hP
    | false => exact h2 rfl H1 e hP
theorem q_ifJ {S β : Type} {P : β -> Prop} {c : Bool} {a b : S} {k : S -> β} (hP : P (lt (cond c a b) k)) (hc : Tt tt σ H c) (M : Hp -> Hp -> St -> S -> Prop)
    (h1 : c = true -> forall H1 (N : St -> Hp -> Prop), Same H H1 -> forall P' : S -> Prop, P' a -> (forall s, P' s -> forall F2 H2 σ2, Same F F2 -> M F2 H2 σ2 s -> N σ2 H2) -> t1 { D with nx := N } σ H1)
    (h2 : c = false -> forall H1 (N : St -> Hp -> Prop), Same H H1 -> forall P' : S -> Prop, P' b -> (forall s, P' s -> forall F2 H2 σ2, Same F F2 -> M F2 H2 σ2 s -> N σ2 H2) -> t2 { D with nx := N } σ H1)
    (nxt : forall s F2 H2 σ2, s = cond c a b -> Same F F2 -> M F2 H2 σ2 s -> P (k s) -> u D σ2 H2) : Evl.tCut (tIfS tt t1 t2) u D σ H :=
  ⟨fun σ2 H2 => exists F2, Same F F2 ∧ M F2 H2 σ2 (cond c a b), hc H (Same.refl H) _ fun H1 e => by
    cases c with
    | true => exact h1 rfl H1 _ e (fun s => s = a) rfl fun s hs F2 H2 σ2 q m => ⟨F2, q, by rw [hs] at m; exact m⟩
    | false => exact h2 rfl H1 _ e (fun s => s = b) rfl fun s hs F2 H2 σ2 q m => ⟨F2, q, by rw [hs] at m; exact m⟩,
  fun σ2 H2 ⟨F2, q, m⟩ => nxt _ F2 H2 σ2 rfl q m (p_lt P hP)⟩
/-- an expression whose value is dropped -/
theorem q_drop [Rep α] {e : α} (s : Same F H) (he : Tv K te σ F H e) (nxt : forall F1 H1, Gr F H F1 H1 -> u D σ H1) : tSeq (tDrop te) u D σ H :=
  he F H (Gr.refl s) _ fun F2 H2 v g r => nxt F2 H2 g
/-! ### walks: S is what the thing walked needs besides of the heap -/
structure Wk [Rep α] (K : Fg) (J : L2.It) (F2 : Hp) (S : Hp -> Hp -> Prop) (xs : List α) : Prop where
  go : forall i F H, Same F2 F -> Same F H -> S F H -> i < xs.length -> J.go i H
  stop : forall i F H, Same F2 F -> Same F H -> S F H -> xs.length ≤ i -> J.stop i H
  yld : forall i H F3 v H', Same F2 F3 -> Same F3 H -> S F3 H -> J.yld i H v H' -> i < xs.length -> exists F4, Gr F3 H F4 H' ∧ forall x, xs[i]? = some x -> rp K F4 x v
def Itr [Rep α] (K : Fg) (wi : TI) (σ : St) (F H : Hp) (S : Hp -> Hp -> Prop) (xs : List α) : Prop :=
  forall F1 H1, Gr F H F1 H1 -> forall R : L2.It -> Hp -> Prop, (forall J F2 H2, Gr F1 H1 F2 H2 -> Wk K J F2 S xs -> R J H2) -> wi σ H1 R
/-- S holds on -/
structure Stb (S : Hp -> Hp -> Prop) : Prop where
  go : forall {F H F' H' : Hp}, Gr F H F' H' -> S F H -> S F' H'
abbrev ST : Hp -> Hp -> Prop := fun _ _ => True
theorem stb_t : Stb ST := ⟨fun _ _ => trivial⟩
theorem wk_len [Rep α] {xs : List α} {vs : List V} (r : Rps K F xs vs) : vs.length = xs.length := (Paired.length r).symm
theorem rps_at [Rep α] : forall {xs : List α} {vs : List V} {i : Nat} {x : α}, Rps K F xs vs -> xs[i]? = some x -> exists v, vs[i]? = some v ∧ rp K F x v
  | _, _, 0, x, .cons r _, e => by simp at e; subst e; exact ⟨_, rfl, r⟩
  | _, _, i + 1, x, .cons _ t, e => by
    obtain ⟨v, h1, h2⟩ := rps_at (i := i) (x := x) t (by simpa using e)
    exact ⟨v, by simpa using h1, h2⟩
  | _, _, _, _, .nil, e => by simp at e
theorem rps_at' [Rep α] : forall {xs : List α} {vs : List V} {i : Nat} {v : V}, Rps K F xs vs -> vs[i]? = some v -> exists x, xs[i]? = some x ∧ rp K F x v
  | _, _, 0, v, .cons r _, e => by simp at e; subst e; exact ⟨_, rfl, r⟩
  | _, _, i + 1, v, .cons _ t, e => by
    obtain ⟨x, h1, h2⟩ := rps_at' (i := i) (v := v) t (by simpa using e)
    exact ⟨x, by simpa using h1, h2⟩
  | _, _, _, _, .nil, e => by simp at e
theorem wk_list [Rep α] {a : Addr} {vs : List V} {xs : List α} (q : SqL K F a vs) (r : Rps K F xs vs) : Wk K (Itl K a) F ST xs where
  go := fun i G H s0 s1 _ h => by
    have s := s0.trans s1
    exact ⟨vs, vs[i]'(by rw [wk_len r]; exact h), s.seq q, by simp⟩
  stop := fun i G H s0 s1 _ h => by
    have s := s0.trans s1
    exact ⟨vs, s.seq q, by rw [wk_len r]; exact h⟩
  yld := fun i H F3 v H' s s3 _ y h => by
    obtain ⟨rfl, y⟩ := y
    refine ⟨F3, Gr.refl s3, fun x hx => ?_⟩
    obtain ⟨w, e, rw_⟩ := rps_at r hx
    have e2 := y vs ((s.trans s3).seq q)
    rw [e] at e2; cases e2
    exact up s rw_
theorem wk_tup [Rep α] {a : Addr} {vs : List V} {xs : List α} (q : SqT K F a vs) (r : Rps K F xs vs) : Wk K (Itt K a) F ST xs where
  go := fun i G H s0 s1 _ h => by
    have s := s0.trans s1
    exact ⟨vs, vs[i]'(by rw [wk_len r]; exact h), same_sqT s q, by simp⟩
  stop := fun i G H s0 s1 _ h => by
    have s := s0.trans s1
    exact ⟨vs, same_sqT s q, by rw [wk_len r]; exact h⟩
  yld := fun i H F3 v H' s s3 _ y h => by
    obtain ⟨rfl, y⟩ := y
    refine ⟨F3, Gr.refl s3, fun x hx => ?_⟩
    obtain ⟨w, e, rw_⟩ := rps_at r hx
    have e2 := y vs (same_sqT (s.trans s3) q)
    rw [e] at e2; cases e2
    exact up s rw_
/-- over a list that a reading gives -/
theorem it_list [Rep α] {xs : List α} (h : Tv K te σ F H xs) : Itr K (iList K te) σ F H ST xs := fun F1 H1 g R q =>
  h F1 H1 g _ fun F2 H2 v g2 ⟨a, vs, e, hq, hr⟩ => ⟨a, e, ⟨vs, SqL.of (g2.sub a _ hq)⟩, q _ F2 H2 g2 (wk_list (SqL.of hq) hr)⟩
theorem it_tup [Rep α] {xs : Tup α} (h : Tv K te σ F H xs) : Itr K (iTup K te) σ F H ST xs.l := fun F1 H1 g R q =>
  h F1 H1 g _ fun F2 H2 v g2 ⟨a, vs, e, hq, hr⟩ => ⟨a, e, ⟨vs, SqT.of (g2.sub a _ hq)⟩, q _ F2 H2 g2 (wk_tup (SqT.of hq) hr)⟩
/-- over a list of our own that may change still (not in the loop) -/
theorem wk_mut [Rep α] {a : Addr} {xs : List α} : Wk K (Itl K a) F (fun F H => MutL K F H a xs) xs where
  go := fun i G H s0 s1 m h => by
    obtain ⟨f, vs, e, r⟩ := m
    exact ⟨vs, vs[i]'(by rw [wk_len r]; exact h), SqL.of e, by simp⟩
  stop := fun i G H s0 s1 m h => by
    obtain ⟨f, vs, e, r⟩ := m
    exact ⟨vs, SqL.of e, by rw [wk_len r]; exact h⟩
  yld := fun i H F3 v H' s s3 m y h => by
    obtain ⟨rfl, y⟩ := y
    obtain ⟨f, vs, e, r⟩ := m
    refine ⟨F3, Gr.refl s3, fun x hx => ?_⟩
    obtain ⟨w, e1, rw_⟩ := rps_at r hx
    have e2 := y vs (SqL.of e)
    rw [e1] at e2; cases e2
    exact rw_
theorem it_mut [Rep α] {xs : List α} {p : Addr} (hi : σ[i]? = some (some (.ref p))) (m : MutL K F H p xs) : Itr K (iList K (tVar i)) σ F H (fun F H => MutL K F H p xs) xs := fun F1 H1 g R q => by
  obtain ⟨f, vs, e, r⟩ := id (m.go g)
  exact ⟨.ref p, hi, p, rfl, ⟨vs, SqL.of e⟩, q _ F1 H1 (Gr.refl g.sub) wk_mut⟩
theorem stb_mut [Rep α] {xs : List α} {p : Addr} : Stb (fun F H => MutL K F H p xs) := ⟨fun g m => m.go g⟩
/-- the numbers of a range -/
def rng (lo : Int) (n : Nat) : List Int := (List.range n).map fun (k : Nat) => lo + (k : Int)
theorem rng_len (lo : Int) (n : Nat) : (rng lo n).length = n := by simp [rng]
theorem rng_at {lo : Int} {n i : Nat} {x : Int} (h : (rng lo n)[i]? = some x) : x = lo + (i : Int) ∧ i < n := by
  unfold rng at h
  rw [List.getElem?_map] at h
  cases e : (List.range n)[i]? with
  | none => rw [e] at h; cases h
  | some k =>
    rw [e] at h
    obtain ⟨hi, e2⟩ := List.getElem?_eq_some_iff.mp e
    rw [List.getElem_range] at e2
    subst e2
    rw [List.length_range] at hi
    exact ⟨(Option.some.inj h).symm, hi⟩
theorem wk_range {lo : Int} {n : Nat} : Wk K (L2.Itr lo n) F ST (rng lo n) where
  go := fun i G H s s1 _ h => by rw [rng_len] at h; exact h
  stop := fun i G H s s1 _ h => by rw [rng_len] at h; exact h
  yld := fun i H F3 v H' s s3 _ y h => by
    obtain ⟨rfl, rfl⟩ := y
    exact ⟨F3, Gr.refl s3, fun x hx => by rw [(rng_at hx).1]; rfl⟩
theorem it_range1 {n : Int} (h : Tv K te σ H H n) (lo : -(2 ^ 62) ≤ n) (hi : n < 2 ^ 62) : Itr K (iRng1 (tCons te tNil)) σ F H ST (rng 0 n.toNat) := fun F1 H1 g R q =>
  h H1 H1 (Gr.whole g.keep) _ fun F2 H2 v g2 r => ⟨n, by rw [show v = .int n from r], lo, hi, q _ F1 H2 (Gr.up g.sub g2.keep) wk_range⟩
theorem it_range2 {m n : Int} (h : Tv K ta σ H H m) (h' : Tv K te σ H H n) (lo : -(2 ^ 62) ≤ m) (hi : m < 2 ^ 62) (lo' : -(2 ^ 62) ≤ n) (hi' : n < 2 ^ 62) : Itr K (iRng2 (tCons ta (tCons te tNil))) σ F H ST (rng m (n - m).toNat) := fun F1 H1 g R q =>
  h H1 H1 (Gr.whole g.keep) _ fun F2 H2 v g2 r => h' H2 H2 (Gr.whole (g.keep.trans g2.keep)) _ fun F3 H3 w g3 r' => ⟨m, n, by rw [show v = .int m from r, show w = .int n from r'], ⟨lo, hi, lo', hi'⟩, q _ F1 H3 (Gr.up g.sub (g2.keep.trans g3.keep)) wk_range⟩
/-! ### targets of a loop -/
theorem g_name {v : V} {Q : St -> Hp -> Prop} (h : Q (σ.set i (some v)) H) : gName i v σ H Q := h
theorem g_tup2 [Rep α] [Rep β] {x : α × β} {v : V} {j : Nat} {Q : St -> Hp -> Prop} (s : Same F H) (h : rp K F x v) (k : forall a b, rp K F x.1 a -> rp K F x.2 b -> Q ((σ.set i (some a)).set j (some b)) H) : gTup K 2 (gCons (gName i) (gCons (gName j) gNil)) v σ H Q := by
  obtain ⟨p, vs, rfl, q, a, r, rfl, ra, b, rfl, rb⟩ := h
  exact ⟨p, _, rfl, SqT.of (s p _ q), rfl, a, _, rfl, b, _, rfl, rfl, k a b ra rb⟩
theorem g_tup3 [Rep α] [Rep β] [Rep γ] {x : α × β × γ} {v : V} {j l : Nat} {Q : St -> Hp -> Prop} (s : Same F H) (h : rp K F x v) (k : forall a b c, rp K F x.1 a -> rp K F x.2.1 b -> rp K F x.2.2 c -> Q (((σ.set i (some a)).set j (some b)).set l (some c)) H) : gTup K 3 (gCons (gName i) (gCons (gName j) (gCons (gName l) gNil))) v σ H Q := by
  obtain ⟨p, vs, rfl, q, a, r, rfl, ra, b, r2, rfl, rb, c, rfl, rc⟩ := h
  exact ⟨p, _, rfl, SqT.of (s p _ q), rfl, a, _, rfl, b, _, rfl, c, _, rfl, rfl, k a b c ra rb rc⟩
theorem g_tupP [Rep α] [Rep β] {x : Pr α β} {v : V} {j : Nat} {Q : St -> Hp -> Prop} (s : Same F H) (h : rp K F x v) (k : forall a b, rp K F x.fst a -> rp K F x.snd b -> Q ((σ.set i (some a)).set j (some b)) H) : gTup K 2 (gCons (gName i) (gCons (gName j) gNil)) v σ H Q := by
  obtain ⟨p, a, b, rfl, q, ra, rb⟩ := h
  exact ⟨p, _, rfl, SqT.of (s p _ q), rfl, a, _, rfl, b, _, rfl, rfl, k a b ra rb⟩
/-! ### loops -/
/-- a loop: body tells how a turn ends; I: what holds between the turns, at some earlier heaps -/
theorem q_for {S R T : Type} [Rep α] {xs : List α} {s0 : S} {body : S -> α -> Fl S R} {ret : R -> T} {k : S -> T} {P : T -> Prop} {wi : TI} {g : TG} {t : TS} {S' : Hp -> Hp -> Prop} (I : Nat -> Hp -> Hp -> St -> S -> Prop)
    (hP : P (fin (run body s0 xs) ret k)) (s : Same F H) (hx : Itr K wi σ F H S' xs) (hS : Stb S') (h0 : I 0 F H σ s0) (hI : forall i F1 H1 σ1 s, I i F1 H1 σ1 s -> Same F1 H1 ∧ S' F1 H1)
    (hs : forall (i : Nat) x s Fa Ha F1 H1 σ1 v (N B : St -> Hp -> Prop) (P' : Fl S R -> Prop), xs[i]? = some x -> run body s0 (xs.take i) = .nx s -> Same F Fa -> I i Fa Ha σ1 s -> Gr Fa Ha F1 H1 -> rp K F1 x v -> P' (body s x) ->
      (forall s', P' (.nx s') -> forall F2 H2 σ2, Same F1 F2 -> I (i + 1) F2 H2 σ2 s' -> N σ2 H2) -> (forall s', P' (.bk s') -> forall F2 H2 σ2, Same F1 F2 -> I (i + 1) F2 H2 σ2 s' -> B σ2 H2) -> (forall r, P' (.rt r) -> P (ret r)) ->
      g v σ1 H1 fun σ2 H2 => t { D with nx := N, ct := N, bk := B } σ2 H2)
    (hd : forall (i : Nat) Fa Ha F1 H1 σ1 s, i ≤ xs.length -> (run body s0 xs = .nx s ∧ i = xs.length ∨ run body s0 xs = .bk s) -> Same F Fa -> I i Fa Ha σ1 s -> Gr Fa Ha F1 H1 -> P (k s) -> u D σ1 H1) : tSeq (tFor wi g t) u D σ H :=
  hx F H (Gr.refl s) _ fun J F2 H2 g2 W => by
    refine ⟨fun i m σ' H' => m = xs.length - i ∧ i ≤ xs.length ∧ exists Fa Ha F3 s, run body s0 (xs.take i) = .nx s ∧ Same F Fa ∧ I i Fa Ha σ' s ∧ Gr Fa Ha F3 H' ∧ Same F2 F3, ⟨xs.length, by simp, Nat.zero_le _, F, H, F2, s0, rfl, Same.refl F, h0, g2, Same.refl F2⟩, ?_⟩
    rintro i m σ' H' ⟨rfl, hi, Fa, Ha, F3, st, hr, fa, hI1, gg, f23⟩
    by_cases hlt : i < xs.length
    · refine .inr ⟨W.go i F3 H' f23 gg.sub (hS.go gg (hI _ _ _ _ _ hI1).2) hlt, fun σ4 H4 => exists F4 s4, run body s0 (xs.take (i + 1)) = .nx s4 ∧ Same F F4 ∧ I (i + 1) F4 H4 σ4 s4 ∧ Same F2 F4, fun σ4 H4 ⟨F4, s4, a1, a2, a3, a4⟩ => ⟨xs.length - (i + 1), by omega, rfl, hlt, F4, H4, F4, s4, a1, a2, a3, Gr.refl (hI _ _ _ _ _ a3).1, a4⟩, fun v H4 y => ?_⟩
      obtain ⟨F4, g4, hv⟩ := W.yld i H' F3 v H4 f23 gg.sub (hS.go gg (hI _ _ _ _ _ hI1).2) y hlt
      have hxi : xs[i]? = some (xs[i]'hlt) := by simp
      have h24 : Same F2 F4 := f23.trans g4.ex
      have h04 : Same F F4 := g2.ex.trans h24
      refine hs i (xs[i]'hlt) st Fa Ha F4 H4 σ' v _ _ (fun o => body st (xs[i]'hlt) = o) hxi hr fa hI1 (gg.trans g4) (hv _ hxi) rfl (fun s' hb F5 H5 σ5 f5 i5 => ?_) (fun s' hb F5 H5 σ5 f5 i5 => ?_) (fun r hb => ?_)
      · refine ⟨F5, s', ?_, h04.trans f5, i5, h24.trans f5⟩
        rw [take_snoc hxi, run_snoc, hr]
        exact hb
      · have e := run_out hxi hr hb (fun _ z => nomatch z)
        refine hd (i + 1) F5 H5 F5 H5 σ5 s' hlt (.inr e) (h04.trans f5) i5 (Gr.refl (hI _ _ _ _ _ i5).1) ?_
        rw [e, fin_bk] at hP
        exact hP
      · have e := run_out hxi hr hb (fun _ z => nomatch z)
        rw [e, fin_rt] at hP
        exact hP
    · have e : i = xs.length := by omega
      subst e
      rw [List.take_length] at hr
      rw [hr, fin_nx] at hP
      exact .inl ⟨W.stop _ F3 H' f23 gg.sub (hS.go gg (hI _ _ _ _ _ hI1).2) (Nat.le_refl _), hd _ Fa Ha F3 H' σ' st (Nat.le_refl _) (.inl ⟨hr, rfl⟩) fa hI1 gg hP⟩
/-- a loop whose body neither breaks nor returns -/
theorem q_fold {S T : Type} [Rep α] {xs : List α} {s0 : S} {body : S -> α -> S} {k : S -> T} {P : T -> Prop} {wi : TI} {g : TG} {t : TS} {S' : Hp -> Hp -> Prop} (I : Nat -> Hp -> Hp -> St -> S -> Prop)
    (hP : P (lt (xs.foldl body s0) k)) (s : Same F H) (hx : Itr K wi σ F H S' xs) (hS : Stb S') (h0 : I 0 F H σ s0) (hI : forall i F1 H1 σ1 s, I i F1 H1 σ1 s -> Same F1 H1 ∧ S' F1 H1)
    (hs : forall (i : Nat) x s Fa Ha F1 H1 σ1 v (N : St -> Hp -> Prop) (P' : S -> Prop), xs[i]? = some x -> (xs.take i).foldl body s0 = s -> Same F Fa -> I i Fa Ha σ1 s -> Gr Fa Ha F1 H1 -> rp K F1 x v -> P' (body s x) ->
      (forall s', P' s' -> forall F2 H2 σ2, Same F1 F2 -> I (i + 1) F2 H2 σ2 s' -> N σ2 H2) ->
      g v σ1 H1 fun σ2 H2 => t { D with nx := N, ct := N, bk := u D } σ2 H2)
    (hd : forall Fa Ha F1 H1 σ1 s, s = xs.foldl body s0 -> Same F Fa -> I xs.length Fa Ha σ1 s -> Gr Fa Ha F1 H1 -> P (k s) -> u D σ1 H1) : tSeq (tFor wi g t) u D σ H :=
  hx F H (Gr.refl s) _ fun J F2 H2 g2 W => by
    refine ⟨fun i m σ' H' => m = xs.length - i ∧ i ≤ xs.length ∧ exists Fa Ha F3 s, (xs.take i).foldl body s0 = s ∧ Same F Fa ∧ I i Fa Ha σ' s ∧ Gr Fa Ha F3 H' ∧ Same F2 F3, ⟨xs.length, by simp, Nat.zero_le _, F, H, F2, s0, rfl, Same.refl F, h0, g2, Same.refl F2⟩, ?_⟩
    rintro i m σ' H' ⟨rfl, hi, Fa, Ha, F3, st, hr, fa, hI1, gg, f23⟩
    by_cases hlt : i < xs.length
    · refine .inr ⟨W.go i F3 H' f23 gg.sub (hS.go gg (hI _ _ _ _ _ hI1).2) hlt, fun σ4 H4 => exists F4 s4, (xs.take (i + 1)).foldl body s0 = s4 ∧ Same F F4 ∧ I (i + 1) F4 H4 σ4 s4 ∧ Same F2 F4, fun σ4 H4 ⟨F4, s4, a1, a2, a3, a4⟩ => ⟨xs.length - (i + 1), by omega, rfl, hlt, F4, H4, F4, s4, a1, a2, a3, Gr.refl (hI _ _ _ _ _ a3).1, a4⟩, fun v H4 y => ?_⟩
      obtain ⟨F4, g4, hv⟩ := W.yld i H' F3 v H4 f23 gg.sub (hS.go gg (hI _ _ _ _ _ hI1).2) y hlt
      have hxi : xs[i]? = some (xs[i]'hlt) := by simp
      have h24 : Same F2 F4 := f23.trans g4.ex
      have h04 : Same F F4 := g2.ex.trans h24
      refine hs i (xs[i]'hlt) st Fa Ha F4 H4 σ' v _ (fun o => body st (xs[i]'hlt) = o) hxi hr fa hI1 (gg.trans g4) (hv _ hxi) rfl (fun s' hb F5 H5 σ5 f5 i5 => ?_)
      refine ⟨F5, s', ?_, h04.trans f5, i5, h24.trans f5⟩
      rw [take_snoc hxi, List.foldl_append, hr]
      exact hb
    · have e : i = xs.length := by omega
      subst e
      rw [List.take_length] at hr
      exact .inl ⟨W.stop _ F3 H' f23 gg.sub (hS.go gg (hI _ _ _ _ _ hI1).2) (Nat.le_refl _), hd Fa Ha F3 H' σ' st hr.symm fa hI1 gg (by rw [← hr]; exact p_lt P hP)⟩
end
end Rf

/-! ### lists: read -/
namespace Rf
open PySem L2
open Rep (rp)
/-- an item, by Python's own index -/
def ixI {α : Type} [Inhabited α] (xs : List α) (i : Int) : α := if 0 ≤ i then xs.getD i.toNat default else xs.getD (i + xs.length).toNat default
def InB (n : Nat) (i : Int) : Prop := -(n : Int) ≤ i ∧ i < n
theorem atI_ix {α : Type} [Inhabited α] {xs : List α} {i : Int} (h : InB xs.length i) : atI xs i = some (ixI xs i) := by
  obtain ⟨h1, h2⟩ := h
  unfold atI ixN ixI
  by_cases h0 : 0 ≤ i
  · have hj : i.toNat < xs.length := by omega
    rw [if_pos h0, if_pos h2, if_pos h0]
    show xs[i.toNat]? = some _
    rw [List.getElem?_eq_getElem hj]
    simp [List.getD, hj]
  · have hj : (i + xs.length).toNat < xs.length := by omega
    rw [if_neg h0, if_pos h1, if_neg h0]
    show xs[(i + xs.length).toNat]? = some _
    rw [List.getElem?_eq_getElem hj]
    simp [List.getD, hj]
theorem atI_map {α β : Type} (f : α -> β) (xs : List α) (i : Int) : atI (xs.map f) i = (atI xs i).map f := by
  unfold atI
  rw [List.length_map]
  cases ixN xs.length i with
  | none => rfl
  | some j => show (xs.map f)[j]? = _; rw [List.getElem?_map]; rfl
theorem rps_atI [Rep α] {K : Fg} {F : Hp} {xs : List α} {vs : List V} {i : Int} {x : α} (r : Rps K F xs vs) (h : atI xs i = some x) : exists v, atI vs i = some v ∧ rp K F x v := by
  unfold atI at h ⊢
  rw [wk_len r]
  cases e : ixN xs.length i with
  | none => rw [e] at h; cases h
  | some j =>
    rw [e] at h
    exact rps_at r (show xs[j]? = some x from h)
section
variable {K : Fg} {Z : Addr -> Prop} {σ : St} {F H F0 H0 F1 H1 F2 H2 : Hp} {te ta tb tc : TE} {tt : TT} {t1 t2 u : TS} {D : Ends} {i : Nat} {p q : Addr}
theorem op2_ixL [Rep α] [Inhabited α] {xs : List α} {i : Int} (h : InB xs.length i) : Op2 K (rIxL K) xs i (ixI xs i) := fun F H v w s r1 r2 Q q => by
  obtain ⟨a, vs, rfl, e, r⟩ := r1
  obtain ⟨y, hy, ry⟩ := rps_atI r (atI_ix h)
  exact ⟨a, vs, i, y, rfl, r2, SqL.of (s a _ e), hy, q F H y (Gr.refl s) ry⟩
theorem op2_ixC {x : Scr} {i : Int} (h : InB x.l.length i) : Op2 K (rIxL K) x i (ixI x.l i) := fun F H v w s r1 r2 Q q => by
  obtain ⟨a, rfl, e⟩ := r1
  exact ⟨a, _, i, .int (ixI x.l i), rfl, r2, (Le.of s).sqL e, by rw [atI_map, atI_ix h]; rfl, q F H _ (Gr.refl s) rfl⟩
theorem op2_ixTn [Rep α] [Inhabited α] {xs : Tup α} {i : Int} (h : InB xs.l.length i) : Op2 K (rIxT K) xs i (ixI xs.l i) := fun F H v w s r1 r2 Q q => by
  obtain ⟨a, vs, rfl, e, r⟩ := r1
  obtain ⟨y, hy, ry⟩ := rps_atI r (atI_ix h)
  exact ⟨a, vs, i, y, rfl, r2, SqT.of (s a _ e), hy, q F H y (Gr.refl s) ry⟩
/-- places of tuples of written length -/
theorem op2_ixT0 [Rep α] [RepT β] {x : α × β} : Op2 K (rIxT K) x (0 : Int) x.1 := fun F H v w s r1 r2 Q q => by
  obtain ⟨a, vs, rfl, e, v, r, rfl, h1, h2⟩ := r1
  exact ⟨a, _, 0, v, rfl, r2, SqT.of (s a _ e), atI_nat (j := 0) rfl, q F H v (Gr.refl s) h1⟩
theorem atI_suc {v : V} {r : List V} {n : Nat} {w : V} (h : r[n]? = some w) : atI (v :: r) ((n + 1 : Nat) : Int) = some w := atI_nat (by simpa using h)
theorem op2_ixT1 [Rep α] [Rep β] {x : α × β} : Op2 K (rIxT K) x (1 : Int) x.2 := fun F H v w s r1 r2 Q q => by
  obtain ⟨a, vs, rfl, e, v, r, rfl, h1, v2, rfl, h2⟩ := r1
  exact ⟨a, _, 1, v2, rfl, r2, SqT.of (s a _ e), rfl, q F H v2 (Gr.refl s) h2⟩
theorem op2_ixT1m [Rep α] [Rep β] [RepT γ] {x : α × β × γ} : Op2 K (rIxT K) x (1 : Int) x.2.1 := fun F H v w s r1 r2 Q q => by
  obtain ⟨a, vs, rfl, e, v, r, rfl, h1, v2, r2', rfl, h2, h3⟩ := r1
  exact ⟨a, _, 1, v2, rfl, r2, SqT.of (s a _ e), atI_nat (j := 1) rfl, q F H v2 (Gr.refl s) h2⟩
theorem op2_ixT2 [Rep α] [Rep β] [Rep γ] {x : α × β × γ} : Op2 K (rIxT K) x (2 : Int) x.2.2 := fun F H v w s r1 r2 Q q => by
  obtain ⟨a, vs, rfl, e, v, r, rfl, h1, v2, r2', rfl, h2, v3, rfl, h3⟩ := r1
  exact ⟨a, _, 2, v3, rfl, r2, SqT.of (s a _ e), rfl, q F H v3 (Gr.refl s) h3⟩
theorem op2_ixT2m [Rep α] [Rep β] [Rep γ] [RepT δ] {x : α × β × γ × δ} : Op2 K (rIxT K) x (2 : Int) x.2.2.1 := fun F H v w s r1 r2 Q q => by
  obtain ⟨a, vs, rfl, e, v, r, rfl, h1, v2, r2', rfl, h2, v3, r3', rfl, h3, h4⟩ := r1
  exact ⟨a, _, 2, v3, rfl, r2, SqT.of (s a _ e), atI_nat (j := 2) rfl, q F H v3 (Gr.refl s) h3⟩
theorem op2_ixT3 [Rep α] [Rep β] [Rep γ] [Rep δ] {x : α × β × γ × δ} : Op2 K (rIxT K) x (3 : Int) x.2.2.2 := fun F H v w s r1 r2 Q q => by
  obtain ⟨a, vs, rfl, e, v, r, rfl, h1, v2, r2', rfl, h2, v3, r3', rfl, h3, v4, rfl, h4⟩ := r1
  exact ⟨a, _, 3, v4, rfl, r2, SqT.of (s a _ e), rfl, q F H v4 (Gr.refl s) h4⟩
/-- len -/
abbrev rLen' (K : Fg) : List V -> Hp -> VK -> Prop := fun xs H Q => exists p ys, xs = [.ref p] ∧ (SqL K H p ys ∨ SqT K H p ys) ∧ Q (.int ys.length) H
theorem cb_lenL [Rep α] {xs : List α} : CbV K (rLen' K) (fun F vs => exists v r, vs = v :: r ∧ rp K F xs v ∧ r = []) (xs.length : Int) := fun F H vs Q s ⟨v, r, e, ⟨a, ws, e2, e3, r2⟩, e4⟩ q => by
  subst e e2 e4
  exact ⟨a, ws, rfl, .inl (SqL.of (s a _ e3)), q F H _ (Gr.refl s) (by rw [wk_len r2]; rfl)⟩
theorem cb_lenC {x : Scr} : CbV K (rLen' K) (fun F vs => exists v r, vs = v :: r ∧ rp K F x v ∧ r = []) (x.l.length : Int) := fun F H vs Q s ⟨v, r, e, ⟨a, e2, e3⟩, e4⟩ q => by
  subst e e2 e4
  exact ⟨a, _, rfl, .inl ((Le.of s).sqL e3), q F H _ (Gr.refl s) (by rw [List.length_map]; rfl)⟩
theorem cb_lenTn [Rep α] {xs : Tup α} : CbV K (rLen' K) (fun F vs => exists v r, vs = v :: r ∧ rp K F xs v ∧ r = []) (xs.l.length : Int) := fun F H vs Q s ⟨v, r, e, ⟨a, ws, e2, e3, r2⟩, e4⟩ q => by
  subst e e2 e4
  exact ⟨a, ws, rfl, .inr (SqT.of (s a _ e3)), q F H _ (Gr.refl s) (by rw [wk_len r2]; rfl)⟩
class LenT (α : Type) [RepT α] (n : Nat) : Prop where
  len : forall {K : Fg} {F : Hp} {x : α} {vs : List V}, RepT.rt K F x vs -> vs.length = n
instance (priority := low) [Rep α] : LenT α 1 := ⟨fun ⟨v, e, _⟩ => by rw [e]; rfl⟩
instance (priority := high) [Rep α] [RepT β] [LenT β n] : LenT (α × β) (n + 1) := ⟨fun ⟨v, r, e, _, h⟩ => by rw [e, List.length_cons, LenT.len (n := n) h]⟩
theorem cb_lenT [Rep α] [RepT β] {n : Nat} [LenT (α × β) n] {x : α × β} : CbV K (rLen' K) (fun F vs => exists v r, vs = v :: r ∧ rp K F x v ∧ r = []) (n : Int) := fun F H vs Q s ⟨v, r, e, ⟨a, ws, e2, e3, r2⟩, e4⟩ q => by
  subst e e2 e4
  exact ⟨a, ws, rfl, .inr (SqT.of (s a _ e3)), q F H _ (Gr.refl s) (by rw [LenT.len (n := n) r2]; rfl)⟩
abbrev rLenS' : List V -> Hp -> VK -> Prop := fun xs H Q => exists z : PySem.Str, xs = [.str z] ∧ z.length ≤ sizeLine ∧ Q (.int z.length) H
theorem cb_lenS {z : PySem.Str} (h : z.length ≤ 100000) : CbV K rLenS' (fun F vs => exists v r, vs = v :: r ∧ rp K F z v ∧ r = []) (z.length : Int) := fun F H vs Q s ⟨v, r, e, e2, e4⟩ q => by
  subst e e4
  cases e2
  exact ⟨z, rfl, sz h, q F H _ (Gr.refl s) rfl⟩
/-- list(xs), tuple(xs) -/
abbrev rListOf (K : Fg) : List V -> Hp -> VK -> Prop := fun xs H Q => exists p ys, xs = [.ref p] ∧ (SqL K H p ys ∨ SqT K H p ys) ∧ forall l, H l = none -> Q (.ref l) (upd H l (.lst ys))
theorem cl_list [Rep α] {xs : List α} : CbL K (rListOf K) (fun F vs => exists v r, vs = v :: r ∧ rp K F xs v ∧ r = []) xs := fun F H vs Q s ⟨v, r, e, ⟨a, ws, e2, e3, r2⟩, e4⟩ q => by
  subst e e2 e4
  exact ⟨a, ws, rfl, .inl (SqL.of (s a _ e3)), fun l hl => q F _ l (Gr.put s hl) hl ⟨none_of s hl, ws, upd_same, r2⟩⟩
theorem cl_listT [Rep α] {xs : Tup α} : CbL K (rListOf K) (fun F vs => exists v r, vs = v :: r ∧ rp K F xs v ∧ r = []) xs.l := fun F H vs Q s ⟨v, r, e, ⟨a, ws, e2, e3, r2⟩, e4⟩ q => by
  subst e e2 e4
  exact ⟨a, ws, rfl, .inr (SqT.of (s a _ e3)), fun l hl => q F _ l (Gr.put s hl) hl ⟨none_of s hl, ws, upd_same, r2⟩⟩
/-- x in xs, by values -/
theorem inV_val {α : Type} [Rep α] [Flat α] [DecidableEq α] (he : forall a b : α, eqV (Flat.val a) (Flat.val b) = decide (a = b)) (x : α) (xs : List α) : inV (Flat.val x) (xs.map Flat.val) = decide (x ∈ xs) := by
  unfold inV
  induction xs with
  | nil => simp
  | cons y r ih =>
    rw [List.map_cons, List.any_cons, ih, he]
    by_cases h : y = x
    · subst h; simp
    · have h' : ¬ x = y := fun z => h z.symm
      simp [h, h']
/-- what == of the flat things gives -/
class EqF (α : Type) [Rep α] [Flat α] [DecidableEq α] : Prop where
  flat : forall x : α, flatV (Flat.val x) = true
  eq : forall a b : α, eqV (Flat.val a) (Flat.val b) = decide (a = b)
instance : EqF Int := ⟨fun _ => rfl, fun a b => by
  show eqV (.int a) (.int b) = _
  simp [eqV]; rw [Bool.eq_iff_iff]; simp⟩
instance : EqF PySem.Str := ⟨fun _ => rfl, fun a b => by
  show eqV (.str a) (.str b) = _
  simp [eqV]; try (rw [Bool.eq_iff_iff]; simp)⟩
theorem op2_inL [Rep α] [Flat α] [DecidableEq α] [EqF α] {x : α} {xs : List α} : Op2 K (rIn K false) x xs (decide (x ∈ xs)) := fun F H v w s r1 r2 Q q => by
  obtain ⟨a, vs, rfl, e, r⟩ := r2
  rw [Flat.is r1]
  have ev := rps_flat r
  subst ev
  refine ⟨a, _, rfl, .inl (SqL.of (s a _ e)), EqF.flat x, List.all_eq_true.mpr fun y hy => ?_, ?_⟩
  · obtain ⟨z, _, rfl⟩ := List.mem_map.mp hy
    exact EqF.flat z
  · rw [inV_val EqF.eq]
    exact q F H _ (Gr.refl s) rfl
theorem op2_niL [Rep α] [Flat α] [DecidableEq α] [EqF α] {x : α} {xs : List α} : Op2 K (rIn K true) x xs (!decide (x ∈ xs)) := fun F H v w s r1 r2 Q q => by
  obtain ⟨a, vs, rfl, e, r⟩ := r2
  rw [Flat.is r1]
  have ev := rps_flat r
  subst ev
  refine ⟨a, _, rfl, .inl (SqL.of (s a _ e)), EqF.flat x, List.all_eq_true.mpr fun y hy => ?_, ?_⟩
  · obtain ⟨z, _, rfl⟩ := List.mem_map.mp hy
    exact EqF.flat z
  · show Q (.bl (!inV (Flat.val x) (xs.map Flat.val))) H
    rw [inV_val EqF.eq]
    exact q F H _ (Gr.refl s) rfl
theorem op2_inT [Rep α] [Flat α] [DecidableEq α] [EqF α] {x : α} {xs : Tup α} : Op2 K (rIn K false) x xs (decide (x ∈ xs.l)) := fun F H v w s r1 r2 Q q => by
  obtain ⟨a, vs, rfl, e, r⟩ := r2
  rw [Flat.is r1]
  have ev := rps_flat r
  subst ev
  refine ⟨a, _, rfl, .inr (SqT.of (s a _ e)), EqF.flat x, List.all_eq_true.mpr fun y hy => ?_, ?_⟩
  · obtain ⟨z, _, rfl⟩ := List.mem_map.mp hy
    exact EqF.flat z
  · rw [inV_val EqF.eq]
    exact q F H _ (Gr.refl s) rfl
/-! ### lists: made -/
def OpL [Rep α] [Rep β] [Rep γ] (K : Fg) (r : R2) (x : α) (y : β) (zs : List γ) : Prop :=
  forall F H v w, Same F H -> rp K F x v -> rp K F y w -> forall Q : VK, (forall F2 H2 p, Gr F H F2 H2 -> H p = none -> MutL K F2 H2 p zs -> Q (.ref p) H2) -> r v w H Q
theorem tl_op [Rep α] [Rep β] [Rep γ] {x : α} {y : β} {zs : List γ} {r : R2} (ha : Tv K ta σ F H x) (hb : Tv K tb σ F H y) (ho : OpL K r x y zs) : TvL K (tOp r ta tb) σ F H zs := fun F1 H1 g Q q =>
  tv_bin (R := fun v w H => r v w H Q) ha hb g fun F2 H2 v w g2 r1 r2 => ho F2 H2 v w g2.sub r1 r2 Q fun F3 H3 p g3 n m => q F3 H3 p (g2.trans g3) (none_of g2.keep n) m
theorem opL_cat [Rep α] {xs ys : List α} (h : xs.length + ys.length ≤ 100000) : OpL K rCat xs ys (xs ++ ys) := fun F H v w s r1 r2 Q q => by
  obtain ⟨a, vs, rfl, e, r⟩ := r1
  obtain ⟨b, ws, rfl, e', r'⟩ := r2
  exact ⟨a, b, vs, ws, rfl, rfl, s a _ e, s b _ e', by rw [wk_len r, wk_len r']; exact sz h, fun p hp => q F _ p (Gr.put s hp) hp ⟨none_of s hp, vs ++ ws, upd_same, rps_app r r'⟩⟩
/-- xs[lo:hi] -/
def sIxI (n d : Nat) : Option Int -> Nat
  | none => d
  | some v => if v < 0 then (v + (n : Int)).toNat else min v.toNat n
def cutI {α : Type} (xs : List α) (lo hi : Option Int) : List α := (xs.drop (sIxI xs.length 0 lo)).take (sIxI xs.length xs.length hi - sIxI xs.length 0 lo)
theorem sIx_eq (n d : Nat) (o : Option Int) : HT.sIx n d o = sIxI n d o := by cases o <;> rfl
theorem rps_drop [Rep α] : forall (n : Nat) {xs : List α} {vs : List V}, Rps K F xs vs -> Rps K F (xs.drop n) (vs.drop n)
  | 0, _, _, r => r
  | _ + 1, _, _, .nil => .nil
  | n + 1, _, _, .cons _ t => rps_drop n t
theorem rps_take [Rep α] : forall (n : Nat) {xs : List α} {vs : List V}, Rps K F xs vs -> Rps K F (xs.take n) (vs.take n)
  | 0, _, _, _ => .nil
  | _ + 1, _, _, .nil => .nil
  | n + 1, _, _, .cons r t => .cons r (rps_take n t)
theorem rps_cut [Rep α] {xs : List α} {vs : List V} {lo hi : Option Int} (r : Rps K F xs vs) : Rps K F (cutI xs lo hi) (cutV vs lo hi) := by
  unfold cutI cutV
  rw [wk_len r, sIx_eq, sIx_eq]
  exact rps_take _ (rps_drop _ r)
def TvO (to : TO) (σ : St) (H : Hp) (o : Option Int) : Prop := forall H1, Same H H1 -> forall Q : Option Int -> Hp -> Prop, (forall H2, Same H1 H2 -> Q o H2) -> to σ H1 Q
theorem to_none : TvO tNoPart σ H none := fun H1 _ Q q => q H1 (Same.refl H1)
theorem to_some {n : Int} (h : Tv K te σ H H n) : TvO (tPart te) σ H (some n) := fun H1 e Q q => h H1 H1 (Gr.whole e) _ fun F2 H2 v g r => ⟨n, r, q H2 g.keep⟩
theorem tl_slice [Rep α] {xs : List α} {tl th : TO} {lo hi : Option Int} (h : Tv K te σ F H xs) (h1 : TvO tl σ H lo) (h2 : TvO th σ H hi) : TvL K (tSl (rSlL K) te tl th) σ F H (cutI xs lo hi) := fun F1 H1 g Q q =>
  h F1 H1 g _ fun F2 H2 v g2 ⟨a, vs, e, hq, hr⟩ => h1 H2 (g.keep.trans g2.keep) _ fun H3 e3 => h2 H3 ((g.keep.trans g2.keep).trans e3) _ fun H4 e4 =>
    ⟨a, vs, e, SqL.of (e4 a _ (e3 a _ (g2.sub a _ hq))), fun p hp => q F2 _ p (g2.trans ((Gr.up g2.sub (e3.trans e4)).trans (Gr.put ((g2.sub.trans e3).trans e4) hp))) (none_of ((g2.keep.trans e3).trans e4) hp) ⟨none_of ((g2.sub.trans e3).trans e4) hp, _, upd_same, rps_cut hr⟩⟩
/-! ### lists: changed -/
/-- the whole grew, and p holds something else -/
structure Md (p : Addr) (F H F1 H1 : Hp) : Prop where
  fr : F1 p = none
  go : exists H', Gr F H F1 H' ∧ exists o, H1 = upd H' p o
theorem Md.ex (m : Md p F H F1 H1) : Same F F1 := let ⟨_, g, _⟩ := m.go; g.ex
theorem Md.sub (m : Md p F H F1 H1) : Same F1 H1 := by
  obtain ⟨f, H', g, o, rfl⟩ := m
  exact same_mut g.sub f
theorem MutL.md [Rep α] {xs : List α} (m : MutL K F H q xs) (n : q ≠ p) (d : Md p F H F1 H1) : MutL K F1 H1 q xs := by
  obtain ⟨f, H', g, o, rfl⟩ := d
  exact (m.go g).past n
theorem GrZ.md (g : GrZ Z F0 H0 F H) (n : H0 p = none) (d : Md p F H F1 H1) : GrZ Z F0 H0 F1 H1 := by
  obtain ⟨f, H', g', o, rfl⟩ := d
  exact (g.then g').mut n f
theorem Md.of [Rep α] {xs : List α} (m : MutL K F H p xs) (g : Gr F H F1 H1) {o : HO} : Md p F H F1 (upd H1 p o) := ⟨(m.go g).fr, H1, g, o, rfl⟩
theorem q_app [Rep α] {β : Type} {P : β -> Prop} {xs : List α} {y : α} {k : List α -> β} (hP : P (lt (xs ++ [y]) k)) (s : Same F H) (m : MutL K F H p xs) (hi : σ[i]? = some (some (.ref p))) (he : Tv K te σ F H y) (hl : xs.length < 100000)
    (nxt : forall zs F1 H1, zs = xs ++ [y] -> Md p F H F1 H1 -> MutL K F1 H1 p zs -> P (k zs) -> u D σ H1) : tSeq (tDrop (tBM K "list" rAppend (tVar i) (tCons te tNil))) u D σ H := by
  obtain ⟨f, vs, e, r⟩ := id m
  refine ⟨.ref p, hi, .inl ⟨rfl, vs, SqL.of e⟩, he F H (Gr.refl s) _ fun F2 H2 v g rv => ?_⟩
  obtain ⟨f2, vs2, e2, r2⟩ := id (m.go g)
  refine ⟨p, vs2, v, rfl, rfl, e2, by rw [wk_len r2]; exact szl hl, nxt _ F2 _ rfl (Md.of m g) ⟨f2, _, upd_same, rps_app r2 (.cons rv .nil)⟩ (p_lt P hP)⟩
theorem q_clear [Rep α] {β : Type} {P : β -> Prop} {xs : List α} {k : List α -> β} (hP : P (lt ([] : List α) k)) (s : Same F H) (m : MutL K F H p xs) (hi : σ[i]? = some (some (.ref p)))
    (nxt : forall F1 H1, Md p F H F1 H1 -> MutL K F1 H1 p ([] : List α) -> P (k []) -> u D σ H1) : tSeq (tDrop (tBM0 K "list" rClear (tVar i))) u D σ H := by
  obtain ⟨f, vs, e, r⟩ := id m
  exact ⟨.ref p, hi, .inl ⟨rfl, vs, SqL.of e⟩, p, vs, rfl, rfl, e, nxt F _ (Md.of m (Gr.refl s)) ⟨f, _, upd_same, .nil⟩ (p_lt P hP)⟩
/-! ### comprehensions -/
def lc {α β : Type} (xs : List α) (c : α -> Bool) (f : α -> β) : List β := (xs.filter c).map f
theorem lc_snoc {α β : Type} (xs : List α) (x : α) (c : α -> Bool) (f : α -> β) : lc (xs ++ [x]) c f = lc xs c f ++ (if c x = true then [f x] else []) := by
  unfold lc
  rw [List.filter_append, List.map_append]
  congr 1
  by_cases h : c x = true
  · rw [if_pos h, List.filter_cons, if_pos h]; rfl
  · rw [if_neg h, List.filter_cons, if_neg h]; rfl
theorem lc_len {α β : Type} (xs : List α) (c : α -> Bool) (f : α -> β) : (lc xs c f).length ≤ xs.length := by
  unfold lc
  rw [List.length_map]
  exact List.length_filter_le _ _
theorem lc_true_len {α β : Type} (xs : List α) (f : α -> β) : (lc xs (fun _ => true) f).length = xs.length := by
  unfold lc
  rw [List.length_map, List.filter_eq_self.mpr (fun _ _ => rfl)]
theorem Gr.mut {o : HO} (g : Gr F H F1 H1) (n : H p = none) (f : F1 p = none) : Gr F H F1 (upd H1 p o) :=
  ⟨g.ex, fun a u e => by rw [upd_ne (ne_of_none e n)]; exact g.keep a u e, same_mut g.sub f, g.new⟩
theorem tl_lc [Rep α] [Rep β] {xs : List α} {wi : TI} {g : TG} {vs : List Nat} {S' : Hp -> Hp -> Prop} (c : α -> Bool) (f : α -> β) (hx : Itr K wi σ F H S' xs) (hS : Stb S') (h0 : S' F H) (hl : xs.length < 100000)
    (hs : forall (i : Nat) x v F' H', xs[i]? = some x -> Gr F H F' H' -> rp K F' x v -> forall R : St -> Hp -> Prop, (forall σ2, wipe σ2 vs = wipe σ vs -> Tt tt σ2 H' (c x) -> (forall H'', Same H' H'' -> c x = true -> Tv K te σ2 F' H'' (f x)) -> R σ2 H') -> g v (wipe σ vs) H' R) :
    TvL K (tLc wi g tt te vs) σ F H (lc xs c f) := fun F1 H1 gr Q q =>
  hx F1 H1 gr _ fun J F2 H2 g2 W => fun Dl hD => by
    refine ⟨fun i m H' => m = xs.length - i ∧ i ≤ xs.length ∧ exists F3, Gr F2 H2 F3 H' ∧ MutL K F3 H' Dl (lc (xs.take i) c f), ⟨xs.length, by simp, Nat.zero_le _, F2, Gr.put g2.sub hD, none_of g2.sub hD, [], upd_same, .nil⟩, ?_⟩
    rintro i m H' ⟨rfl, hi, F3, g3, md⟩
    have hf3 := md.fr
    by_cases hlt : i < xs.length
    · refine .inr ⟨W.go i F3 H' g3.ex g3.sub (hS.go ((gr.trans g2).trans g3) h0) hlt, fun H4 => exists F4, Gr F2 H2 F4 H4 ∧ MutL K F4 H4 Dl (lc (xs.take (i + 1)) c f), fun H4 ⟨F4, a1, a2⟩ => ⟨xs.length - (i + 1), by omega, rfl, hlt, F4, a1, a2⟩, fun v H4 y => ?_⟩
      obtain ⟨F4, g4, hv⟩ := W.yld i H' F3 v H4 g3.ex g3.sub (hS.go ((gr.trans g2).trans g3) h0) y hlt
      have hxi : xs[i]? = some (xs[i]'hlt) := by simp
      have g24 := g3.trans g4
      refine hs i (xs[i]'hlt) v F4 H4 hxi ((gr.trans g2).trans g24) (hv _ hxi) _ fun σ2 hw ht he => ⟨hw, ht H4 (Same.refl H4) _ fun H5 e5 => ?_⟩
      have g25 := g24.trans (Gr.up g24.sub e5)
      have md5 : MutL K F4 H5 Dl (lc (xs.take i) c f) := (md.go g4).grow e5
      rw [take_snoc hxi, lc_snoc]
      cases hc : c (xs[i]'hlt) with
      | false => exact ⟨F4, g25, by simpa using md5⟩
      | true =>
        refine he H5 e5 hc F4 H5 (Gr.refl (g24.sub.trans e5)) _ fun F6 H6 w g6 rw' => ?_
        obtain ⟨f6, ws, e6, r6⟩ := md5.go g6
        refine ⟨ws, e6, ?_, F6, (g25.trans g6).mut hD f6, f6, _, upd_same, ?_⟩
        · rw [wk_len r6]
          exact szl (Nat.lt_of_le_of_lt (lc_len _ _ _) (Nat.lt_of_le_of_lt (List.length_take_le _ _) (by omega)))
        · rw [if_pos rfl]
          exact rps_app r6 (.cons rw' .nil)
    · have e : i = xs.length := by omega
      subst e
      rw [List.take_length] at md
      exact .inl ⟨W.stop _ F3 H' g3.ex g3.sub (hS.go ((gr.trans g2).trans g3) h0) (Nat.le_refl _), q F3 H' Dl (g2.trans g3) (none_of g2.keep hD) md⟩
theorem tt_yes : Tt tYes σ H true := fun H1 e Q q => q H1 (Same.refl H1)
end
end Rf

/-! ### more: unpacking, zip, enumerate, chains, None, isinstance, data -/
namespace Rf
open PySem L2
open Rep (rp)
theorem GrZ.grow {Z : Addr -> Prop} {F0 H0 F H H1 : Hp} (g : GrZ Z F0 H0 F H) (e : Same H H1) : GrZ Z F0 H0 F H1 := g.then (Gr.up g.sub e)
theorem GrZ.newIn {Z : Addr -> Prop} {F0 H0 F H : Hp} {p : Addr} (g : GrZ Z F0 H0 F H) (n : H p = none) : H0 p = none := by
  cases q : H0 p with
  | none => rfl
  | some o =>
    obtain ⟨o', e⟩ := g.dom p o q
    rw [n] at e; cases e
@[irreducible] def ltL2 {α β : Type} [Inhabited α] (xs : List α) (k : α -> α -> β) : β := k (ixI xs 0) (ixI xs 1)
@[irreducible] def ltL3 {α β : Type} [Inhabited α] (xs : List α) (k : α -> α -> α -> β) : β := k (ixI xs 0) (ixI xs 1) (ixI xs 2)
theorem ltL2_eq {α β : Type} [Inhabited α] (xs : List α) (k : α -> α -> β) : ltL2 xs k = k (ixI xs 0) (ixI xs 1) := by unfold ltL2; rfl
theorem ltL3_eq {α β : Type} [Inhabited α] (xs : List α) (k : α -> α -> α -> β) : ltL3 xs k = k (ixI xs 0) (ixI xs 1) (ixI xs 2) := by unfold ltL3; rfl
section
variable {K : Fg} {Z : Addr -> Prop} {σ : St} {F H F0 H0 F1 H1 F2 H2 : Hp} {te ta tb tc : TE} {tt : TT} {t1 t2 u : TS} {D : Ends} {i j l : Nat} {p q : Addr}
theorem tv_neg {n : Int} (h : Tv K te σ H H n) : Tv K (tUn (rU fun i => .int (-i)) te) σ H H (-n) := fun F1 H1 g Q q =>
  h F1 H1 g _ fun F2 H2 v g2 r => ⟨n, r, q F2 H2 _ g2 rfl⟩
theorem tv_chain [Rep α] [Rep β] [Rep γ] {x : α} {y : β} {z : γ} {r r' : R2} {b c : Bool} (ha : Tv K ta σ H H x) (hb : Tv K tb σ H H y) (ho : Op2 K r x y b) (hc : Tv K tc σ H H z) (ho' : Op2 K r' y z c) : Tv K (tChain r r' ta tb tc) σ H H (b && c) := fun F1 H1 g Q q =>
  ha F1 H1 g _ fun F2 H2 v g2 r1 => hb F2 H2 (g.trans g2) _ fun F3 H3 w g3 r2 => ho F3 H3 v w g3.sub (up g3.ex r1) r2 _ fun F4 H4 k g4 rk => ⟨b, rk, by
    cases b with
    | false => exact q F4 H4 _ ((g2.trans g3).trans g4) rfl
    | true => exact hc F4 H4 (((g.trans g2).trans g3).trans g4) _ fun F5 H5 z' g5 r5 => ho' F5 H5 w z' g5.sub (up (g4.ex.trans g5.ex) r2) r5 _ fun F6 H6 k' g6 rk' => q F6 H6 k' ((((g2.trans g3).trans g4).trans g5).trans g6) rk'⟩
/-- x is None -/
class Nn (α : Type) [Rep α] : Prop where
  nn : forall {K : Fg} {F : Hp} {x : α} {v : V}, rp K F x v -> v ≠ .non
instance : Nn Int := ⟨fun h z => by rw [show _ = V.int _ from h] at z; cases z⟩
instance : Nn Bool := ⟨fun h z => by rw [show _ = V.bl _ from h] at z; cases z⟩
instance : Nn PySem.Str := ⟨fun h z => by rw [show _ = V.str _ from h] at z; cases z⟩
instance [Rep α] : Nn (List α) := ⟨fun ⟨_, _, e, _⟩ z => by rw [e] at z; cases z⟩
instance [Rep α] [RepT β] : Nn (α × β) := ⟨fun ⟨_, _, e, _⟩ z => by rw [e] at z; cases z⟩
instance [Rep α] : Nn (Tup α) := ⟨fun ⟨_, _, e, _⟩ z => by rw [e] at z; cases z⟩
theorem op2_isN [Rep α] [Nn α] {x : Option α} : Op2 K rIsN x () x.isNone := fun F H v w s r1 r2 Q q => by
  refine ⟨r2, q F H _ (Gr.refl s) ?_⟩
  cases x with
  | none => rw [show v = V.non from r1]; rfl
  | some y =>
    have n := Nn.nn (α := α) (x := y) r1
    show V.bl _ = V.bl _
    simp [n]
theorem op2_notN [Rep α] [Nn α] {x : Option α} : Op2 K rNotN x () x.isSome := fun F H v w s r1 r2 Q q => by
  refine ⟨r2, q F H _ (Gr.refl s) ?_⟩
  cases x with
  | none => rw [show v = V.non from r1]; rfl
  | some y =>
    have n := Nn.nn (α := α) (x := y) r1
    show V.bl _ = V.bl _
    simp [n]
theorem op2_isNU : Op2 K rIsN () () true := fun F H v w s r1 r2 Q q => ⟨r2, q F H _ (Gr.refl s) (by rw [show v = V.non from r1]; rfl)⟩
theorem op2_notNU : Op2 K rNotN () () false := fun F H v w s r1 r2 Q q => ⟨r2, q F H _ (Gr.refl s) (by rw [show v = V.non from r1]; rfl)⟩
theorem op2_isNF [Rep α] [Nn α] {x : α} : Op2 K rIsN x () false := fun F H v w s r1 r2 Q q => ⟨r2, q F H _ (Gr.refl s) (by show V.bl _ = V.bl _; simp [Nn.nn r1])⟩
theorem op2_notNF [Rep α] [Nn α] {x : α} : Op2 K rNotN x () true := fun F H v w s r1 r2 Q q => ⟨r2, q F H _ (Gr.refl s) (by show V.bl _ = V.bl _; simp [Nn.nn r1])⟩
/-- isinstance of a thing of a known kind -/
class Typ (α : Type) [Rep α] (n : String) : Prop where
  is : forall {K : Fg} {F H : Hp} {x : α} {v : V}, rp K F x v -> Same F H -> TyX K H v (.type n)
instance : Typ Int "int" := ⟨fun h _ => by rw [show _ = V.int _ from h]; exact .base (.int _)⟩
instance : Typ Bool "bool" := ⟨fun h _ => by rw [show _ = V.bl _ from h]; exact .base (.bl _)⟩
instance : Typ PySem.Str "str" := ⟨fun h _ => by rw [show _ = V.str _ from h]; exact .base (.str _)⟩
instance : Typ Unit "NoneType" := ⟨fun h _ => by rw [show _ = V.non from h]; exact .base .non⟩
instance [Rep α] : Typ (List α) "list" := ⟨fun ⟨a, vs, e, q, _⟩ s => by rw [e]; exact .base (.lst (s a _ q))⟩
instance [Rep α] [RepT β] : Typ (α × β) "tuple" := ⟨fun ⟨a, vs, e, q, _⟩ s => by rw [e]; exact .base (.tup (s a _ q))⟩
instance [Rep α] : Typ (Tup α) "tuple" := ⟨fun ⟨a, vs, e, q, _⟩ s => by rw [e]; exact .base (.tup (s a _ q))⟩
theorem tv_isi [Rep α] {x : α} {n c : String} {b : Bool} [Typ α n] (h : Tv K ta σ H H x) (e : kitB n c = some b) : Tv K (tCB (rIsi K) (tCons ta (tCons (tC (.ty c)) tNil))) σ H H b := fun F1 H1 g Q q =>
  h F1 H1 g _ fun F2 H2 v g2 r => ⟨v, .ty c, .type n, .type c, b, rfl, .ty c, Typ.is r g2.sub, kit_ty e, q F2 H2 _ g2 rfl⟩
/-! ### unpacking -/
theorem q_unp2 [Rep α] [Rep β] {γ : Type} {e : α × β} {k : α -> β -> γ} {P : γ -> Prop} (hP : P (lt2 e k)) (s : Same F H) (he : Tv K te σ F H e)
    (nxt : forall a b F1 H1 v w, (a, b) = e -> Gr F H F1 H1 -> rp K F1 a v -> rp K F1 b w -> P (k a b) -> u D ((σ.set i (some v)).set j (some w)) H1) : tSeq (tAsg te (gTup K 2 (gCons (gName i) (gCons (gName j) gNil)))) u D σ H :=
  he F H (Gr.refl s) _ fun F2 H2 v g r => g_tup2 (Q := fun σ' H' => u D σ' H') g.sub r fun a b ra rb => nxt e.1 e.2 F2 H2 a b rfl g ra rb (by rw [lt2_eq] at hP; exact hP)
theorem q_unp3 [Rep α] [Rep β] [Rep γ] {δ : Type} {e : α × β × γ} {k : α -> β -> γ -> δ} {P : δ -> Prop} (hP : P (lt3 e k)) (s : Same F H) (he : Tv K te σ F H e)
    (nxt : forall a b c F1 H1 v w z, (a, b, c) = e -> Gr F H F1 H1 -> rp K F1 a v -> rp K F1 b w -> rp K F1 c z -> P (k a b c) -> u D (((σ.set i (some v)).set j (some w)).set l (some z)) H1) : tSeq (tAsg te (gTup K 3 (gCons (gName i) (gCons (gName j) (gCons (gName l) gNil))))) u D σ H :=
  he F H (Gr.refl s) _ fun F2 H2 v g r => g_tup3 (Q := fun σ' H' => u D σ' H') g.sub r fun a b c ra rb rc => nxt e.1 e.2.1 e.2.2 F2 H2 a b c rfl g ra rb rc (by rw [lt3_eq] at hP; exact hP)
theorem ixI_0 {α : Type} [Inhabited α] (x : α) (r : List α) : ixI (x :: r) 0 = x := rfl
theorem ixI_1 {α : Type} [Inhabited α] (x y : α) (r : List α) : ixI (x :: y :: r) 1 = y := rfl
theorem ixI_2 {α : Type} [Inhabited α] (x y z : α) (r : List α) : ixI (x :: y :: z :: r) 2 = z := rfl
theorem q_unpL2 [Rep α] [Inhabited α] {γ : Type} {e : List α} {k : α -> α -> γ} {P : γ -> Prop} (hP : P (ltL2 e k)) (s : Same F H) (he : Tv K te σ F H e) (hl : e.length = 2)
    (nxt : forall a b F1 H1 v w, e = [a, b] -> Gr F H F1 H1 -> rp K F1 a v -> rp K F1 b w -> P (k a b) -> u D ((σ.set i (some v)).set j (some w)) H1) : tSeq (tAsg te (gLst K 2 (gCons (gName i) (gCons (gName j) gNil)))) u D σ H := by
  refine he F H (Gr.refl s) _ fun F2 H2 v g r => ?_
  obtain ⟨a, vs, rfl, q, rr⟩ := r
  match e, vs, rr, hl with
  | [x, y], _, .cons rx (.cons ry .nil), _ =>
    rw [ltL2_eq] at hP
    exact ⟨a, _, rfl, SqL.of (g.sub a _ q), rfl, _, _, rfl, _, _, rfl, rfl, nxt x y F2 H2 _ _ rfl g rx ry hP⟩
theorem q_unpL3 [Rep α] [Inhabited α] {γ : Type} {e : List α} {k : α -> α -> α -> γ} {P : γ -> Prop} (hP : P (ltL3 e k)) (s : Same F H) (he : Tv K te σ F H e) (hl : e.length = 3)
    (nxt : forall a b c F1 H1 v w z, e = [a, b, c] -> Gr F H F1 H1 -> rp K F1 a v -> rp K F1 b w -> rp K F1 c z -> P (k a b c) -> u D (((σ.set i (some v)).set j (some w)).set l (some z)) H1) : tSeq (tAsg te (gLst K 3 (gCons (gName i) (gCons (gName j) (gCons (gName l) gNil))))) u D σ H := by
  refine he F H (Gr.refl s) _ fun F2 H2 v g r => ?_
  obtain ⟨a, vs, rfl, q, rr⟩ := r
  match e, vs, rr, hl with
  | [x, y, z], _, .cons rx (.cons ry (.cons rz .nil)), _ =>
    rw [ltL3_eq] at hP
    exact ⟨a, _, rfl, SqL.of (g.sub a _ q), rfl, _, _, rfl, _, _, rfl, _, _, rfl, rfl, nxt x y z F2 H2 _ _ _ rfl g rx ry rz hP⟩
theorem tlen [Rep α] [RepT β] {n : Nat} [LenT (α × β) n] {z : α × β} (hn : n ≤ 100000) : forall F vs, RepT.rt K F z vs -> vs.length ≤ 100000 := fun F vs h => by rw [LenT.len (n := n) h]; exact hn
/-! ### zip, enumerate -/
def zipP {α β : Type} (xs : List α) (ys : List β) : List (Pr α β) := (List.zip xs ys).map fun p => ⟨p.1, p.2⟩
theorem zipP_len {α β : Type} (xs : List α) (ys : List β) : (zipP xs ys).length = min xs.length ys.length := by simp [zipP]
theorem zip_at {α β : Type} {xs : List α} {ys : List β} {i : Nat} {p : Pr α β} (h : (zipP xs ys)[i]? = some p) : xs[i]? = some p.1 ∧ ys[i]? = some p.2 := by
  unfold zipP at h
  rw [List.getElem?_map] at h
  cases e : (List.zip xs ys)[i]? with
  | none => rw [e] at h; cases h
  | some q =>
    rw [e] at h
    cases h
    rw [List.getElem?_zip_eq_some] at e
    exact e
theorem wk_zip [Rep α] [Rep β] {a b : Addr} {vs ws : List V} {xs : List α} {ys : List β} (q : F a = some (.lst vs)) (r : Rps K F xs vs) (q' : F b = some (.lst ws)) (r' : Rps K F ys ws) : Wk K (Itz K a b) F ST (zipP xs ys) where
  go := fun i G H s0 s1 _ h => by
    have s := s0.trans s1
    rw [zipP_len] at h
    exact ⟨vs, ws, vs[i]'(by rw [wk_len r]; omega), ws[i]'(by rw [wk_len r']; omega), SqL.of (s a _ q), SqL.of (s b _ q'), by simp, by simp⟩
  stop := fun i G H s0 s1 _ h => by
    have s := s0.trans s1
    rw [zipP_len] at h
    exact ⟨vs, ws, SqL.of (s a _ q), SqL.of (s b _ q'), by rw [wk_len r, wk_len r']; omega⟩
  yld := fun i H F3 v H' s s3 _ y h => by
    obtain ⟨T, x, z, rfl, hT, rfl, h1, h2⟩ := y
    refine ⟨_, Gr.lay s3 hT, fun p hp => ?_⟩
    obtain ⟨e1, e2⟩ := zip_at hp
    obtain ⟨v1, k1, m1⟩ := rps_at r e1
    obtain ⟨v2, k2, m2⟩ := rps_at r' e2
    have z1 := h1 vs (SqL.of (s3 a _ (s a _ q)))
    have z2 := h2 ws (SqL.of (s3 b _ (s b _ q')))
    rw [k1] at z1; rw [k2] at z2
    cases z1; cases z2
    have n := same_new (o := .tup [x, z]) (none_of s3 hT)
    exact ⟨T, x, z, rfl, upd_same, up (s.trans n) m1, up (s.trans n) m2⟩
theorem it_zip [Rep α] [Rep β] {xs : List α} {ys : List β} (h : Tv K ta σ F H xs) (h' : Tv K tb σ F H ys) : Itr K (iZip K (tCons ta (tCons tb tNil))) σ F H ST (zipP xs ys) := fun F1 H1 g R q =>
  h F1 H1 g _ fun F2 H2 v g2 ⟨a, vs, e, hq, hr⟩ => h' F2 H2 (g.trans g2) _ fun F3 H3 w g3 ⟨b, ws, e', hq', hr'⟩ =>
    ⟨a, b, vs, ws, by rw [e, e'], SqL.of (g3.sub a _ (g3.ex a _ hq)), SqL.of (g3.sub b _ hq'), q _ F3 H3 (g2.trans g3) (wk_zip (g3.ex a _ hq) (rps_mono g3.ex hr) hq' hr')⟩
def enumI {α : Type} (xs : List α) : List (Pr Int α) := zipP (rng 0 xs.length) xs
/-- a loop's or a comprehension's one name -/
theorem g_nameF [Rep α] [Flat α] {x : α} {v : V} {Q : St -> Hp -> Prop} (h : rp K F x v) (k : v = Flat.val x -> Q (σ.set i (some (Flat.val x))) H) : gName i v σ H Q := by
  have e := Flat.is h
  subst e
  exact k rfl
/-! ### == of data -/
class Dat (α : Type) [Rep α] where
  dat : α -> PyData
  dp : forall {K : Fg} {F : Hp} {x : α} {v : V}, rp K F x v -> Dp K F v (dat x)
  ok : α -> Prop
  sh : Nat
  can : forall x : α, ok x -> (dat x).canLay0 = true ∧ (dat x).depth ≤ sh
  eqv : forall x y : α, PyData.eqv (dat x) (dat y) = true ↔ x = y
instance : Dat Int := ⟨fun i => .int i, fun h => by rw [show _ = V.int _ from h]; exact .int _, fun _ => True, 0, fun x _ => ⟨by simp [PyData.canLay0], by simp [PyData.depth]⟩, fun x y => by simp [PyData.eqv]⟩
instance : Dat Bool := ⟨fun i => .bool i, fun h => by rw [show _ = V.bl _ from h]; exact .bl _, fun _ => True, 0, fun x _ => ⟨by simp [PyData.canLay0], by simp [PyData.depth]⟩, fun x y => by simp [PyData.eqv]⟩
instance : Dat Unit := ⟨fun _ => .none, fun h => by rw [show _ = V.non from h]; exact .non, fun _ => True, 0, fun x _ => ⟨by simp [PyData.canLay0], by simp [PyData.depth]⟩, fun x y => by simp [PyData.eqv]⟩
instance : Dat PySem.Str := ⟨fun i => .str i, fun h => by rw [show _ = V.str _ from h]; exact .str _, fun x => PyData.strOk x = true, 0, fun x h => ⟨by simpa [PyData.canLay0] using h, by simp [PyData.depth]⟩, fun x y => by simp [PyData.eqv]⟩
theorem dpAll [Rep α] [Dat α] {K : Fg} {F : Hp} : forall {xs : List α} {vs : List V}, Rps K F xs vs -> DpAll K F vs (xs.map Dat.dat)
  | _, _, .nil => .nil
  | _, _, .cons r t => .cons (Dat.dp r) (dpAll t)
theorem canAll [Rep α] [Dat α] : forall (xs : List α), (forall x, x ∈ xs -> Dat.ok x) -> PyData.canLayAll0 (xs.map Dat.dat) = true ∧ PyData.depthAll (xs.map Dat.dat) ≤ Dat.sh α
  | [], _ => ⟨by simp [PyData.canLayAll0], by simp [PyData.depthAll]⟩
  | x :: r, h => by
    obtain ⟨h1, h2⟩ := canAll r fun y hy => h y (List.mem_cons_of_mem _ hy)
    obtain ⟨h3, h4⟩ := Dat.can x (h x (List.mem_cons_self ..))
    constructor
    · simp [PyData.canLayAll0, h3]; simpa using h1
    · simp only [List.map_cons, PyData.depthAll]; omega
theorem eqvAll [Rep α] [Dat α] : forall (xs ys : List α), PyData.eqvAll (xs.map Dat.dat) (ys.map Dat.dat) = true ↔ xs = ys
  | [], [] => by simp [PyData.eqvAll]
  | [], y :: r => by simp [PyData.eqvAll]
  | x :: r, [] => by simp [PyData.eqvAll]
  | x :: r, y :: r' => by
    simp only [List.map_cons, PyData.eqvAll, Bool.and_eq_true, eqvAll r r', Dat.eqv, List.cons.injEq]
instance [Rep α] [Dat α] : Dat (List α) := ⟨fun xs => .list (xs.map Dat.dat), fun ⟨a, vs, e, q, r⟩ => by rw [e]; exact .lst (SqL.of q) (dpAll r), fun xs => forall x, x ∈ xs -> Dat.ok x, Dat.sh α + 1, fun xs h => by
  obtain ⟨h1, h2⟩ := canAll xs h
  exact ⟨by simpa [PyData.canLay0] using h1, by simp only [PyData.depth]; omega⟩, fun x y => by simp only [PyData.eqv]; exact eqvAll x y⟩
instance [Rep α] [Dat α] : Dat (Tup α) := ⟨fun xs => .tuple (xs.l.map Dat.dat), fun ⟨a, vs, e, q, r⟩ => by rw [e]; exact .tup (SqT.of q) (dpAll r), fun xs => forall x, x ∈ xs.l -> Dat.ok x, Dat.sh α + 1, fun xs h => by
  obtain ⟨h1, h2⟩ := canAll xs.l h
  exact ⟨by simpa [PyData.canLay0] using h1, by simp only [PyData.depth]; omega⟩, fun x y => by
  simp only [PyData.eqv]
  rw [eqvAll x.l y.l]
  cases x; cases y; simp⟩
/-- the items of a tuple -/
class DatT (α : Type) [RepT α] where
  ds : α -> List PyData
  dp : forall {K : Fg} {F : Hp} {x : α} {vs : List V}, RepT.rt K F x vs -> DpAll K F vs (ds x)
  ok : α -> Prop
  sh : Nat
  can : forall x : α, ok x -> PyData.canLayAll0 (ds x) = true ∧ PyData.depthAll (ds x) ≤ sh
  eqv : forall x y : α, PyData.eqvAll (ds x) (ds y) = true ↔ x = y
instance (priority := low) [Rep α] [Dat α] : DatT α := ⟨fun x => [Dat.dat x], fun ⟨v, e, r⟩ => by rw [e]; exact .cons (Dat.dp r) .nil, Dat.ok, Dat.sh α, fun x h => by
  obtain ⟨h1, h2⟩ := Dat.can x h
  exact ⟨by simp [PyData.canLayAll0, h1], by simp only [PyData.depthAll]; omega⟩, fun x y => by simp [PyData.eqvAll, Dat.eqv]⟩
instance (priority := high) [Rep α] [RepT β] [Dat α] [DatT β] : DatT (α × β) := ⟨fun x => Dat.dat x.1 :: DatT.ds x.2, fun ⟨v, r, e, h, t⟩ => by rw [e]; exact .cons (Dat.dp h) (DatT.dp t), fun x => Dat.ok x.1 ∧ DatT.ok x.2, max (Dat.sh α) (DatT.sh β), fun x h => by
  obtain ⟨h1, h2⟩ := Dat.can x.1 h.1
  obtain ⟨h3, h4⟩ := DatT.can x.2 h.2
  exact ⟨by simp [PyData.canLayAll0, h1, h3], by simp only [PyData.depthAll]; omega⟩, fun x y => by
  obtain ⟨x1, x2⟩ := x; obtain ⟨y1, y2⟩ := y
  simp [PyData.eqvAll, Dat.eqv, DatT.eqv]⟩
instance [Rep α] [RepT β] [Dat α] [DatT β] : Dat (α × β) := ⟨fun x => .tuple (DatT.ds x), fun ⟨a, vs, e, q, r⟩ => by rw [e]; exact .tup (SqT.of q) (DatT.dp r), fun x => DatT.ok x, DatT.sh (α × β) + 1, fun x h => by
  obtain ⟨h1, h2⟩ := DatT.can x h
  exact ⟨by simpa [PyData.canLay0] using h1, by simp only [PyData.depth]; omega⟩, fun x y => by simp only [PyData.eqv]; exact DatT.eqv x y⟩
theorem shaped_of [Rep α] [Dat α] {x : α} (h : Dat.ok x) (hs : Dat.sh α ≤ 64) : SeqAt.shaped (Dat.dat x) = true := by
  obtain ⟨h1, h2⟩ := Dat.can x h
  unfold SeqAt.shaped
  rw [h1, decide_eq_true (Nat.le_trans h2 hs)]
  rfl
theorem eqv_dec [Rep α] [Dat α] [DecidableEq α] (x y : α) : PyData.eqv (Dat.dat x) (Dat.dat y) = decide (x = y) := by
  rw [Bool.eq_iff_iff, Dat.eqv, decide_eq_true_iff]
theorem op2_eqD [Rep α] [Dat α] [DecidableEq α] {K : Fg} {x y : α} (hx : Dat.ok x) (hy : Dat.ok y) (hs : Dat.sh α ≤ 64) : Op2 K (rEqD K) x y (decide (x = y)) := fun F H v w s r1 r2 Q q =>
  ⟨Dat.dat x, Dat.dat y, Dat.dp (up s r1), Dat.dp (up s r2), shaped_of hx hs, shaped_of hy hs, by rw [eqv_dec]; exact q F H _ (Gr.refl s) rfl⟩
theorem op2_neD [Rep α] [Dat α] [DecidableEq α] {K : Fg} {x y : α} (hx : Dat.ok x) (hy : Dat.ok y) (hs : Dat.sh α ≤ 64) : Op2 K (rNeD K) x y (!decide (x = y)) := fun F H v w s r1 r2 Q q =>
  ⟨Dat.dat x, Dat.dat y, Dat.dp (up s r1), Dat.dp (up s r2), shaped_of hx hs, shaped_of hy hs, by rw [eqv_dec]; exact q F H _ (Gr.refl s) rfl⟩
/-- tuples of ints -/
class Ints (α : Type) [RepT α] where
  ii : α -> List Int
  is : forall {K : Fg} {F : Hp} {x : α} {vs : List V}, RepT.rt K F x vs -> vs = (ii x).map V.int
instance (priority := low) : Ints Int := ⟨fun x => [x], fun ⟨v, e, r⟩ => by rw [e, show v = V.int _ from r]; rfl⟩
instance (priority := high) [RepT β] [Ints β] : Ints (Int × β) := ⟨fun x => x.1 :: Ints.ii x.2, fun ⟨v, r, e, h, t⟩ => by rw [e, show v = V.int _ from h, Ints.is t]; rfl⟩
theorem op2_ltT [RepT β] [Ints β] {K : Fg} {x y : Int × β} : Op2 K (rLtT K) x y (HT.lexLt (Ints.ii x) (Ints.ii y)) := fun F H v w s ⟨a, vs, e, q, r⟩ ⟨b, ws, e', q', r'⟩ Q k => by
  have h1 := Ints.is (α := Int × β) r
  have h2 := Ints.is (α := Int × β) r'
  subst h1 h2
  exact ⟨a, b, _, _, e, e', SqT.of (s a _ q), SqT.of (s b _ q'), k F H _ (Gr.refl s) rfl⟩
end
end Rf

/-! ### defs of the text -/
namespace Rf
open PySem PySem.Spec PyProof.Rows L2
abbrev FnP (K : Fg) (x : PySem.Str) (st : Stmt) (f : Addr) (fd : FuncData) : Prop := FunD K x x (defArgs st) (defBody st) (defScope st) [] [] f fd
/-- the module's def x is there and keeps its promise -/
def Dn (P : Program) (w : World) (K : Fg) (mg : PySem.Str → Option Value) (base : Heap) (CX : CXT) (x : PySem.Str) (k : Nat) (ps : List PySem.Str) (sp : Sp) : Prop :=
  ∃ f fd, FnOk P w K mg base CX k f fd ps sp ∧ mg x = some (.ref f) ∧ PySem.W.keepIn K (.ref f) = true ∧ Binds K fd ps []
end Rf

/-! ### rules whose reading names the written part, K written out (within a comprehension's block the context is a bound one) -/
namespace Rf
open PySem PySem.Spec PyProof.Rows L2
section
variable {X : Cx} {K : Fg}
theorem ix_listK (K : Fg) (h : X.K = K := by rfl) : IxR X (rIxL K) := h ▸ ix_list
theorem ix_tupK (K : Fg) (h : X.K = K := by rfl) : IxR X (rIxT K) := h ▸ ix_tup
theorem len_seqK (K : Fg) (h : X.K = K := by rfl) : CallR X (.builtin "len") (rLen' K) := h ▸ call_len_seq
theorem list_ofK (K : Fg) (h : X.K = K := by rfl) : CallR X (.type "list") (rListOf K) := h ▸ call_list_of
theorem in_seqK (K : Fg) (h : X.K = K := by rfl) : OpR X (compareOp .In) (rIn K false) := h ▸ op_in_seq
theorem notIn_seqK (K : Fg) (h : X.K = K := by rfl) : OpR X (compareOp .NotIn) (rIn K true) := h ▸ op_notIn_seq
theorem sl_listK (K : Fg) (h : X.K = K := by rfl) : SlR X (rSlL K) := h ▸ sl_list
theorem eqDK (K : Fg) (hu : X.A.units + 64 < cLine) (h : X.K = K := by rfl) : OpR X (compareOp .Eq) (rEqD K) := h ▸ op_eqD hu
theorem neDK (K : Fg) (hu : X.A.units + 64 < cLine) (h : X.K = K := by rfl) : OpR X (compareOp .NotEq) (rNeD K) := h ▸ op_neD hu
theorem ltTK (K : Fg) (hu : X.A.units < cLine) (h : X.K = K := by rfl) : OpR X (compareOp .Lt) (rLtT K) := h ▸ op_ltT hu
theorem isiK (K : Fg) (h : X.K = K := by rfl) : CallR X (.builtin "isinstance") (rIsi K) := h ▸ call_isi
theorem pi_listK (K : Fg) {tg l : Expr} {tl : TE} (hl : PE X l tl) (h : X.K = K := by rfl) : PI X tg l (iList K tl) := h ▸ pi_list hl
theorem pi_tupK (K : Fg) {tg l : Expr} {tl : TE} (hl : PE X l tl) (h : X.K = K := by rfl) : PI X tg l (iTup K tl) := h ▸ pi_tup hl
theorem pi_zipK (K : Fg) {e e2 : Expr} {ta : TA} {p pos tpos : Pos} {elts : List Expr} {kk : Nat} (hg : Gl X "zip") (hm : X.mg "zip" = none) (ha : PA X [e, e2] ta) (h : X.K = K := by rfl)
    (hs : starEach [e, e2] X.env = (false, eval e X.env) :: starEach [e2] X.env := by rfl) (hpl : (backTo pos (starEach [e2] X.env)).any (·.1) = false := by rfl) :
    PI X (.Tuple elts kk tpos) (.Call (.Name "zip" p) [e, e2] [] pos) (iZip K ta) := h ▸ pi_zip hg hm ha hs hpl
theorem pg_tupK (K : Fg) {es : List Expr} {k : Nat} {t : TGs} {n : Nat} {pos : Pos} (hc : X.calm = true) (hp : PGs X es t) (h : X.K = K := by rfl)
    (hn : (assignEach es X.env).length = n := by rfl) (hst : (assignEach es X.env).findIdx? (·.1) = none := by rfl) : PG X (.Tuple es k pos) (gTup K n t) := h ▸ pg_tup hc hp hn hst
end
end Rf
namespace Rf
open PySem PySem.Spec PyProof.Rows L2
open Rep (rp)
/-- the items of a tuple whose items are of one kind -/
class ItemsT (τ : Type) (β : outParam Type) [RepT τ] [Rep β] where
  its : τ -> List β
  is : forall {K : Fg} {F : Hp} {x : τ} {vs : List V}, RepT.rt K F x vs -> Rps K F (its x) vs
instance (priority := low) [Rep β] : ItemsT β β := ⟨fun x => [x], fun ⟨v, e, r⟩ => by rw [e]; exact .cons r .nil⟩
instance (priority := high) [Rep β] [RepT τ] [ItemsT τ β] : ItemsT (β × τ) β := ⟨fun x => x.1 :: ItemsT.its x.2, fun ⟨v, r, e, h, t⟩ => by rw [e]; exact .cons h (ItemsT.is t)⟩
theorem it_tupI [Rep β] [RepT τ] [ItemsT τ β] {K : Fg} {te : TE} {σ : St} {F H : Hp} {x : β × τ} (h : Tv K te σ F H x) : Itr K (iTup K te) σ F H ST (ItemsT.its (τ := β × τ) x) := fun F1 H1 g R q =>
  h F1 H1 g _ fun F2 H2 v g2 ⟨a, vs, e, hq, hr⟩ => ⟨a, e, ⟨vs, SqT.of (g2.sub a _ hq)⟩, q _ F2 H2 g2 (wk_tup (SqT.of hq) (ItemsT.is (τ := β × τ) hr))⟩
end Rf
/-! ### copies out of a list that may change still -/
namespace Rf
open PySem PySem.Spec PyProof.Rows L2
open Rep (rp)
section
variable {K : Fg} {σ : St} {F H : Hp} {tb : TE} {i : Nat} {p : Addr}
theorem tl_sliceM [Rep α] {xs : List α} {tl th : TO} {lo hi : Option Int} (e : σ[i]? = some (some (.ref p))) (m : MutL K F H p xs) (h1 : TvO tl σ H lo) (h2 : TvO th σ H hi) : TvL K (tSl (rSlL K) (tVar i) tl th) σ F H (cutI xs lo hi) := fun F1 H1 g Q q => by
  obtain ⟨f, vs, e1, r⟩ := m.go g
  exact ⟨.ref p, e, h1 H1 g.keep _ fun H3 e3 => h2 H3 (g.keep.trans e3) _ fun H4 e4 =>
    ⟨p, vs, rfl, SqL.of (e4 p _ (e3 p _ e1)), fun l hl => q F1 _ l ((Gr.up g.sub (e3.trans e4)).trans (Gr.put ((g.sub.trans e3).trans e4) hl)) (none_of (e3.trans e4) hl) ⟨none_of ((g.sub.trans e3).trans e4) hl, _, upd_same, rps_cut r⟩⟩⟩
theorem tl_listM [Rep α] {xs : List α} (e : σ[i]? = some (some (.ref p))) (m : MutL K F H p xs) : TvL K (tCB (rListOf K) (tCons (tVar i) tNil)) σ F H xs := fun F1 H1 g Q q => by
  obtain ⟨f, vs, e1, r⟩ := m.go g
  exact ⟨.ref p, e, p, vs, rfl, .inl (SqL.of e1), fun l hl => q F1 _ l (Gr.put g.sub hl) hl ⟨none_of g.sub hl, vs, upd_same, r⟩⟩
theorem tv_ixM [Rep α] [Inhabited α] {xs : List α} {n : Int} (e : σ[i]? = some (some (.ref p))) (m : MutL K F H p xs) (hi : Tv K tb σ H H n) (h : InB xs.length n) : Tv K (tOp (rIxL K) (tVar i) tb) σ F H (ixI xs n) := fun F1 H1 g Q q =>
  ⟨.ref p, e, hi H1 H1 (Gr.whole g.keep) _ fun F2 H2 v g2 r2 => by
    obtain ⟨f, vs, e1, r⟩ := m.go g
    obtain ⟨y, hy, ry⟩ := rps_atI r (atI_ix h)
    exact ⟨p, vs, n, y, rfl, r2, SqL.of (g2.keep p _ e1), hy, q F1 H2 y (Gr.up g.sub g2.keep) ry⟩⟩
end
end Rf

set_option Elab.async false
set_option linter.all false
set_option maxRecDepth 100000
set_option maxHeartbeats 4000000
namespace Th
open PySem PySem.Spec PyProof.Rows L2 Rf
open Rep (rp)
def top (i : Nat) : Stmt := PySem.Challenge.pw_threeroofs_k72_whole_those_that_miss.main.body.getD i (.Pass ⟨0, 0, 0, 0⟩)
structure Bs (mg : PySem.Str → Option Value) : Prop where
  b_int : mg "int" = none
  b_isinstance : mg "isinstance" = none
  b_bool : mg "bool" = none
  b_len : mg "len" = none
  b_range : mg "range" = none
  b_list : mg "list" = none
  b_tuple : mg "tuple" = none
  c_NAMES : ∃ t, mg "NAMES" = some (Value.str "abcde" t)
def m_is_whole (thing : Int) : Bool := (true && (!false))
abbrev s_is_whole : Stmt := top 4
def sp_is_whole (K : Fg) : Sp := fun vs H Q _ => ∃ (F : Hp) (thing : Int) (w0 : V), vs = [w0] ∧ Same F H ∧ rp K F thing w0 ∧ Ret K Z0 F H Q (m_is_whole thing)
theorem sv_is_whole {K : Fg} {thing : Int} : SpV K (sp_is_whole K) (fun (F : Hp) (vs : List V) => ∃ v r, vs = v :: r ∧ rp K F thing v ∧ (fun (_ : Hp) (vs : List V) => vs = []) F r) (m_is_whole thing) := by
  intro F H vs Q E s h hQ
  obtain ⟨v0, r0, e0, h0, h⟩ := h
  subst h
  subst e0
  exact ⟨F, thing, v0, rfl, s, h0, fun F' H' p g r => hQ F' H' p g.gr r⟩
theorem sc_is_whole : FnScope ["thing"] ["thing"] (defScope s_is_whole) := ⟨rfl, rfl, rfl, by decide +kernel, rfl, by decide +kernel, by decide +kernel⟩
theorem ok_is_whole {P : Program} {w : World} {K : Fg} {mg : PySem.Str → Option Value} {base : Heap} (B : Bs mg) {f : Addr} {fd : FuncData} (F : FnP K "is_whole" s_is_whole f fd) : FnOk P w K mg base CX0 1 f fd ["thing"] (sp_is_whole K) := by
  have nd : (["thing"] : List PySem.Str).Nodup := sc_is_whole.nd
  refine F.ok sc_is_whole (fun vs H Q E h => ?_) (fun cdv A outer s H0 vs Q E hr h => ?_)
  · obtain ⟨F0, thing, w0, rfl, s, hw0, hP⟩ := h
    rfl
  · obtain ⟨F0, thing, w0, rfl, s, hw0, hP⟩ := h
    obtain rfl := Flat.is hw0
    have g : GrZ Z0 F0 H0 F0 H0 := GrZ.refl s
    refine ⟨_, PSs.nox (by exact (pss_cons (ps_ret (pe_and (pe_callB (isiK K) (by rfl) B.b_isinstance (by decide +kernel) (pa_cons (pv 0) (pa_cons (pe_bltn (v := .ty "int") (by rfl) B.b_int (by decide +kernel) rfl) pa_nil))) (pe_one (pe_not (pe_callB (isiK K) (by rfl) B.b_isinstance (by decide +kernel) (pa_cons (pv 0) (pa_cons (pe_bltn (v := .ty "bool") (by rfl) B.b_bool (by decide +kernel) rfl) pa_nil))))))) pss_nil)), ?_⟩
    exact q_retF hP g (tv_and (tv_isi (α := Int) (n := "int") (c := "int") (b := true) (tv_var rfl (Flat.of _)) (by decide +kernel)) (fun hq1 => (tv_not (tv_isi (α := Int) (n := "int") (c := "bool") (b := false) (tv_var rfl (Flat.of _)) (by decide +kernel)))))
def m__law_cell (script : Scr) (k : Int) : Int := (cond (decide (k < (script.l.length : Int))) (ixI script.l k) (0 : Int))
abbrev s__law_cell : Stmt := top 13
def sp__law_cell (K : Fg) : Sp := fun vs H Q _ => ∃ (F : Hp) (script : Scr) (k : Int) (w0 : V) (w1 : V), vs = [w0, w1] ∧ Same F H ∧ rp K F script w0 ∧ rp K F k w1 ∧ (0 ≤ k) ∧ Ret K Z0 F H Q (m__law_cell script k)
theorem sv__law_cell {K : Fg} {script : Scr} {k : Int} (hpre : 0 ≤ k) : SpV K (sp__law_cell K) (fun (F : Hp) (vs : List V) => ∃ v r, vs = v :: r ∧ rp K F script v ∧ (fun (F : Hp) (vs : List V) => ∃ v r, vs = v :: r ∧ rp K F k v ∧ (fun (_ : Hp) (vs : List V) => vs = []) F r) F r) (m__law_cell script k) := by
  intro F H vs Q E s h hQ
  obtain ⟨v0, r0, e0, h0, h⟩ := h
  obtain ⟨v1, r1, e1, h1, h⟩ := h
  subst h
  subst e1
  subst e0
  exact ⟨F, script, k, v0, v1, rfl, s, h0, h1, hpre, fun F' H' p g r => hQ F' H' p g.gr r⟩
theorem sc__law_cell : FnScope ["script", "k"] ["script", "k"] (defScope s__law_cell) := ⟨rfl, rfl, rfl, by decide +kernel, rfl, by decide +kernel, by decide +kernel⟩
theorem ok__law_cell {P : Program} {w : World} {K : Fg} {mg : PySem.Str → Option Value} {base : Heap} (B : Bs mg) {f : Addr} {fd : FuncData} (F : FnP K "_law_cell" s__law_cell f fd) : FnOk P w K mg base CX0 1 f fd ["script", "k"] (sp__law_cell K) := by
  have nd : (["script", "k"] : List PySem.Str).Nodup := sc__law_cell.nd
  refine F.ok sc__law_cell (fun vs H Q E h => ?_) (fun cdv A outer s H0 vs Q E hr h => ?_)
  · obtain ⟨F0, script, k, vp_0, w1, rfl, s, hp_0, hw1, hpre, hP⟩ := h
    rfl
  · obtain ⟨F0, script, k, vp_0, w1, rfl, s, hp_0, hw1, hpre, hP⟩ := h
    obtain rfl := Flat.is hw1
    have g : GrZ Z0 F0 H0 F0 H0 := GrZ.refl s
    refine ⟨_, PSs.nox (by exact (pss_cons (ps_if (pt_cmpR op_lt (pv 1) (pe_callB (len_seqK K) (by rfl) B.b_len (by decide +kernel) (pa_cons (pv 0) pa_nil)) (nomark _)) (pss_cons (ps_ret (pe_ix (ix_listK K) (pv 0) (pv 1) (fun _ _ => rfl))) pss_nil) pss_nil) (pss_cons (ps_ret pe_int) pss_nil))), ?_⟩
    refine q_if (P := (Ret K Z0 F0 H0 Q)) hP (tt_test (K := K) (tv_op (tv_var rfl (Flat.of _)) (tv_cb (ta_cons (tv_var rfl (up s hp_0)) ta_nil) cb_lenC) op2_lt)) ?_ ?_
    · intro hc1 H1 e1 hP
      have s := s.trans e1
      have g := g.grow e1
      exact q_retF hP g (tv_op (tv_var rfl (up s hp_0)) (tv_var rfl (Flat.of _)) (op2_ixC (by /- 1 ix -/ first | (first | exact ⟨by decide, by decide⟩ | exact ⟨by omega, by omega⟩) | ((try simp only [decide_eq_true_eq, decide_eq_false_iff_not, Bool.not_eq_true', Bool.not_eq_false', Bool.and_eq_true, Bool.and_eq_false_iff, Bool.or_eq_true, Bool.or_eq_false_iff] at hc1); (first | exact ⟨by decide, by decide⟩ | exact ⟨by omega, by omega⟩)))))
    · intro hc1 H1 e1 hP
      first | refine q_endS ?_ | refine q_endC ?_ | refine q_end ?_
      have s := s.trans e1
      have g := g.grow e1
      exact q_retF hP g tv_int
def m__law_whole (found : Int) : Bool := (true && (!false))
abbrev s__law_whole : Stmt := top 14
def sp__law_whole (K : Fg) : Sp := fun vs H Q _ => ∃ (F : Hp) (found : Int) (w0 : V), vs = [w0] ∧ Same F H ∧ rp K F found w0 ∧ Ret K Z0 F H Q (m__law_whole found)
theorem sv__law_whole {K : Fg} {found : Int} : SpV K (sp__law_whole K) (fun (F : Hp) (vs : List V) => ∃ v r, vs = v :: r ∧ rp K F found v ∧ (fun (_ : Hp) (vs : List V) => vs = []) F r) (m__law_whole found) := by
  intro F H vs Q E s h hQ
  obtain ⟨v0, r0, e0, h0, h⟩ := h
  subst h
  subst e0
  exact ⟨F, found, v0, rfl, s, h0, fun F' H' p g r => hQ F' H' p g.gr r⟩
theorem sc__law_whole : FnScope ["found"] ["found"] (defScope s__law_whole) := ⟨rfl, rfl, rfl, by decide +kernel, rfl, by decide +kernel, by decide +kernel⟩
theorem ok__law_whole {P : Program} {w : World} {K : Fg} {mg : PySem.Str → Option Value} {base : Heap} (B : Bs mg) {f : Addr} {fd : FuncData} (F : FnP K "_law_whole" s__law_whole f fd) : FnOk P w K mg base CX0 1 f fd ["found"] (sp__law_whole K) := by
  have nd : (["found"] : List PySem.Str).Nodup := sc__law_whole.nd
  refine F.ok sc__law_whole (fun vs H Q E h => ?_) (fun cdv A outer s H0 vs Q E hr h => ?_)
  · obtain ⟨F0, found, w0, rfl, s, hw0, hP⟩ := h
    rfl
  · obtain ⟨F0, found, w0, rfl, s, hw0, hP⟩ := h
    obtain rfl := Flat.is hw0
    have g : GrZ Z0 F0 H0 F0 H0 := GrZ.refl s
    refine ⟨_, PSs.nox (by exact (pss_cons (ps_ret (pe_and (pe_callB (isiK K) (by rfl) B.b_isinstance (by decide +kernel) (pa_cons (pv 0) (pa_cons (pe_bltn (v := .ty "int") (by rfl) B.b_int (by decide +kernel) rfl) pa_nil))) (pe_one (pe_not (pe_callB (isiK K) (by rfl) B.b_isinstance (by decide +kernel) (pa_cons (pv 0) (pa_cons (pe_bltn (v := .ty "bool") (by rfl) B.b_bool (by decide +kernel) rfl) pa_nil))))))) pss_nil)), ?_⟩
    exact q_retF hP g (tv_and (tv_isi (α := Int) (n := "int") (c := "int") (b := true) (tv_var rfl (Flat.of _)) (by decide +kernel)) (fun hq1 => (tv_not (tv_isi (α := Int) (n := "int") (c := "bool") (b := false) (tv_var rfl (Flat.of _)) (by decide +kernel)))))
def m__law_counts (script : Scr) : (List Int) := (lt ((1 : Int) + ((m__law_cell script (0 : Int)) % (4 : Int))) fun (copies : Int) => (lt (cond (decide ((((m__law_cell script (0 : Int)) / (4 : Int)) % (8 : Int)) = (1 : Int))) (lt (5 : Int) fun (copies : Int) => (copies)) (copies)) (fun (copies : Int) => ([copies, ((1 : Int) + ((m__law_cell script (1 : Int)) % copies)), ((1 : Int) + ((m__law_cell script (2 : Int)) % copies))] : List Int))))
abbrev s__law_counts : Stmt := top 15
def sp__law_counts (K : Fg) : Sp := fun vs H Q _ => ∃ (F : Hp) (script : Scr) (w0 : V), vs = [w0] ∧ Same F H ∧ rp K F script w0 ∧ RetL K Z0 F H Q (m__law_counts script)
theorem sv__law_counts {K : Fg} {script : Scr} : SpL K (sp__law_counts K) (fun (F : Hp) (vs : List V) => ∃ v r, vs = v :: r ∧ rp K F script v ∧ (fun (_ : Hp) (vs : List V) => vs = []) F r) (m__law_counts script) := by
  intro F H vs Q E s h hQ
  obtain ⟨v0, r0, e0, h0, h⟩ := h
  subst h
  subst e0
  exact ⟨F, script, v0, rfl, s, h0, fun F' H' p g n m => hQ F' H' p g.gr n m⟩
theorem sc__law_counts : FnScope ["script", "copies"] ["script"] (defScope s__law_counts) := ⟨rfl, rfl, rfl, by decide +kernel, rfl, by decide +kernel, by decide +kernel⟩
theorem ok__law_counts {P : Program} {w : World} {K : Fg} {mg : PySem.Str → Option Value} {base : Heap} (B : Bs mg) (D__law_cell : Dn P w K mg base CX0 "_law_cell" 1 ["script", "k"] (sp__law_cell K)) {f : Addr} {fd : FuncData} (F : FnP K "_law_counts" s__law_counts f fd) : FnOk P w K mg base CX0 2 f fd ["script"] (sp__law_counts K) := by
  obtain ⟨f__law_cell, d__law_cell, G__law_cell, g__law_cell, k__law_cell, b__law_cell⟩ := D__law_cell
  have nd : (["script", "copies"] : List PySem.Str).Nodup := sc__law_counts.nd
  refine F.ok sc__law_counts (fun vs H Q E h => ?_) (fun cdv A outer s H0 vs Q E hr h => ?_)
  · obtain ⟨F0, script, vp_0, rfl, s, hp_0, hP⟩ := h
    rfl
  · obtain ⟨F0, script, vp_0, rfl, s, hp_0, hP⟩ := h
    have g : GrZ Z0 F0 H0 F0 H0 := GrZ.refl s
    refine ⟨_, PSs.nox (by exact (pss_cons (ps_set (i := 1) nd rfl (Or.inl rfl) (pe_op op_add pe_int (pe_op op_mod (pe_call G__law_cell (hr.mono (by omega)) rfl g__law_cell k__law_cell b__law_cell .nil pass0 (pa_cons (pv 0) (pa_cons pe_int pa_nil))) pe_int))) (Evl.pss_cut (ps_if (pt_cmpR op_eq (pe_op op_mod (pe_op op_fdiv (pe_call G__law_cell (hr.mono (by omega)) rfl g__law_cell k__law_cell b__law_cell .nil pass0 (pa_cons (pv 0) (pa_cons pe_int pa_nil))) pe_int) pe_int) pe_int (nomark _)) (pss_cons (ps_set (i := 1) nd rfl (Or.inl rfl) pe_int) pss_nil) pss_nil) (pss_cons (ps_ret (pe_lst (pa_cons (pv 1) (pa_cons (pe_op op_add pe_int (pe_op op_mod (pe_call G__law_cell (hr.mono (by omega)) rfl g__law_cell k__law_cell b__law_cell .nil pass0 (pa_cons (pv 0) (pa_cons pe_int pa_nil))) (pv 1))) (pa_cons (pe_op op_add pe_int (pe_op op_mod (pe_call G__law_cell (hr.mono (by omega)) rfl g__law_cell k__law_cell b__law_cell .nil pass0 (pa_cons (pv 0) (pa_cons pe_int pa_nil))) (pv 1))) pa_nil))))) pss_nil)))), ?_⟩
    refine q_setF (K := K) (P := (RetL K Z0 F0 H0 Q)) hP (tv_op tv_int (tv_op (tv_call (ta_cons (tv_var rfl (up s hp_0)) (ta_cons tv_int ta_nil)) (sv__law_cell (by /- 1 pre:_law_cell -/ first | decide | assumption | omega))) tv_int (op2_mod (by /- 2 pos -/ first | decide | omega))) op2_add) ?_
    intro copies H1 hcopies e1 hP
    have s := s.trans e1
    have g := g.grow e1
    refine q_ifJ (F := F0) (P := (RetL K Z0 F0 H0 Q)) hP (tt_test (K := K) (tv_op (tv_op (tv_op (tv_call (ta_cons (tv_var rfl (up s hp_0)) (ta_cons tv_int ta_nil)) (sv__law_cell (by /- 3 pre:_law_cell -/ first | decide | assumption | omega))) tv_int (op2_div (by /- 4 CDiv -/ first | exact ⟨by decide, by decide⟩ | exact ⟨by omega, by omega⟩))) tv_int (op2_mod (by /- 5 pos -/ first | decide | omega))) tv_int op2_eqI)) (fun F H σ st => σ = [some vp_0, some (Flat.val st)] ∧ GrZ Z0 F0 H0 F H ∧ (1 ≤ st ∧ st ≤ 5)) ?_ ?_ ?_
    · intro hc2 Hc2 Nj2 ec2 Pj2 hP hN2
      have smj2 := Same.refl F0
      have s := s.trans ec2
      have g := g.grow ec2
      refine q_setF (K := K) (P := Pj2) hP tv_int ?_
      intro copies H3 hcopies e3 hP
      have s := s.trans e3
      have g := g.grow e3
      first | refine q_endS ?_ | refine q_endC ?_ | refine q_end ?_
      exact hN2 _ hP _ _ _ smj2 ⟨rfl, g, (by /- 6 inv -/ first | (first | omega | rfl | (simp only [hcopies, List.length_append, List.length_cons, List.length_nil, lc_true_len, rng_len]; omega) | (subst_vars; first | omega | (simp; done) | (simp; omega))) | ((try simp only [decide_eq_true_eq, decide_eq_false_iff_not, Bool.not_eq_true', Bool.not_eq_false', Bool.and_eq_true, Bool.and_eq_false_iff, Bool.or_eq_true, Bool.or_eq_false_iff] at hc2); (first | omega | rfl | (simp only [hcopies, List.length_append, List.length_cons, List.length_nil, lc_true_len, rng_len]; omega) | (subst_vars; first | omega | (simp; done) | (simp; omega)))))⟩
    · intro hc2 Hc2 Nj2 ec2 Pj2 hP hN2
      have smj2 := Same.refl F0
      have s := s.trans ec2
      have g := g.grow ec2
      first | refine q_endS ?_ | refine q_endC ?_ | refine q_end ?_
      exact hN2 _ hP _ _ _ smj2 ⟨rfl, g, (by /- 7 inv -/ first | (first | omega | rfl | (simp only [hcopies, List.length_append, List.length_cons, List.length_nil, lc_true_len, rng_len]; omega) | (subst_vars; first | omega | (simp; done) | (simp; omega))) | ((try simp only [decide_eq_true_eq, decide_eq_false_iff_not, Bool.not_eq_true', Bool.not_eq_false', Bool.and_eq_true, Bool.and_eq_false_iff, Bool.or_eq_true, Bool.or_eq_false_iff] at hc2); (first | omega | rfl | (simp only [hcopies, List.length_append, List.length_cons, List.length_nil, lc_true_len, rng_len]; omega) | (subst_vars; first | omega | (simp; done) | (simp; omega)))))⟩
    · rintro copies Fj2 Hj2 σ2 hst2 fj2 ⟨rfl, g, hx_2⟩ hP
      have s := g.sub
      try dsimp only at hx_2
      have hp_0 := up fj2 hp_0
      exact q_retL hP g (tl_lst (ta_rcons (tv_flat (tv_var rfl (Flat.of _))) (ta_rcons (tv_flat (tv_op tv_int (tv_op (tv_call (ta_cons (tv_var rfl (up s hp_0)) (ta_cons tv_int ta_nil)) (sv__law_cell (by /- 8 pre:_law_cell -/ first | decide | assumption | omega))) (tv_var rfl (Flat.of _)) (op2_mod (by /- 9 pos -/ first | decide | omega))) op2_add)) (ta_rcons (tv_flat (tv_op tv_int (tv_op (tv_call (ta_cons (tv_var rfl (up s hp_0)) (ta_cons tv_int ta_nil)) (sv__law_cell (by /- 10 pre:_law_cell -/ first | decide | assumption | omega))) (tv_var rfl (Flat.of _)) (op2_mod (by /- 11 pos -/ first | decide | omega))) op2_add)) ta_rnil))) (by show 3 ≤ 100000; decide))
def m__law_twos (many : Int) : Int := (lt (1 : Int) fun (found : Int) => (lt (List.foldl (fun (found : (Int)) (k : Int) => (lt (found * (2 : Int)) fun (found : Int) => (found))) (found) (rng 0 (many).toNat)) (fun (found : Int) => found)))
abbrev s__law_twos : Stmt := top 17
def sp__law_twos (K : Fg) : Sp := fun vs H Q _ => ∃ (F : Hp) (many : Int) (w0 : V), vs = [w0] ∧ Same F H ∧ rp K F many w0 ∧ (0 ≤ many ∧ many ≤ 5) ∧ Ret K Z0 F H Q (m__law_twos many)
theorem sv__law_twos {K : Fg} {many : Int} (hpre : 0 ≤ many ∧ many ≤ 5) : SpV K (sp__law_twos K) (fun (F : Hp) (vs : List V) => ∃ v r, vs = v :: r ∧ rp K F many v ∧ (fun (_ : Hp) (vs : List V) => vs = []) F r) (m__law_twos many) := by
  intro F H vs Q E s h hQ
  obtain ⟨v0, r0, e0, h0, h⟩ := h
  subst h
  subst e0
  exact ⟨F, many, v0, rfl, s, h0, hpre, fun F' H' p g r => hQ F' H' p g.gr r⟩
theorem sc__law_twos : FnScope ["many", "found", "k"] ["many"] (defScope s__law_twos) := ⟨rfl, rfl, rfl, by decide +kernel, rfl, by decide +kernel, by decide +kernel⟩
theorem ok__law_twos {P : Program} {w : World} {K : Fg} {mg : PySem.Str → Option Value} {base : Heap} (B : Bs mg) {f : Addr} {fd : FuncData} (F : FnP K "_law_twos" s__law_twos f fd) : FnOk P w K mg base CX0 1 f fd ["many"] (sp__law_twos K) := by
  have nd : (["many", "found", "k"] : List PySem.Str).Nodup := sc__law_twos.nd
  refine F.ok sc__law_twos (fun vs H Q E h => ?_) (fun cdv A outer s H0 vs Q E hr h => ?_)
  · obtain ⟨F0, many, w0, rfl, s, hw0, hpre, hP⟩ := h
    rfl
  · obtain ⟨F0, many, w0, rfl, s, hw0, hpre, hP⟩ := h
    obtain rfl := Flat.is hw0
    have g : GrZ Z0 F0 H0 F0 H0 := GrZ.refl s
    refine ⟨_, PSs.nox (by exact (pss_cons (ps_set (i := 1) nd rfl (Or.inl rfl) pe_int) (pss_cons (ps_for PassesOwn.never rfl (pi_range1 rfl B.b_range (pa_cons (pv 0) pa_nil)) (pg_name (i := 2) nd rfl (Or.inl rfl)) (pss_cons (ps_set (i := 1) nd rfl (Or.inl rfl) (pe_op op_mul (pv 1) pe_int)) pss_nil)) (pss_cons (ps_ret (pv 1)) pss_nil)))), ?_⟩
    refine q_setF (K := K) (P := (Ret K Z0 F0 H0 Q)) hP tv_int ?_
    intro found H1 hfound e1 hP
    have s := s.trans e1
    have g := g.grow e1
    refine q_fold (K := K) (P := (Ret K Z0 F0 H0 Q)) (fun i F H σ st => ∃ (ew_k : Option V), σ = [some (Flat.val many), some (Flat.val st), ew_k] ∧ GrZ Z0 F0 H0 F H) hP s (it_range1 (K := K) (tv_var rfl (Flat.of _)) (by /- 1 rlo -/ omega) (by /- 2 rhi -/ omega)) stb_t ⟨_, rfl, g⟩ (fun i F1 H1 σ1 st h => (by obtain ⟨_, _, gq⟩ := h; exact ⟨gq.sub, trivial⟩)) ?_ ?_
    · rintro i2 k found Fa2 Ha2 Fl2 Hl2 σ2 vt2 Nl2 Pl2 hx2 hr2 fa2 ⟨wj2_2, rfl, g⟩ gl2 hv2 hP hN2
      have s := gl2.sub
      have g := g.then gl2
      have sml2 := Same.refl Fl2
      have hil2 := (List.getElem?_eq_some_iff.mp hx2).1
      simp only [rng_len] at hil2
      obtain rfl := Flat.is hv2
      refine g_name ?_
      refine q_setF (K := K) (P := Pl2) hP (tv_op (tv_var rfl (Flat.of _)) tv_int (op2_mul (by /- 3 CMul -/ first | (first | exact .inl ⟨by omega, by omega⟩ | exact .inr ⟨by omega, by omega⟩) | (have hr_hx2 := rng_at hx2; (first | exact .inl ⟨by omega, by omega⟩ | exact .inr ⟨by omega, by omega⟩))))) ?_
      intro found H3 hfound e3 hP
      have s := s.trans e3
      have g := g.grow e3
      first | refine q_endS ?_ | refine q_endC ?_ | refine q_end ?_
      exact hN2 _ hP _ _ _ sml2 ⟨_, rfl, g⟩
    · rintro Fa4 Ha4 Fe4 He4 σ4 found hst4 fa4 ⟨wj4_2, rfl, g⟩ gl4 hP
      have s := gl4.sub
      have g := g.then gl4
      exact q_retF hP g (tv_var rfl (Flat.of _))
def m__law_ways (many : Int) (some' : Int) : Int := (lt ([(1 : Int)] : List Int) fun (row : (List Int)) => (lt (List.foldl (fun (row : ((List Int))) (k : Int) => (lt ((([(1 : Int)] : List Int) ++ (lc (rng 0 (k).toNat) (fun (at' : Int) => true) (fun (at' : Int) => ((ixI row at') + (ixI row (at' + (1 : Int))))))) ++ ([(1 : Int)] : List Int)) fun (row : (List Int)) => (row))) (row) (rng 0 (many).toNat)) (fun (row : (List Int)) => (cond (decide (some' > many)) (0 : Int) (ixI row some')))))
abbrev s__law_ways : Stmt := top 16
def sp__law_ways (K : Fg) : Sp := fun vs H Q _ => ∃ (F : Hp) (many : Int) (some' : Int) (w0 : V) (w1 : V), vs = [w0, w1] ∧ Same F H ∧ rp K F many w0 ∧ rp K F some' w1 ∧ (0 ≤ many ∧ many ≤ 5 ∧ 0 ≤ some' ∧ some' ≤ 5) ∧ Ret K Z0 F H Q (m__law_ways many some')
theorem sv__law_ways {K : Fg} {many : Int} {some' : Int} (hpre : 0 ≤ many ∧ many ≤ 5 ∧ 0 ≤ some' ∧ some' ≤ 5) : SpV K (sp__law_ways K) (fun (F : Hp) (vs : List V) => ∃ v r, vs = v :: r ∧ rp K F many v ∧ (fun (F : Hp) (vs : List V) => ∃ v r, vs = v :: r ∧ rp K F some' v ∧ (fun (_ : Hp) (vs : List V) => vs = []) F r) F r) (m__law_ways many some') := by
  intro F H vs Q E s h hQ
  obtain ⟨v0, r0, e0, h0, h⟩ := h
  obtain ⟨v1, r1, e1, h1, h⟩ := h
  subst h
  subst e1
  subst e0
  exact ⟨F, many, some', v0, v1, rfl, s, h0, h1, hpre, fun F' H' p g r => hQ F' H' p g.gr r⟩
theorem sc__law_ways : FnScope ["many", "some", "row", "k", "at"] ["many", "some"] (defScope s__law_ways) := ⟨rfl, rfl, rfl, by decide +kernel, rfl, by decide +kernel, by decide +kernel⟩
theorem ok__law_ways {P : Program} {w : World} {K : Fg} {mg : PySem.Str → Option Value} {base : Heap} (B : Bs mg) {f : Addr} {fd : FuncData} (F : FnP K "_law_ways" s__law_ways f fd) : FnOk P w K mg base CX0 1 f fd ["many", "some"] (sp__law_ways K) := by
  have nd : (["many", "some", "row", "k", "at"] : List PySem.Str).Nodup := sc__law_ways.nd
  refine F.ok sc__law_ways (fun vs H Q E h => ?_) (fun cdv A outer s H0 vs Q E hr h => ?_)
  · obtain ⟨F0, many, some', w0, w1, rfl, s, hw0, hw1, hpre, hP⟩ := h
    rfl
  · obtain ⟨F0, many, some', w0, w1, rfl, s, hw0, hw1, hpre, hP⟩ := h
    obtain rfl := Flat.is hw0
    obtain rfl := Flat.is hw1
    have g : GrZ Z0 F0 H0 F0 H0 := GrZ.refl s
    refine ⟨_, PSs.nox (by exact (pss_cons (ps_set (i := 2) nd rfl (Or.inr rfl) (pe_lst (pa_cons pe_int pa_nil))) (pss_cons (ps_for PassesOwn.never rfl (pi_range1 rfl B.b_range (pa_cons (pv 0) pa_nil)) (pg_name (i := 3) nd rfl (Or.inl rfl)) (pss_cons (ps_set (i := 2) nd rfl (Or.inr rfl) (pe_op op_cat (pe_op op_cat (pe_lst (pa_cons pe_int pa_nil)) (pe_lc (own := [("at", 4)]) (g := gName 4) (tt := _) rfl nd (pi_range1 rfl B.b_range (pa_cons (pv 3) pa_nil)) (blkOk_by (own := [("at", 4)]) (N := ["many", "some", "row", "k", "at"]) (sc := defScope s__law_ways) (by decide +kernel)) (fun _ _ _ _ _ => pg_name (i := 4) nd rfl (Or.inl rfl)) (fun _ _ _ _ _ => pts_nil) (fun _ _ _ _ _ => (pe_op op_add (pe_ix (ix_listK K) (pv 2) (pv 4) (fun _ _ => rfl)) (pe_ix (ix_listK K) (pv 2) (pe_op op_add (pv 4) pe_int) (fun _ _ => rfl)))))) (pe_lst (pa_cons pe_int pa_nil)))) pss_nil)) (pss_cons (ps_if (pt_cmpR op_gt (pv 1) (pv 0) (nomark _)) (pss_cons (ps_ret pe_int) pss_nil) pss_nil) (pss_cons (ps_ret (pe_ix (ix_listK K) (pv 2) (pv 1) (fun _ _ => rfl))) pss_nil))))), ?_⟩
    refine q_set (K := K) (P := (Ret K Z0 F0 H0 Q)) hP s (TvL.tv (tl_lst (ta_rcons (tv_flat tv_int) ta_rnil) (by show 1 ≤ 100000; decide))) ?_
    intro row F1 H2 v4 hrow gr3 h_4 hP
    have s := gr3.sub
    have g := g.then gr3
    refine q_fold (K := K) (P := (Ret K Z0 F0 H0 Q)) (fun i F H σ st => ∃ (ev_row : V) (ew_k : Option V), σ = [some (Flat.val many), some (Flat.val some'), some ev_row, ew_k, none] ∧ GrZ Z0 F0 H0 F H ∧ rp K F st ev_row ∧ st.length = i + 1) hP s (it_range1 (K := K) (tv_var rfl (Flat.of _)) (by /- 1 rlo -/ omega) (by /- 2 rhi -/ omega)) stb_t ⟨v4, _, rfl, g, h_4, (by /- 11 inv0 -/ first | omega | rfl | (simp only [hrow, List.length_append, List.length_cons, List.length_nil, lc_true_len, rng_len]; omega) | (subst_vars; first | omega | (simp; done) | (simp; omega)))⟩ (fun i F1 H1 σ1 st h => (by obtain ⟨_, _, _, gq, _⟩ := h; exact ⟨gq.sub, trivial⟩)) ?_ ?_
    · rintro i5 k row Fa5 Ha5 Fl5 Hl5 σ5 vt5 Nl5 Pl5 hx5 hr5 fa5 ⟨vj5_2, wj5_3, rfl, g, hj5_2, hx_5⟩ gl5 hv5 hP hN5
      have s := gl5.sub
      have g := g.then gl5
      have sml5 := Same.refl Fl5
      try dsimp only at hx_5
      have hj5_2 := up gl5.ex hj5_2
      have hil5 := (List.getElem?_eq_some_iff.mp hx5).1
      simp only [rng_len] at hil5
      obtain rfl := Flat.is hv5
      refine g_name ?_
      refine q_set (K := K) (P := Pl5) hP s (TvL.tv (tl_op (TvL.tv (tl_op (TvL.tv (tl_lst (ta_rcons (tv_flat tv_int) ta_rnil) (by show 1 ≤ 100000; decide))) (TvL.tv (tl_lc (fun (at' : Int) => true) (fun (at' : Int) => ((ixI row at') + (ixI row (at' + (1 : Int))))) (it_range1 (K := K) (tv_var rfl (Flat.of _)) (by /- 3 rlo -/ first | (omega) | (have hr_hx5 := rng_at hx5; (omega))) (by /- 4 rhi -/ first | (omega) | (have hr_hx5 := rng_at hx5; (omega)))) stb_t trivial (by /- 7 lclen -/ first | (first | (simp only [rng_len]; omega) | omega) | (have hr_hx5 := rng_at hx5; (first | (simp only [rng_len]; omega) | omega))) (fun i6 at' v6 F6 H6 hx6 gr6 hv6 R6 k6 => g_nameF hv6 fun _ =>  (k6 _ rfl (tt_yes) (fun H6' e6 hcl6 => (tv_flat (tv_op (tv_op (tv_var rfl (up (gr6.sub.trans e6) (up gr6.ex hj5_2))) (tv_var rfl (Flat.of _)) (op2_ixL (by /- 5 ix -/ first | (first | exact ⟨by decide, by decide⟩ | exact ⟨by omega, by omega⟩) | (have hr_hx5 := rng_at hx5; have hr_hx6 := rng_at hx6; (try simp only [decide_eq_true_eq, decide_eq_false_iff_not, Bool.not_eq_true', Bool.not_eq_false', Bool.and_eq_true, Bool.and_eq_false_iff, Bool.or_eq_true, Bool.or_eq_false_iff] at hcl6); (first | exact ⟨by decide, by decide⟩ | exact ⟨by omega, by omega⟩))))) (tv_op (tv_var rfl (up (gr6.sub.trans e6) (up gr6.ex hj5_2))) (tv_op (tv_var rfl (Flat.of _)) tv_int op2_add) (op2_ixL (by /- 6 ix -/ first | (first | exact ⟨by decide, by decide⟩ | exact ⟨by omega, by omega⟩) | (have hr_hx5 := rng_at hx5; have hr_hx6 := rng_at hx6; (try simp only [decide_eq_true_eq, decide_eq_false_iff_not, Bool.not_eq_true', Bool.not_eq_false', Bool.and_eq_true, Bool.and_eq_false_iff, Bool.or_eq_true, Bool.or_eq_false_iff] at hcl6); (first | exact ⟨by decide, by decide⟩ | exact ⟨by omega, by omega⟩))))) op2_add))))))) (opL_cat (by /- 8 len -/ first | (first | (simp only [List.length_append, List.length_cons, List.length_nil, lc_true_len, rng_len]; omega) | omega) | (have hr_hx5 := rng_at hx5; (first | (simp only [List.length_append, List.length_cons, List.length_nil, lc_true_len, rng_len]; omega) | omega)))))) (TvL.tv (tl_lst (ta_rcons (tv_flat tv_int) ta_rnil) (by show 1 ≤ 100000; decide))) (opL_cat (by /- 9 len -/ first | (first | (simp only [List.length_append, List.length_cons, List.length_nil, lc_true_len, rng_len]; omega) | omega) | (have hr_hx5 := rng_at hx5; (first | (simp only [List.length_append, List.length_cons, List.length_nil, lc_true_len, rng_len]; omega) | omega)))))) ?_
      intro row F7 H8 v10 hrow gr9 h_10 hP
      have s := gr9.sub
      have g := g.then gr9
      have sml5 := sml5.trans gr9.ex
      have hj5_2 := up gr9.ex hj5_2
      first | refine q_endS ?_ | refine q_endC ?_ | refine q_end ?_
      exact hN5 _ hP _ _ _ sml5 ⟨v10, _, rfl, g, h_10, (by /- 10 inv -/ first | (first | omega | rfl | (simp only [hrow, List.length_append, List.length_cons, List.length_nil, lc_true_len, rng_len]; omega) | (subst_vars; first | omega | (simp; done) | (simp; omega))) | (have hr_hx5 := rng_at hx5; (first | omega | rfl | (simp only [hrow, List.length_append, List.length_cons, List.length_nil, lc_true_len, rng_len]; omega) | (subst_vars; first | omega | (simp; done) | (simp; omega)))))⟩
    · rintro Fa11 Ha11 Fe11 He11 σ11 row hst11 fa11 ⟨vj11_2, wj11_3, rfl, g, hj11_2, hx_11⟩ gl11 hP
      have s := gl11.sub
      have g := g.then gl11
      try dsimp only at hx_11
      try simp only [rng_len] at hx_11
      have hj11_2 := up gl11.ex hj11_2
      refine q_if (P := (Ret K Z0 F0 H0 Q)) hP (tt_test (K := K) (tv_op (tv_var rfl (Flat.of _)) (tv_var rfl (Flat.of _)) op2_gt)) ?_ ?_
      · intro hc12 H12 e12 hP
        have s := s.trans e12
        have g := g.grow e12
        exact q_retF hP g tv_int
      · intro hc12 H12 e12 hP
        first | refine q_endS ?_ | refine q_endC ?_ | refine q_end ?_
        have s := s.trans e12
        have g := g.grow e12
        exact q_retF hP g (tv_op (tv_var rfl (up s hj11_2)) (tv_var rfl (Flat.of _)) (op2_ixL (by /- 12 ix -/ first | (first | exact ⟨by decide, by decide⟩ | exact ⟨by omega, by omega⟩) | ((try simp only [decide_eq_true_eq, decide_eq_false_iff_not, Bool.not_eq_true', Bool.not_eq_false', Bool.and_eq_true, Bool.and_eq_false_iff, Bool.or_eq_true, Bool.or_eq_false_iff] at hc12); (first | exact ⟨by decide, by decide⟩ | exact ⟨by omega, by omega⟩)))))
def m__law_homes (number : Int) : (List Int) := (lt ([] : List Int) fun (found : (List Int)) => (lt (List.foldl (fun (st : ((List Int) × Int)) (k : Int) => (lt2 st fun (found : (List Int)) (number : Int) => (lt (cond (decide ((number % (2 : Int)) = (1 : Int))) (lt (found ++ [k]) fun (found : (List Int)) => (found)) (found)) (fun (found : (List Int)) => (lt (number / (2 : Int)) fun (number : Int) => (found, number)))))) (found, number) (rng 0 ((5 : Int)).toNat)) (fun (st : ((List Int) × Int)) => (lt2 st fun (found : (List Int)) (number : Int) => found))))
theorem homes_len (n : Int) : (m__law_homes n).length ≤ 5 := by
  have h : ∀ (xs : List Int) (st : List Int × Int), (List.foldl (fun (st : ((List Int) × Int)) (k : Int) => (lt2 st fun (found : (List Int)) (number : Int) => (lt (cond (decide ((number % (2 : Int)) = (1 : Int))) (lt (found ++ [k]) fun (found : (List Int)) => (found)) (found)) (fun (found : (List Int)) => (lt (number / (2 : Int)) fun (number : Int) => (found, number)))))) st xs).1.length ≤ st.1.length + xs.length := by
    intro xs
    induction xs with
    | nil => intro st; exact Nat.le_refl _
    | cons x t ih =>
      intro st
      rw [List.foldl_cons]
      refine Nat.le_trans (ih _) ?_
      obtain ⟨a, b⟩ := st
      rw [lt2_eq, lt_eq, lt_eq]
      cases decide (b % 2 = 1)
      · simp only [cond_false, List.length_cons]; omega
      · simp only [cond_true, lt_eq, List.length_cons, List.length_append, List.length_nil]; omega
  have := h (rng 0 ((5 : Int)).toNat) ([], n)
  unfold m__law_homes
  simp only [lt_eq, lt2_eq] at this ⊢
  exact this
abbrev s__law_homes : Stmt := top 18
def sp__law_homes (K : Fg) : Sp := fun vs H Q _ => ∃ (F : Hp) (number : Int) (w0 : V), vs = [w0] ∧ Same F H ∧ rp K F number w0 ∧ RetL K Z0 F H Q (m__law_homes number)
theorem sv__law_homes {K : Fg} {number : Int} : SpL K (sp__law_homes K) (fun (F : Hp) (vs : List V) => ∃ v r, vs = v :: r ∧ rp K F number v ∧ (fun (_ : Hp) (vs : List V) => vs = []) F r) (m__law_homes number) := by
  intro F H vs Q E s h hQ
  obtain ⟨v0, r0, e0, h0, h⟩ := h
  subst h
  subst e0
  exact ⟨F, number, v0, rfl, s, h0, fun F' H' p g n m => hQ F' H' p g.gr n m⟩
theorem sc__law_homes : FnScope ["number", "found", "k"] ["number"] (defScope s__law_homes) := ⟨rfl, rfl, rfl, by decide +kernel, rfl, by decide +kernel, by decide +kernel⟩
theorem ok__law_homes {P : Program} {w : World} {K : Fg} {mg : PySem.Str → Option Value} {base : Heap} (B : Bs mg) {f : Addr} {fd : FuncData} (F : FnP K "_law_homes" s__law_homes f fd) : FnOk P w K mg base CX0 1 f fd ["number"] (sp__law_homes K) := by
  have nd : (["number", "found", "k"] : List PySem.Str).Nodup := sc__law_homes.nd
  refine F.ok sc__law_homes (fun vs H Q E h => ?_) (fun cdv A outer s H0 vs Q E hr h => ?_)
  · obtain ⟨F0, number, w0, rfl, s, hw0, hP⟩ := h
    rfl
  · obtain ⟨F0, number, w0, rfl, s, hw0, hP⟩ := h
    obtain rfl := Flat.is hw0
    have g : GrZ Z0 F0 H0 F0 H0 := GrZ.refl s
    refine ⟨_, PSs.nox (by exact (pss_cons (ps_set (i := 1) nd rfl (Or.inl rfl) (pe_lst pa_nil)) (pss_cons (ps_for PassesOwn.never rfl (pi_range1 rfl B.b_range (pa_cons pe_int pa_nil)) (pg_name (i := 2) nd rfl (Or.inl rfl)) (Evl.pss_cut (ps_if (pt_cmpR op_eq (pe_op op_mod (pv 0) pe_int) pe_int (nomark _)) (pss_cons (ps_expr (pe_bm PySem.F.plainAttrs_list PySem.F.slot_list_append PySem.F.type_list_append mt_append (pv 1) (pa_cons (pv 2) pa_nil))) pss_nil) pss_nil) (pss_cons (ps_set (i := 0) nd rfl (Or.inl rfl) (pe_op op_fdiv (pv 0) pe_int)) pss_nil))) (pss_cons (ps_ret (pv 1)) pss_nil)))), ?_⟩
    refine q_setM (K := K) (P := (RetL K Z0 F0 H0 Q)) hP s (tl_lst ta_rnil (by decide)) ?_
    intro found F1 H2 p4 hfound gr3 nw4 m_4 hP
    have n_4 := g.newIn nw4
    have s := gr3.sub
    have g := g.then gr3
    refine q_fold (K := K) (P := (RetL K Z0 F0 H0 Q)) (fun i F H σ st => ∃ (ew_k : Option V), σ = [some (Flat.val st.2), some (.ref p4), ew_k] ∧ GrZ Z0 F0 H0 F H ∧ MutL K F H p4 st.1 ∧ st.1.length ≤ i) hP s (it_range1 (K := K) tv_int (by /- 1 rlo -/ omega) (by /- 2 rhi -/ omega)) stb_t ⟨_, rfl, g, m_4, (by /- 9 inv0 -/ first | omega | rfl | (simp only [hfound, List.length_append, List.length_cons, List.length_nil, lc_true_len, rng_len]; omega) | (subst_vars; first | omega | (simp; done) | (simp; omega)))⟩ (fun i F1 H1 σ1 st h => (by obtain ⟨_, _, gq, _⟩ := h; exact ⟨gq.sub, trivial⟩)) ?_ ?_
    · rintro i5 k ⟨found, number⟩ Fa5 Ha5 Fl5 Hl5 σ5 vt5 Nl5 Pl5 hx5 hr5 fa5 ⟨wj5_2, rfl, g, m_4, hx_5⟩ gl5 hv5 hP hN5
      have s := gl5.sub
      have g := g.then gl5
      have sml5 := Same.refl Fl5
      try dsimp only at hx_5
      have m_4 := m_4.go gl5
      have hil5 := (List.getElem?_eq_some_iff.mp hx5).1
      simp only [rng_len] at hil5
      replace hP := p_lt2 Pl5 hP
      obtain rfl := Flat.is hv5
      refine g_name ?_
      refine q_ifJ (F := Fl5) (P := Pl5) hP (tt_test (K := K) (tv_op (tv_op (tv_var rfl (Flat.of _)) tv_int (op2_mod (by /- 3 pos -/ first | (first | decide | omega) | (have hr_hx5 := rng_at hx5; (first | decide | omega))))) tv_int op2_eqI)) (fun F H σ st => σ = [some (Flat.val number), some (.ref p4), some (Flat.val k)] ∧ GrZ Z0 F0 H0 F H ∧ MutL K F H p4 st ∧ st.length ≤ found.length + 1) ?_ ?_ ?_
      · intro hc6 Hc6 Nj6 ec6 Pj6 hP hN6
        have smj6 := Same.refl Fl5
        have s := s.trans ec6
        have g := g.grow ec6
        have m_4 := m_4.grow ec6
        refine q_app (K := K) (P := Pj6) hP s m_4 rfl (tv_flat (tv_var rfl (Flat.of _))) (by /- 4 app -/ first | (first | decide | assumption | omega) | (have hr_hx5 := rng_at hx5; (try simp only [decide_eq_true_eq, decide_eq_false_iff_not, Bool.not_eq_true', Bool.not_eq_false', Bool.and_eq_true, Bool.and_eq_false_iff, Bool.or_eq_true, Bool.or_eq_false_iff] at hc6); (first | decide | assumption | omega))) ?_
        intro found F8 H7 hfound md9 m_4 hP
        have s := md9.sub
        have g := g.md n_4 md9
        have sml5 := sml5.trans md9.ex
        have smj6 := smj6.trans md9.ex
        first | refine q_endS ?_ | refine q_endC ?_ | refine q_end ?_
        exact hN6 _ hP _ _ _ smj6 ⟨rfl, g, m_4, (by /- 5 inv -/ first | (first | omega | rfl | (simp only [hfound, List.length_append, List.length_cons, List.length_nil, lc_true_len, rng_len]; omega) | (subst_vars; first | omega | (simp; done) | (simp; omega))) | (have hr_hx5 := rng_at hx5; (try simp only [decide_eq_true_eq, decide_eq_false_iff_not, Bool.not_eq_true', Bool.not_eq_false', Bool.and_eq_true, Bool.and_eq_false_iff, Bool.or_eq_true, Bool.or_eq_false_iff] at hc6); (first | omega | rfl | (simp only [hfound, List.length_append, List.length_cons, List.length_nil, lc_true_len, rng_len]; omega) | (subst_vars; first | omega | (simp; done) | (simp; omega)))))⟩
      · intro hc6 Hc6 Nj6 ec6 Pj6 hP hN6
        have smj6 := Same.refl Fl5
        have s := s.trans ec6
        have g := g.grow ec6
        have m_4 := m_4.grow ec6
        first | refine q_endS ?_ | refine q_endC ?_ | refine q_end ?_
        exact hN6 _ hP _ _ _ smj6 ⟨rfl, g, m_4, (by /- 6 inv -/ first | (first | omega | rfl | (simp only [hfound, List.length_append, List.length_cons, List.length_nil, lc_true_len, rng_len]; omega) | (subst_vars; first | omega | (simp; done) | (simp; omega))) | (have hr_hx5 := rng_at hx5; (try simp only [decide_eq_true_eq, decide_eq_false_iff_not, Bool.not_eq_true', Bool.not_eq_false', Bool.and_eq_true, Bool.and_eq_false_iff, Bool.or_eq_true, Bool.or_eq_false_iff] at hc6); (first | omega | rfl | (simp only [hfound, List.length_append, List.length_cons, List.length_nil, lc_true_len, rng_len]; omega) | (subst_vars; first | omega | (simp; done) | (simp; omega)))))⟩
      · rintro found Fj6 Hj6 σ6 hst6 fj6 ⟨rfl, g, m_4, hx_6⟩ hP
        have s := g.sub
        try dsimp only at hx_6
        have sml5 := sml5.trans fj6
        refine q_setF (K := K) (P := Pl5) hP (tv_op (tv_var rfl (Flat.of _)) tv_int (op2_div (by /- 7 CDiv -/ first | (first | exact ⟨by decide, by decide⟩ | exact ⟨by omega, by omega⟩) | (have hr_hx5 := rng_at hx5; (first | exact ⟨by decide, by decide⟩ | exact ⟨by omega, by omega⟩))))) ?_
        intro number H10 hnumber e10 hP
        have s := s.trans e10
        have g := g.grow e10
        have m_4 := m_4.grow e10
        first | refine q_endS ?_ | refine q_endC ?_ | refine q_end ?_
        exact hN5 _ hP _ _ _ sml5 ⟨_, rfl, g, m_4, (by /- 8 inv -/ first | (first | omega | rfl | (simp only [hfound, hnumber, List.length_append, List.length_cons, List.length_nil, lc_true_len, rng_len]; omega) | (subst_vars; first | omega | (simp; done) | (simp; omega))) | (have hr_hx5 := rng_at hx5; (first | omega | rfl | (simp only [hfound, hnumber, List.length_append, List.length_cons, List.length_nil, lc_true_len, rng_len]; omega) | (subst_vars; first | omega | (simp; done) | (simp; omega)))))⟩
    · rintro Fa11 Ha11 Fe11 He11 σ11 ⟨found, number⟩ hst11 fa11 ⟨wj11_2, rfl, g, m_4, hx_11⟩ gl11 hP
      have s := gl11.sub
      have g := g.then gl11
      try dsimp only at hx_11
      try simp only [rng_len] at hx_11
      have m_4 := m_4.go gl11
      replace hP := p_lt2 (RetL K Z0 F0 H0 Q) hP
      exact q_retM hP g rfl n_4 m_4
def m__law_misses (row : (Int × Int × Int)) : Bool := (lt ((m__law_homes row.1) ++ (m__law_homes row.2.1)) fun (had : (List Int)) => (fin (run (R := Bool) (fun (st : Unit) (home : Int) => (cond (decide (home ∈ had)) (Fl.rt false) (Fl.nx ()))) () (m__law_homes row.2.2)) (fun r => r) (fun (_ : Unit) => true)))
abbrev s__law_misses : Stmt := top 19
def sp__law_misses (K : Fg) : Sp := fun vs H Q _ => ∃ (F : Hp) (row : (Int × Int × Int)) (w0 : V), vs = [w0] ∧ Same F H ∧ rp K F row w0 ∧ Ret K Z0 F H Q (m__law_misses row)
theorem sv__law_misses {K : Fg} {row : (Int × Int × Int)} : SpV K (sp__law_misses K) (fun (F : Hp) (vs : List V) => ∃ v r, vs = v :: r ∧ rp K F row v ∧ (fun (_ : Hp) (vs : List V) => vs = []) F r) (m__law_misses row) := by
  intro F H vs Q E s h hQ
  obtain ⟨v0, r0, e0, h0, h⟩ := h
  subst h
  subst e0
  exact ⟨F, row, v0, rfl, s, h0, fun F' H' p g r => hQ F' H' p g.gr r⟩
theorem sc__law_misses : FnScope ["row", "had", "home"] ["row"] (defScope s__law_misses) := ⟨rfl, rfl, rfl, by decide +kernel, rfl, by decide +kernel, by decide +kernel⟩
theorem ok__law_misses {P : Program} {w : World} {K : Fg} {mg : PySem.Str → Option Value} {base : Heap} (B : Bs mg) (D__law_homes : Dn P w K mg base CX0 "_law_homes" 1 ["number"] (sp__law_homes K)) {f : Addr} {fd : FuncData} (F : FnP K "_law_misses" s__law_misses f fd) : FnOk P w K mg base CX0 2 f fd ["row"] (sp__law_misses K) := by
  obtain ⟨f__law_homes, d__law_homes, G__law_homes, g__law_homes, k__law_homes, b__law_homes⟩ := D__law_homes
  have nd : (["row", "had", "home"] : List PySem.Str).Nodup := sc__law_misses.nd
  refine F.ok sc__law_misses (fun vs H Q E h => ?_) (fun cdv A outer s H0 vs Q E hr h => ?_)
  · obtain ⟨F0, row, vp_0, rfl, s, hp_0, hP⟩ := h
    rfl
  · obtain ⟨F0, row, vp_0, rfl, s, hp_0, hP⟩ := h
    have hh1 := homes_len row.1
    have hh2 := homes_len row.2.1
    have g : GrZ Z0 F0 H0 F0 H0 := GrZ.refl s
    refine ⟨_, PSs.nox (by exact (pss_cons (ps_set (i := 1) nd rfl (Or.inl rfl) (pe_op op_cat (pe_call G__law_homes (hr.mono (by omega)) rfl g__law_homes k__law_homes b__law_homes .nil pass0 (pa_cons (pe_ix (ix_tupK K) (pv 0) pe_int (fun _ _ => rfl)) pa_nil)) (pe_call G__law_homes (hr.mono (by omega)) rfl g__law_homes k__law_homes b__law_homes .nil pass0 (pa_cons (pe_ix (ix_tupK K) (pv 0) pe_int (fun _ _ => rfl)) pa_nil)))) (pss_cons (ps_for PassesOwn.never rfl (pi_listK K (pe_call G__law_homes (hr.mono (by omega)) rfl g__law_homes k__law_homes b__law_homes .nil pass0 (pa_cons (pe_ix (ix_tupK K) (pv 0) pe_int (fun _ _ => rfl)) pa_nil))) (pg_name (i := 2) nd rfl (Or.inl rfl)) (pss_cons (ps_if (pt_cmpR (in_seqK K) (pv 2) (pv 1) (by rfl)) (pss_cons (ps_ret pe_bl) pss_nil) pss_nil) pss_nil)) (pss_cons (ps_ret pe_bl) pss_nil)))), ?_⟩
    refine q_set (K := K) (P := (Ret K Z0 F0 H0 Q)) hP s (TvL.tv (tl_op (TvL.tv (tl_call (ta_cons (tv_flat (tv_op (tv_var rfl (up s hp_0)) tv_int op2_ixT0)) ta_nil) (sv__law_homes ))) (TvL.tv (tl_call (ta_cons (tv_flat (tv_op (tv_var rfl (up s hp_0)) tv_int op2_ixT1m)) ta_nil) (sv__law_homes ))) (opL_cat (by /- 1 len -/ first | (simp only [List.length_append, List.length_cons, List.length_nil, lc_true_len, rng_len]; omega) | omega)))) ?_
    intro had F1 H2 v4 hhad gr3 h_4 hP
    have s := gr3.sub
    have g := g.then gr3
    have hp_0 := up gr3.ex hp_0
    refine q_for (K := K) (P := (Ret K Z0 F0 H0 Q)) (fun i F H σ st => ∃ (ew_home : Option V), σ = [some vp_0, some v4, ew_home] ∧ GrZ Z0 F0 H0 F H) hP s (it_list (K := K) (TvL.tv (tl_call (ta_cons (tv_flat (tv_op (tv_var rfl (up s hp_0)) tv_int op2_ixT2)) ta_nil) (sv__law_homes )))) stb_t ⟨_, rfl, g⟩ (fun i F1 H1 σ1 st h => (by obtain ⟨_, _, gq⟩ := h; exact ⟨gq.sub, trivial⟩)) ?_ ?_
    · rintro i5 home ⟨⟩ Fa5 Ha5 Fl5 Hl5 σ5 vt5 Nl5 Bl5 Pl5 hx5 hr5 fa5 ⟨wj5_2, rfl, g⟩ gl5 hv5 hP hN5 hB5 hR5
      have s := gl5.sub
      have g := g.then gl5
      have sml5 := Same.refl Fl5
      have hp_0 := up (fa5.trans gl5.ex) hp_0
      have h_4 := up (fa5.trans gl5.ex) h_4
      have hil5 := (List.getElem?_eq_some_iff.mp hx5).1
      obtain rfl := Flat.is hv5
      refine g_name ?_
      refine q_if (P := Pl5) hP (tt_test (K := K) (tv_op (tv_var rfl (Flat.of _)) (tv_var rfl (up s h_4)) op2_inL)) ?_ ?_
      · intro hc6 H6 e6 hP
        have s := s.trans e6
        have g := g.grow e6
        replace hP := hR5 _ hP
        exact q_retF hP g tv_bl
      · intro hc6 H6 e6 hP
        first | refine q_endS ?_ | refine q_endC ?_ | refine q_end ?_
        have s := s.trans e6
        have g := g.grow e6
        first | refine q_endS ?_ | refine q_endC ?_ | refine q_end ?_
        exact hN5 _ hP _ _ _ sml5 ⟨_, rfl, g⟩
    · rintro i7 Fa7 Ha7 Fe7 He7 σ7 ⟨⟩ hi7 hrun7 fa7 ⟨wj7_2, rfl, g⟩ gl7 hP
      have s := gl7.sub
      have g := g.then gl7
      have hp_0 := up (fa7.trans gl7.ex) hp_0
      have h_4 := up (fa7.trans gl7.ex) h_4
      exact q_retF hP g tv_bl
def m_misses (weaving : (Int × Int × Int)) : Bool := (lt3 weaving fun (had : Int) (late : Int) (heard : Int) => (decide ((Builtin.bitAnd (Builtin.bitOr had late) heard) = (0 : Int))))
abbrev s_misses : Stmt := top 10
def sp_misses (K : Fg) : Sp := fun vs H Q _ => ∃ (F : Hp) (weaving : (Int × Int × Int)) (w0 : V), vs = [w0] ∧ Same F H ∧ rp K F weaving w0 ∧ Ret K Z0 F H Q (m_misses weaving)
theorem sv_misses {K : Fg} {weaving : (Int × Int × Int)} : SpV K (sp_misses K) (fun (F : Hp) (vs : List V) => ∃ v r, vs = v :: r ∧ rp K F weaving v ∧ (fun (_ : Hp) (vs : List V) => vs = []) F r) (m_misses weaving) := by
  intro F H vs Q E s h hQ
  obtain ⟨v0, r0, e0, h0, h⟩ := h
  subst h
  subst e0
  exact ⟨F, weaving, v0, rfl, s, h0, fun F' H' p g r => hQ F' H' p g.gr r⟩
theorem sc_misses : FnScope ["weaving", "had", "late", "heard"] ["weaving"] (defScope s_misses) := ⟨rfl, rfl, rfl, by decide +kernel, rfl, by decide +kernel, by decide +kernel⟩
theorem ok_misses {P : Program} {w : World} {K : Fg} {mg : PySem.Str → Option Value} {base : Heap} (B : Bs mg) {f : Addr} {fd : FuncData} (F : FnP K "misses" s_misses f fd) : FnOk P w K mg base CX0 1 f fd ["weaving"] (sp_misses K) := by
  have nd : (["weaving", "had", "late", "heard"] : List PySem.Str).Nodup := sc_misses.nd
  refine F.ok sc_misses (fun vs H Q E h => ?_) (fun cdv A outer s H0 vs Q E hr h => ?_)
  · obtain ⟨F0, weaving, vp_0, rfl, s, hp_0, hP⟩ := h
    rfl
  · obtain ⟨F0, weaving, vp_0, rfl, s, hp_0, hP⟩ := h
    have g : GrZ Z0 F0 H0 F0 H0 := GrZ.refl s
    refine ⟨_, PSs.nox (by exact (pss_cons (ps_asg (pv 0) (pg_tupK K (by rfl) (pgs_cons (pg_name (i := 1) nd rfl (Or.inl rfl)) (pgs_cons (pg_name (i := 2) nd rfl (Or.inl rfl)) (pgs_cons (pg_name (i := 3) nd rfl (Or.inl rfl)) pgs_nil))))) (pss_cons (ps_ret (pe_cmpR op_eq (pe_op op_and (pe_op op_or (pv 1) (pv 2)) (pv 3)) pe_int (nomark _))) pss_nil))), ?_⟩
    refine q_unp3 (K := K) (P := (Ret K Z0 F0 H0 Q)) hP s (tv_var rfl hp_0) ?_
    intro had late heard F1 H2 v3_0 v3_1 v3_2 hu_had gr3 h3_0 h3_1 h3_2 hP
    have s := gr3.sub
    have g := g.then gr3
    have hp_0 := up gr3.ex hp_0
    obtain rfl := Flat.is h3_0
    obtain rfl := Flat.is h3_1
    obtain rfl := Flat.is h3_2
    exact q_retF hP g (tv_op (tv_op (tv_op (tv_var rfl (Flat.of _)) (tv_var rfl (Flat.of _)) op2_bor) (tv_var rfl (Flat.of _)) op2_band) tv_int op2_eqI)
def m_need_counts (copies : Int) (reads : Int) (writes : Int) : Unit := (fin (run (R := Unit) (fun (st : Unit) (count : Int) => (cond ((!(m_is_whole count)) || (decide (count < (1 : Int)))) (Fl.rt default) (Fl.nx ()))) () ([copies, reads, writes] : List Int)) (fun r => r) (fun (_ : Unit) => (cond ((decide (copies > (("abcde" : PySem.Str).length : Int))) || ((decide (reads > copies)) || (decide (writes > copies)))) default ())))
abbrev s_need_counts : Stmt := top 7
def sp_need_counts (K : Fg) : Sp := fun vs H Q _ => ∃ (F : Hp) (copies : Int) (reads : Int) (writes : Int) (w0 : V) (w1 : V) (w2 : V), vs = [w0, w1, w2] ∧ Same F H ∧ rp K F copies w0 ∧ rp K F reads w1 ∧ rp K F writes w2 ∧ (1 ≤ copies ∧ copies ≤ 5 ∧ 1 ≤ reads ∧ reads ≤ copies ∧ 1 ≤ writes ∧ writes ≤ copies) ∧ Ret K Z0 F H Q (m_need_counts copies reads writes)
theorem sv_need_counts {K : Fg} {copies : Int} {reads : Int} {writes : Int} (hpre : 1 ≤ copies ∧ copies ≤ 5 ∧ 1 ≤ reads ∧ reads ≤ copies ∧ 1 ≤ writes ∧ writes ≤ copies) : SpV K (sp_need_counts K) (fun (F : Hp) (vs : List V) => ∃ v r, vs = v :: r ∧ rp K F copies v ∧ (fun (F : Hp) (vs : List V) => ∃ v r, vs = v :: r ∧ rp K F reads v ∧ (fun (F : Hp) (vs : List V) => ∃ v r, vs = v :: r ∧ rp K F writes v ∧ (fun (_ : Hp) (vs : List V) => vs = []) F r) F r) F r) (m_need_counts copies reads writes) := by
  intro F H vs Q E s h hQ
  obtain ⟨v0, r0, e0, h0, h⟩ := h
  obtain ⟨v1, r1, e1, h1, h⟩ := h
  obtain ⟨v2, r2, e2, h2, h⟩ := h
  subst h
  subst e2
  subst e1
  subst e0
  exact ⟨F, copies, reads, writes, v0, v1, v2, rfl, s, h0, h1, h2, hpre, fun F' H' p g r => hQ F' H' p g.gr r⟩
theorem sc_need_counts : FnScope ["copies", "reads", "writes", "count"] ["copies", "reads", "writes"] (defScope s_need_counts) := ⟨rfl, rfl, rfl, by decide +kernel, rfl, by decide +kernel, by decide +kernel⟩
theorem ok_need_counts {P : Program} {w : World} {K : Fg} {mg : PySem.Str → Option Value} {base : Heap} (B : Bs mg) (D_is_whole : Dn P w K mg base CX0 "is_whole" 1 ["thing"] (sp_is_whole K)) {f : Addr} {fd : FuncData} (F : FnP K "need_counts" s_need_counts f fd) : FnOk P w K mg base CX0 2 f fd ["copies", "reads", "writes"] (sp_need_counts K) := by
  obtain ⟨f_is_whole, d_is_whole, G_is_whole, g_is_whole, k_is_whole, b_is_whole⟩ := D_is_whole
  obtain ⟨t_NAMES, c_NAMES⟩ := B.c_NAMES
  have nd : (["copies", "reads", "writes", "count"] : List PySem.Str).Nodup := sc_need_counts.nd
  refine F.ok sc_need_counts (fun vs H Q E h => ?_) (fun cdv A outer s H0 vs Q E hr h => ?_)
  · obtain ⟨F0, copies, reads, writes, w0, w1, w2, rfl, s, hw0, hw1, hw2, hpre, hP⟩ := h
    rfl
  · obtain ⟨F0, copies, reads, writes, w0, w1, w2, rfl, s, hw0, hw1, hw2, hpre, hP⟩ := h
    obtain rfl := Flat.is hw0
    obtain rfl := Flat.is hw1
    obtain rfl := Flat.is hw2
    have hN : ((("abcde" : PySem.Str).length : Nat) : Int) = 5 := by decide +kernel
    have g : GrZ Z0 F0 H0 F0 H0 := GrZ.refl s
    refine ⟨_, PSs.nox (by exact (pss_cons (ps_for PassesOwn.never rfl (pi_listK K (pe_lst (pa_cons (pv 0) (pa_cons (pv 1) (pa_cons (pv 2) pa_nil))))) (pg_name (i := 3) nd rfl (Or.inl rfl)) (pss_cons (ps_if (PW.pt (pw_or (pt_not (pt_val (pe_call G_is_whole (hr.mono (by omega)) rfl g_is_whole k_is_whole b_is_whole .nil pass0 (pa_cons (pv 3) pa_nil)))) (pw_or1 (pt_cmpR op_lt (pv 3) pe_int (nomark _))))) (pss_cons ps_never pss_nil) pss_nil) pss_nil)) (pss_cons (ps_if (PW.pt (pw_or (pt_cmpR op_gt (pv 0) (pe_callB call_len_str (by rfl) B.b_len (by decide +kernel) (pa_cons (pe_glob (v := .str "abcde") rfl c_NAMES ⟨_, rfl⟩) pa_nil)) (nomark _)) (pw_or (pt_cmpR op_gt (pv 1) (pv 0) (nomark _)) (pw_or1 (pt_cmpR op_gt (pv 2) (pv 0) (nomark _)))))) (pss_cons ps_never pss_nil) pss_nil) pss_nil))), ?_⟩
    refine q_for (K := K) (P := (Ret K Z0 F0 H0 Q)) (fun i F H σ st => ∃ (ew_count : Option V), σ = [some (Flat.val copies), some (Flat.val reads), some (Flat.val writes), ew_count] ∧ GrZ Z0 F0 H0 F H) hP s (it_list (K := K) (TvL.tv (tl_lst (ta_rcons (tv_flat (tv_var rfl (Flat.of _))) (ta_rcons (tv_flat (tv_var rfl (Flat.of _))) (ta_rcons (tv_flat (tv_var rfl (Flat.of _))) ta_rnil))) (by show 3 ≤ 100000; decide)))) stb_t ⟨_, rfl, g⟩ (fun i F1 H1 σ1 st h => (by obtain ⟨_, _, gq⟩ := h; exact ⟨gq.sub, trivial⟩)) ?_ ?_
    · rintro i1 count ⟨⟩ Fa1 Ha1 Fl1 Hl1 σ1 vt1 Nl1 Bl1 Pl1 hx1 hr1 fa1 ⟨wj1_3, rfl, g⟩ gl1 hv1 hP hN1 hB1 hR1
      have s := gl1.sub
      have g := g.then gl1
      have sml1 := Same.refl Fl1
      have hil1 := (List.getElem?_eq_some_iff.mp hx1).1
      obtain rfl := Flat.is hv1
      refine g_name ?_
      refine q_if (P := Pl1) hP (tt_or (tt_not (tt_B (K := K) (tv_call (ta_cons (tv_var rfl (Flat.of _)) ta_nil) (sv_is_whole )))) (fun hq2 => (tt_test (K := K) (tv_op (tv_var rfl (Flat.of _)) tv_int op2_lt)))) ?_ ?_
      · intro hc4 H4 e4 hP
        have s := s.trans e4
        have g := g.grow e4
        exact False.elim (by /- 1 never -/ (have hq : count = copies ∨ count = reads ∨ count = writes := by (have := List.mem_of_getElem? hx1; simpa using this)); (simp only [m_is_whole, Bool.or_eq_true, decide_eq_true_eq, Bool.not_eq_true', Bool.not_false, Bool.and_true, Bool.and_self] at hc4); (first | omega | (simp at hc4; omega)))
      · intro hc4 H4 e4 hP
        first | refine q_endS ?_ | refine q_endC ?_ | refine q_end ?_
        have s := s.trans e4
        have g := g.grow e4
        first | refine q_endS ?_ | refine q_endC ?_ | refine q_end ?_
        exact hN1 _ hP _ _ _ sml1 ⟨_, rfl, g⟩
    · rintro i5 Fa5 Ha5 Fe5 He5 σ5 ⟨⟩ hi5 hrun5 fa5 ⟨wj5_3, rfl, g⟩ gl5 hP
      have s := gl5.sub
      have g := g.then gl5
      refine q_if (P := (Ret K Z0 F0 H0 Q)) hP (tt_or (tt_test (K := K) (tv_op (tv_var rfl (Flat.of _)) (tv_cb (ta_cons tv_str ta_nil) (cb_lenS (by /- 2 strlen1 -/ first | decide +kernel | omega))) op2_gt)) (fun hq6 => (tt_or (tt_test (K := K) (tv_op (tv_var rfl (Flat.of _)) (tv_var rfl (Flat.of _)) op2_gt)) (fun hq7 => (tt_test (K := K) (tv_op (tv_var rfl (Flat.of _)) (tv_var rfl (Flat.of _)) op2_gt)))))) ?_ ?_
      · intro hc9 H9 e9 hP
        have s := s.trans e9
        have g := g.grow e9
        exact False.elim (by /- 3 never -/ first | (first | decide | assumption | omega) | ((try simp only [decide_eq_true_eq, decide_eq_false_iff_not, Bool.not_eq_true', Bool.not_eq_false', Bool.and_eq_true, Bool.and_eq_false_iff, Bool.or_eq_true, Bool.or_eq_false_iff] at hc9); (first | decide | assumption | omega)))
      · intro hc9 H9 e9 hP
        first | refine q_endS ?_ | refine q_endC ?_ | refine q_end ?_
        have s := s.trans e9
        have g := g.grow e9
        first | refine q_endS ?_ | refine q_endC ?_ | refine q_end ?_
        exact hP _ _ _ g rfl
def mr_sets_of : Nat → Int → Int → (List Int)
  | 0, _, _ => default
  | n + 1, many, some' => (cond (decide (some' = (0 : Int))) ([(0 : Int)] : List Int) (cond (decide (some' > many)) ([] : List Int) (lt ((1 : Int) * 2 ^ ((many - (1 : Int))).toNat) fun (last : Int) => ((mr_sets_of n (many - (1 : Int)) some') ++ (lc (mr_sets_of n (many - (1 : Int)) (some' - (1 : Int))) (fun (rest : Int) => true) (fun (rest : Int) => (Builtin.bitOr rest last)))))))
abbrev m_sets_of (many : Int) (some' : Int) : (List Int) := mr_sets_of 6 many some'
theorem len_sets : ∀ (n : Nat) (many some' : Int), (mr_sets_of n many some').length ≤ 2 ^ (n - 1)
  | 0, _, _ => Nat.zero_le _
  | n + 1, many, some' => by
    have h1 := len_sets n (many - 1) some'
    have h2 := len_sets n (many - 1) (some' - 1)
    have h0 : 1 ≤ 2 ^ n := Nat.one_le_two_pow
    rw [mr_sets_of]
    cases decide (some' = 0)
    · cases decide (some' > many)
      · rw [cond_false, cond_false, lt_eq, List.length_append, lc_true_len]
        cases n with
        | zero => exact Nat.zero_le _
        | succ n =>
          show _ ≤ 2 ^ (n + 1)
          rw [Nat.pow_succ]
          have e : n + 1 - 1 = n := rfl
          rw [e] at h1 h2
          omega
      · exact Nat.zero_le _
    · exact h0
theorem pow_small (c : Int) (h1 : 1 ≤ c) (h2 : c ≤ 5) : (1 : Int) * 2 ^ c.toNat ≤ 32 ∧ 2 ≤ (1 : Int) * 2 ^ c.toNat := by
  have h : c = 1 ∨ c = 2 ∨ c = 3 ∨ c = 4 ∨ c = 5 := by omega
  rcases h with rfl | rfl | rfl | rfl | rfl <;> decide
abbrev s_sets_of : Stmt := top 8
def sp_sets_of (K : Fg) (n : Nat) : Sp := fun vs H Q _ => ∃ (F : Hp) (many : Int) (some' : Int) (w0 : V) (w1 : V), vs = [w0, w1] ∧ Same F H ∧ rp K F many w0 ∧ rp K F some' w1 ∧ (0 ≤ many ∧ many < n ∧ 0 ≤ some' ∧ n ≤ 6) ∧ RetL K Z0 F H Q (mr_sets_of n many some')
theorem sv_sets_of {K : Fg} {n : Nat} {many : Int} {some' : Int} (hpre : 0 ≤ many ∧ many < n ∧ 0 ≤ some' ∧ n ≤ 6) : SpL K (sp_sets_of K n) (fun (F : Hp) (vs : List V) => ∃ v r, vs = v :: r ∧ rp K F many v ∧ (fun (F : Hp) (vs : List V) => ∃ v r, vs = v :: r ∧ rp K F some' v ∧ (fun (_ : Hp) (vs : List V) => vs = []) F r) F r) (mr_sets_of n many some') := by
  intro F H vs Q E s h hQ
  obtain ⟨v0, r0, e0, h0, h⟩ := h
  obtain ⟨v1, r1, e1, h1, h⟩ := h
  subst h
  subst e1
  subst e0
  exact ⟨F, many, some', v0, v1, rfl, s, h0, h1, hpre, fun F' H' p g n m => hQ F' H' p g.gr n m⟩
theorem sc_sets_of : FnScope ["many", "some", "last", "rest"] ["many", "some"] (defScope s_sets_of) := ⟨rfl, rfl, rfl, by decide +kernel, rfl, by decide +kernel, by decide +kernel⟩
theorem ok_sets_of {P : Program} {w : World} {K : Fg} {mg : PySem.Str → Option Value} {base : Heap} (B : Bs mg) {f : Addr} {fd : FuncData} (F : FnP K "sets_of" s_sets_of f fd) (gf : mg "sets_of" = some (.ref f)) : ∀ n : Nat, FnOk P w K mg base CX0 (n + 1) f fd ["many", "some"] (sp_sets_of K n) := by
  have nd : (["many", "some", "last", "rest"] : List PySem.Str).Nodup := sc_sets_of.nd
  have g_sets_of := gf
  have k_sets_of := F.kp
  have b_sets_of : Binds K fd ["many", "some"] [] := F.bindsN fun _ _ _ _ _ _ us hl => match us, hl with | [_, _], _ => rfl
  intro n
  induction n with
  | zero =>
    refine F.ok sc_sets_of (fun vs H Q E h => ?_) (fun cdv A outer s H0 vs Q E hr h => ?_)
    · obtain ⟨F0, many, some', w0, w1, rfl, s, hw0, hw1, hpre, hP⟩ := h
      rfl
    · obtain ⟨F0, many, some', w0, w1, rfl, s, hw0, hw1, hpre, hP⟩ := h
      omega
  | succ n ih =>
  have G_sets_of := ih
  refine F.ok sc_sets_of (fun vs H Q E h => ?_) (fun cdv A outer s H0 vs Q E hr h => ?_)
  · obtain ⟨F0, many, some', w0, w1, rfl, s, hw0, hw1, hpre, hP⟩ := h
    rfl
  · obtain ⟨F0, many, some', w0, w1, rfl, s, hw0, hw1, hpre, hP⟩ := h
    obtain rfl := Flat.is hw0
    obtain rfl := Flat.is hw1
    rw [mr_sets_of] at hP
    have hs1 := len_sets n (many - 1) some'
    have hs2 := len_sets n (many - 1) (some' - 1)
    have hn : n ≤ 5 := by omega
    have hp : 2 ^ (n - 1) ≤ 2 ^ 4 := Nat.pow_le_pow_right (by decide) (by omega)
    have g : GrZ Z0 F0 H0 F0 H0 := GrZ.refl s
    refine ⟨_, PSs.nox (by exact (pss_cons (ps_if (pt_cmpR op_eq (pv 1) pe_int (nomark _)) (pss_cons (ps_ret (pe_lst (pa_cons pe_int pa_nil))) pss_nil) pss_nil) (pss_cons (ps_if (pt_cmpR op_gt (pv 1) (pv 0) (nomark _)) (pss_cons (ps_ret (pe_lst pa_nil)) pss_nil) pss_nil) (pss_cons (ps_set (i := 2) nd rfl (Or.inr rfl) (pe_op op_shl pe_int (pe_op op_sub (pv 0) pe_int))) (pss_cons (ps_ret (pe_op op_cat (pe_call G_sets_of (hr.mono (by omega)) rfl g_sets_of k_sets_of b_sets_of .nil pass0 (pa_cons (pe_op op_sub (pv 0) pe_int) (pa_cons (pv 1) pa_nil))) (pe_lc (own := [("rest", 3)]) (g := gName 3) (tt := _) rfl nd (pi_listK K (pe_call G_sets_of (hr.mono (by omega)) rfl g_sets_of k_sets_of b_sets_of .nil pass0 (pa_cons (pe_op op_sub (pv 0) pe_int) (pa_cons (pe_op op_sub (pv 1) pe_int) pa_nil)))) (blkOk_by (own := [("rest", 3)]) (N := ["many", "some", "last", "rest"]) (sc := defScope s_sets_of) (by decide +kernel)) (fun _ _ _ _ _ => pg_name (i := 3) nd rfl (Or.inl rfl)) (fun _ _ _ _ _ => pts_nil) (fun _ _ _ _ _ => (pe_op op_or (pv 3) (pv 2)))))) pss_nil))))), ?_⟩
    refine q_if (P := (RetL K Z0 F0 H0 Q)) hP (tt_test (K := K) (tv_op (tv_var rfl (Flat.of _)) tv_int op2_eqI)) ?_ ?_
    · intro hc1 H1 e1 hP
      have s := s.trans e1
      have g := g.grow e1
      exact q_retL hP g (tl_lst (ta_rcons (tv_flat tv_int) ta_rnil) (by show 1 ≤ 100000; decide))
    · intro hc1 H1 e1 hP
      first | refine q_endS ?_ | refine q_endC ?_ | refine q_end ?_
      have s := s.trans e1
      have g := g.grow e1
      refine q_if (P := (RetL K Z0 F0 H0 Q)) hP (tt_test (K := K) (tv_op (tv_var rfl (Flat.of _)) (tv_var rfl (Flat.of _)) op2_gt)) ?_ ?_
      · intro hc2 H2 e2 hP
        have s := s.trans e2
        have g := g.grow e2
        exact q_retL hP g (tl_lst ta_rnil (by decide))
      · intro hc2 H2 e2 hP
        first | refine q_endS ?_ | refine q_endC ?_ | refine q_end ?_
        have s := s.trans e2
        have g := g.grow e2
        refine q_setF (K := K) (P := (RetL K Z0 F0 H0 Q)) hP (tv_op tv_int (tv_op (tv_var rfl (Flat.of _)) tv_int op2_sub) (op2_shl (by /- 1 CPow -/ first | (first | exact ⟨by decide, by decide, by decide⟩ | exact ⟨by omega, by omega, by omega⟩) | ((try simp only [decide_eq_true_eq, decide_eq_false_iff_not, Bool.not_eq_true', Bool.not_eq_false', Bool.and_eq_true, Bool.and_eq_false_iff, Bool.or_eq_true, Bool.or_eq_false_iff] at hc1); (try simp only [decide_eq_true_eq, decide_eq_false_iff_not, Bool.not_eq_true', Bool.not_eq_false', Bool.and_eq_true, Bool.and_eq_false_iff, Bool.or_eq_true, Bool.or_eq_false_iff] at hc2); (first | exact ⟨by decide, by decide, by decide⟩ | exact ⟨by omega, by omega, by omega⟩))))) ?_
        intro last H3 hlast e3 hP
        have s := s.trans e3
        have g := g.grow e3
        exact q_retL hP g (tl_op (TvL.tv (tl_call (ta_cons (tv_flat (tv_op (tv_var rfl (Flat.of _)) tv_int op2_sub)) (ta_cons (tv_flat (tv_var rfl (Flat.of _))) ta_nil)) (sv_sets_of (by /- 2 pre:sets_of -/ first | (first | decide | assumption | omega) | ((try simp only [decide_eq_true_eq, decide_eq_false_iff_not, Bool.not_eq_true', Bool.not_eq_false', Bool.and_eq_true, Bool.and_eq_false_iff, Bool.or_eq_true, Bool.or_eq_false_iff] at hc1); (try simp only [decide_eq_true_eq, decide_eq_false_iff_not, Bool.not_eq_true', Bool.not_eq_false', Bool.and_eq_true, Bool.and_eq_false_iff, Bool.or_eq_true, Bool.or_eq_false_iff] at hc2); (first | decide | assumption | omega)))))) (TvL.tv (tl_lc (fun (rest : Int) => true) (fun (rest : Int) => (Builtin.bitOr rest last)) (it_list (K := K) (TvL.tv (tl_call (ta_cons (tv_flat (tv_op (tv_var rfl (Flat.of _)) tv_int op2_sub)) (ta_cons (tv_flat (tv_op (tv_var rfl (Flat.of _)) tv_int op2_sub)) ta_nil)) (sv_sets_of (by /- 3 pre:sets_of -/ first | (first | decide | assumption | omega) | ((try simp only [decide_eq_true_eq, decide_eq_false_iff_not, Bool.not_eq_true', Bool.not_eq_false', Bool.and_eq_true, Bool.and_eq_false_iff, Bool.or_eq_true, Bool.or_eq_false_iff] at hc1); (try simp only [decide_eq_true_eq, decide_eq_false_iff_not, Bool.not_eq_true', Bool.not_eq_false', Bool.and_eq_true, Bool.and_eq_false_iff, Bool.or_eq_true, Bool.or_eq_false_iff] at hc2); (first | decide | assumption | omega))))))) stb_t trivial (by /- 4 lclen -/ first | (first | (simp only [rng_len]; omega) | omega) | ((try simp only [decide_eq_true_eq, decide_eq_false_iff_not, Bool.not_eq_true', Bool.not_eq_false', Bool.and_eq_true, Bool.and_eq_false_iff, Bool.or_eq_true, Bool.or_eq_false_iff] at hc1); (try simp only [decide_eq_true_eq, decide_eq_false_iff_not, Bool.not_eq_true', Bool.not_eq_false', Bool.and_eq_true, Bool.and_eq_false_iff, Bool.or_eq_true, Bool.or_eq_false_iff] at hc2); (first | (simp only [rng_len]; omega) | omega))) (fun i4 rest v4 F4 H4 hx4 gr4 hv4 R4 k4 => g_nameF hv4 fun _ =>  (k4 _ rfl (tt_yes) (fun H4' e4 hcl4 => (tv_flat (tv_op (tv_var rfl (Flat.of _)) (tv_var rfl (Flat.of _)) op2_bor))))))) (opL_cat (by /- 5 len -/ first | (first | (simp only [List.length_append, List.length_cons, List.length_nil, lc_true_len, rng_len]; omega) | omega) | ((try simp only [decide_eq_true_eq, decide_eq_false_iff_not, Bool.not_eq_true', Bool.not_eq_false', Bool.and_eq_true, Bool.and_eq_false_iff, Bool.or_eq_true, Bool.or_eq_false_iff] at hc1); (try simp only [decide_eq_true_eq, decide_eq_false_iff_not, Bool.not_eq_true', Bool.not_eq_false', Bool.and_eq_true, Bool.and_eq_false_iff, Bool.or_eq_true, Bool.or_eq_false_iff] at hc2); (first | (simp only [List.length_append, List.length_cons, List.length_nil, lc_true_len, rng_len]; omega) | omega)))))
def m_weavings (copies : Int) (reads : Int) (writes : Int) : (List (Int × Int × Int)) := (lt ([] : List (Int × Int × Int)) fun (found : (List (Int × Int × Int))) => (lt (List.foldl (fun (found : ((List (Int × Int × Int)))) (had : Int) => (lt (List.foldl (fun (found : ((List (Int × Int × Int)))) (late : Int) => (lt (cond (decide ((Builtin.bitAnd late had) = (0 : Int))) (lt (List.foldl (fun (found : ((List (Int × Int × Int)))) (heard : Int) => (lt (found ++ [((had, late, heard) : (Int × Int × Int))]) fun (found : (List (Int × Int × Int))) => (found))) (found) (m_sets_of copies reads)) (fun (found : (List (Int × Int × Int))) => (found))) (found)) (fun (found : (List (Int × Int × Int))) => (found)))) (found) (rng 0 (((1 : Int) * 2 ^ (copies).toNat)).toNat)) (fun (found : (List (Int × Int × Int))) => (found)))) (found) (m_sets_of copies writes)) (fun (found : (List (Int × Int × Int))) => found)))
theorem foldl_cat {α β : Type} {step : List β → α → List β} {g : α → List β} (h : ∀ acc x, step acc x = acc ++ g x) : ∀ (xs : List α) (acc : List β), List.foldl step acc xs = acc ++ xs.flatMap g
  | [], acc => by simp
  | x :: xs, acc => by
    rw [List.foldl_cons, h, foldl_cat h xs, List.flatMap_cons, List.append_assoc]
theorem weav_eq (c r w : Int) : m_weavings c r w = (m_sets_of c w).flatMap fun h => (rng 0 ((1 : Int) * 2 ^ c.toNat).toNat).flatMap fun l => cond (decide (Builtin.bitAnd l h = 0)) ((m_sets_of c r).map fun x => (h, l, x)) [] := by
  unfold m_weavings
  simp only [lt_eq]
  rw [foldl_cat (g := fun h => (rng 0 ((1 : Int) * 2 ^ c.toNat).toNat).flatMap fun l => cond (decide (Builtin.bitAnd l h = 0)) ((m_sets_of c r).map fun x => (h, l, x)) [])]
  · rfl
  · intro acc h
    rw [foldl_cat (g := fun l => cond (decide (Builtin.bitAnd l h = 0)) ((m_sets_of c r).map fun x => (h, l, x)) [])]
    intro acc l
    cases decide (Builtin.bitAnd l h = 0)
    · simp
    · simp only [cond_true]
      rw [foldl_cat (g := fun x => [(h, l, x)])]
      · congr 1
        induction m_sets_of c r with
        | nil => rfl
        | cons a t ih => simp [ih]
      · intro acc x; rfl
theorem flat_le {α β : Type} {g : α → List β} {n : Nat} : ∀ {xs : List α}, (∀ x ∈ xs, (g x).length ≤ n) → (xs.flatMap g).length ≤ xs.length * n
  | [], _ => Nat.zero_le _
  | x :: xs, h => by
    rw [List.flatMap_cons, List.length_append, List.length_cons, Nat.succ_mul]
    have h1 := h x (List.mem_cons_self ..)
    have h2 := flat_le (xs := xs) fun y hy => h y (List.mem_cons_of_mem _ hy)
    omega
theorem rng_len (n : Nat) : (rng 0 n).length = n := by
  simp [rng]
theorem weav_small {c r w : Int} (h : 1 ≤ c ∧ c ≤ 5) : (m_weavings c r w).length ≤ 32768 := by
  have hs : ∀ w, (m_sets_of c w).length ≤ 32 := fun w => len_sets 6 c w
  have hp := pow_small c h.1 h.2
  have hr : (rng 0 ((1 : Int) * 2 ^ c.toNat).toNat).length ≤ 32 := by rw [rng_len]; omega
  rw [weav_eq]
  refine Nat.le_trans (flat_le (n := 32 * 32) fun a _ => Nat.le_trans (flat_le (n := 32) fun l _ => ?_) (Nat.mul_le_mul_right _ hr)) (Nat.mul_le_mul_right _ (hs w))
  cases decide (Builtin.bitAnd l a = 0)
  · exact Nat.zero_le _
  · rw [cond_true, List.length_map]; exact hs r
abbrev s_weavings : Stmt := top 9
def sp_weavings (K : Fg) : Sp := fun vs H Q _ => ∃ (F : Hp) (copies : Int) (reads : Int) (writes : Int) (w0 : V) (w1 : V) (w2 : V), vs = [w0, w1, w2] ∧ Same F H ∧ rp K F copies w0 ∧ rp K F reads w1 ∧ rp K F writes w2 ∧ (1 ≤ copies ∧ copies ≤ 5 ∧ 1 ≤ reads ∧ reads ≤ copies ∧ 1 ≤ writes ∧ writes ≤ copies) ∧ RetL K Z0 F H Q (m_weavings copies reads writes)
theorem sv_weavings {K : Fg} {copies : Int} {reads : Int} {writes : Int} (hpre : 1 ≤ copies ∧ copies ≤ 5 ∧ 1 ≤ reads ∧ reads ≤ copies ∧ 1 ≤ writes ∧ writes ≤ copies) : SpL K (sp_weavings K) (fun (F : Hp) (vs : List V) => ∃ v r, vs = v :: r ∧ rp K F copies v ∧ (fun (F : Hp) (vs : List V) => ∃ v r, vs = v :: r ∧ rp K F reads v ∧ (fun (F : Hp) (vs : List V) => ∃ v r, vs = v :: r ∧ rp K F writes v ∧ (fun (_ : Hp) (vs : List V) => vs = []) F r) F r) F r) (m_weavings copies reads writes) := by
  intro F H vs Q E s h hQ
  obtain ⟨v0, r0, e0, h0, h⟩ := h
  obtain ⟨v1, r1, e1, h1, h⟩ := h
  obtain ⟨v2, r2, e2, h2, h⟩ := h
  subst h
  subst e2
  subst e1
  subst e0
  exact ⟨F, copies, reads, writes, v0, v1, v2, rfl, s, h0, h1, h2, hpre, fun F' H' p g n m => hQ F' H' p g.gr n m⟩
theorem sc_weavings : FnScope ["copies", "reads", "writes", "found", "had", "late", "heard"] ["copies", "reads", "writes"] (defScope s_weavings) := ⟨rfl, rfl, rfl, by decide +kernel, rfl, by decide +kernel, by decide +kernel⟩
theorem ok_weavings {P : Program} {w : World} {K : Fg} {mg : PySem.Str → Option Value} {base : Heap} (B : Bs mg) (D_need_counts : Dn P w K mg base CX0 "need_counts" 2 ["copies", "reads", "writes"] (sp_need_counts K)) (D_sets_of : Dn P w K mg base CX0 "sets_of" 7 ["many", "some"] (sp_sets_of K 6)) {f : Addr} {fd : FuncData} (F : FnP K "weavings" s_weavings f fd) : FnOk P w K mg base CX0 8 f fd ["copies", "reads", "writes"] (sp_weavings K) := by
  obtain ⟨f_need_counts, d_need_counts, G_need_counts, g_need_counts, k_need_counts, b_need_counts⟩ := D_need_counts
  obtain ⟨f_sets_of, d_sets_of, G_sets_of, g_sets_of, k_sets_of, b_sets_of⟩ := D_sets_of
  have nd : (["copies", "reads", "writes", "found", "had", "late", "heard"] : List PySem.Str).Nodup := sc_weavings.nd
  refine F.ok sc_weavings (fun vs H Q E h => ?_) (fun cdv A outer s H0 vs Q E hr h => ?_)
  · obtain ⟨F0, copies, reads, writes, w0, w1, w2, rfl, s, hw0, hw1, hw2, hpre, hP⟩ := h
    rfl
  · obtain ⟨F0, copies, reads, writes, w0, w1, w2, rfl, s, hw0, hw1, hw2, hpre, hP⟩ := h
    obtain rfl := Flat.is hw0
    obtain rfl := Flat.is hw1
    obtain rfl := Flat.is hw2
    have hs1 : (m_sets_of copies writes).length ≤ 32 := len_sets 6 copies writes
    have hs2 : (m_sets_of copies reads).length ≤ 32 := len_sets 6 copies reads
    have hb := pow_small copies hpre.1 hpre.2.1
    have g : GrZ Z0 F0 H0 F0 H0 := GrZ.refl s
    refine ⟨_, PSs.nox (by exact (pss_cons (ps_expr (pe_call G_need_counts (hr.mono (by omega)) rfl g_need_counts k_need_counts b_need_counts .nil pass0 (pa_cons (pv 0) (pa_cons (pv 1) (pa_cons (pv 2) pa_nil))))) (pss_cons (ps_set (i := 3) nd rfl (Or.inl rfl) (pe_lst pa_nil)) (pss_cons (ps_for PassesOwn.never rfl (pi_listK K (pe_call G_sets_of (hr.mono (by omega)) rfl g_sets_of k_sets_of b_sets_of .nil pass0 (pa_cons (pv 0) (pa_cons (pv 2) pa_nil)))) (pg_name (i := 4) nd rfl (Or.inl rfl)) (pss_cons (ps_for PassesOwn.never rfl (pi_range1 rfl B.b_range (pa_cons (pe_op op_shl pe_int (pv 0)) pa_nil)) (pg_name (i := 5) nd rfl (Or.inl rfl)) (Evl.pss_cut (ps_if (pt_cmpR op_eq (pe_op op_and (pv 5) (pv 4)) pe_int (nomark _)) (pss_cons (ps_for PassesOwn.never rfl (pi_listK K (pe_call G_sets_of (hr.mono (by omega)) rfl g_sets_of k_sets_of b_sets_of .nil pass0 (pa_cons (pv 0) (pa_cons (pv 1) pa_nil)))) (pg_name (i := 6) nd rfl (Or.inl rfl)) (pss_cons (ps_expr (pe_bm PySem.F.plainAttrs_list PySem.F.slot_list_append PySem.F.type_list_append mt_append (pv 3) (pa_cons (pe_tup (pa_cons (pv 4) (pa_cons (pv 5) (pa_cons (pv 6) pa_nil)))) pa_nil))) pss_nil)) pss_nil) pss_nil) pss_nil)) pss_nil)) (pss_cons (ps_ret (pv 3)) pss_nil))))), ?_⟩
    refine q_drop s (tv_flat (tv_call (ta_cons (tv_var rfl (Flat.of _)) (ta_cons (tv_var rfl (Flat.of _)) (ta_cons (tv_var rfl (Flat.of _)) ta_nil))) (sv_need_counts (by /- 1 pre:need_counts -/ first | decide | assumption | omega)))) ?_
    intro F1 H2 gr3
    have s := gr3.sub
    have g := g.then gr3
    refine q_setM (K := K) (P := (RetL K Z0 F0 H0 Q)) hP s (tl_lst ta_rnil (by decide)) ?_
    intro found F4 H5 p7 hfound gr6 nw7 m_7 hP
    have n_7 := g.newIn nw7
    have s := gr6.sub
    have g := g.then gr6
    refine q_fold (K := K) (P := (RetL K Z0 F0 H0 Q)) (fun i F H σ st => ∃ (ew_late : Option V) (ew_heard : Option V) (ew_had : Option V), σ = [some (Flat.val copies), some (Flat.val reads), some (Flat.val writes), some (.ref p7), ew_had, ew_late, ew_heard] ∧ GrZ Z0 F0 H0 F H ∧ MutL K F H p7 st ∧ st.length ≤ i * 1024) hP s (it_list (K := K) (TvL.tv (tl_call (ta_cons (tv_flat (tv_var rfl (Flat.of _))) (ta_cons (tv_flat (tv_var rfl (Flat.of _))) ta_nil)) (sv_sets_of (by /- 2 pre:sets_of -/ first | decide | assumption | omega))))) stb_t ⟨_, _, _, rfl, g, m_7, (by /- 15 inv0 -/ first | omega | rfl | (simp only [hfound, List.length_append, List.length_cons, List.length_nil, lc_true_len, rng_len]; omega) | (subst_vars; first | omega | (simp; done) | (simp; omega)))⟩ (fun i F1 H1 σ1 st h => (by obtain ⟨_, _, _, _, gq, _⟩ := h; exact ⟨gq.sub, trivial⟩)) ?_ ?_
    · rintro i8 had found Fa8 Ha8 Fl8 Hl8 σ8 vt8 Nl8 Pl8 hx8 hr8 fa8 ⟨wj8_5, wj8_6, wj8_4, rfl, g, m_7, hx_8⟩ gl8 hv8 hP hN8
      have s := gl8.sub
      have g := g.then gl8
      have sml8 := Same.refl Fl8
      try dsimp only at hx_8
      have m_7 := m_7.go gl8
      have hil8 := (List.getElem?_eq_some_iff.mp hx8).1
      obtain rfl := Flat.is hv8
      refine g_name ?_
      refine q_fold (K := K) (P := Pl8) (fun i F H σ st => ∃ (ew_heard : Option V) (ew_late : Option V), σ = [some (Flat.val copies), some (Flat.val reads), some (Flat.val writes), some (.ref p7), some (Flat.val had), ew_late, ew_heard] ∧ GrZ Z0 F0 H0 F H ∧ MutL K F H p7 st ∧ st.length ≤ found.length + i * 32) hP s (it_range1 (K := K) (tv_op tv_int (tv_var rfl (Flat.of _)) (op2_shl (by /- 3 CPow -/ first | exact ⟨by decide, by decide, by decide⟩ | exact ⟨by omega, by omega, by omega⟩))) (by /- 4 rlo -/ omega) (by /- 5 rhi -/ omega)) stb_t ⟨_, _, rfl, g, m_7, (by /- 13 inv0 -/ first | omega | rfl | (simp only [hfound, List.length_append, List.length_cons, List.length_nil, lc_true_len, rng_len]; omega) | (subst_vars; first | omega | (simp; done) | (simp; omega)))⟩ (fun i F1 H1 σ1 st h => (by obtain ⟨_, _, _, gq, _⟩ := h; exact ⟨gq.sub, trivial⟩)) ?_ ?_
      · rintro i9 late found Fa9 Ha9 Fl9 Hl9 σ9 vt9 Nl9 Pl9 hx9 hr9 fa9 ⟨wj9_6, wj9_5, rfl, g, m_7, hx_9⟩ gl9 hv9 hP hN9
        have s := gl9.sub
        have g := g.then gl9
        have sml9 := Same.refl Fl9
        try dsimp only at hx_9
        have m_7 := m_7.go gl9
        have hil9 := (List.getElem?_eq_some_iff.mp hx9).1
        simp only [rng_len] at hil9
        obtain rfl := Flat.is hv9
        refine g_name ?_
        refine q_ifJ (F := Fl9) (P := Pl9) hP (tt_test (K := K) (tv_op (tv_op (tv_var rfl (Flat.of _)) (tv_var rfl (Flat.of _)) op2_band) tv_int op2_eqI)) (fun F H σ st => ∃ (ew_heard : Option V), σ = [some (Flat.val copies), some (Flat.val reads), some (Flat.val writes), some (.ref p7), some (Flat.val had), some (Flat.val late), ew_heard] ∧ GrZ Z0 F0 H0 F H ∧ MutL K F H p7 st ∧ st.length ≤ found.length + 32) ?_ ?_ ?_
        · intro hc10 Hc10 Nj10 ec10 Pj10 hP hN10
          have smj10 := Same.refl Fl9
          have s := s.trans ec10
          have g := g.grow ec10
          have m_7 := m_7.grow ec10
          refine q_fold (K := K) (P := Pj10) (fun i F H σ st => ∃ (ew_heard : Option V), σ = [some (Flat.val copies), some (Flat.val reads), some (Flat.val writes), some (.ref p7), some (Flat.val had), some (Flat.val late), ew_heard] ∧ GrZ Z0 F0 H0 F H ∧ MutL K F H p7 st ∧ st.length ≤ found.length + i) hP s (it_list (K := K) (TvL.tv (tl_call (ta_cons (tv_flat (tv_var rfl (Flat.of _))) (ta_cons (tv_flat (tv_var rfl (Flat.of _))) ta_nil)) (sv_sets_of (by /- 6 pre:sets_of -/ first | (first | decide | assumption | omega) | (have hr_hx9 := rng_at hx9; (try simp only [decide_eq_true_eq, decide_eq_false_iff_not, Bool.not_eq_true', Bool.not_eq_false', Bool.and_eq_true, Bool.and_eq_false_iff, Bool.or_eq_true, Bool.or_eq_false_iff] at hc10); (first | decide | assumption | omega))))))) stb_t ⟨_, rfl, g, m_7, (by /- 9 inv0 -/ first | (first | omega | rfl | (simp only [hfound, List.length_append, List.length_cons, List.length_nil, lc_true_len, rng_len]; omega) | (subst_vars; first | omega | (simp; done) | (simp; omega))) | (have hr_hx9 := rng_at hx9; (try simp only [decide_eq_true_eq, decide_eq_false_iff_not, Bool.not_eq_true', Bool.not_eq_false', Bool.and_eq_true, Bool.and_eq_false_iff, Bool.or_eq_true, Bool.or_eq_false_iff] at hc10); (first | omega | rfl | (simp only [hfound, List.length_append, List.length_cons, List.length_nil, lc_true_len, rng_len]; omega) | (subst_vars; first | omega | (simp; done) | (simp; omega)))))⟩ (fun i F1 H1 σ1 st h => (by obtain ⟨_, _, gq, _⟩ := h; exact ⟨gq.sub, trivial⟩)) ?_ ?_
          · rintro i11 heard found Fa11 Ha11 Fl11 Hl11 σ11 vt11 Nl11 Pl11 hx11 hr11 fa11 ⟨wj11_6, rfl, g, m_7, hx_11⟩ gl11 hv11 hP hN11
            have s := gl11.sub
            have g := g.then gl11
            have sml11 := Same.refl Fl11
            try dsimp only at hx_11
            have m_7 := m_7.go gl11
            have hil11 := (List.getElem?_eq_some_iff.mp hx11).1
            obtain rfl := Flat.is hv11
            refine g_name ?_
            refine q_app (K := K) (P := Pl11) hP s m_7 rfl (tv_tup (ta_tc (tv_flat (tv_var rfl (Flat.of _))) (ta_tc (tv_flat (tv_var rfl (Flat.of _))) (ta_t1 (tv_flat (tv_var rfl (Flat.of _)))))) (tlen (n := 3) (by decide))) (by /- 7 app -/ first | (first | decide | assumption | omega) | (have hr_hx9 := rng_at hx9; (try simp only [decide_eq_true_eq, decide_eq_false_iff_not, Bool.not_eq_true', Bool.not_eq_false', Bool.and_eq_true, Bool.and_eq_false_iff, Bool.or_eq_true, Bool.or_eq_false_iff] at hc10); (first | decide | assumption | omega))) ?_
            intro found F13 H12 hfound md14 m_7 hP
            have s := md14.sub
            have g := g.md n_7 md14
            have sml11 := sml11.trans md14.ex
            first | refine q_endS ?_ | refine q_endC ?_ | refine q_end ?_
            exact hN11 _ hP _ _ _ sml11 ⟨_, rfl, g, m_7, (by /- 8 inv -/ first | (first | omega | rfl | (simp only [hfound, List.length_append, List.length_cons, List.length_nil, lc_true_len, rng_len]; omega) | (subst_vars; first | omega | (simp; done) | (simp; omega))) | (have hr_hx9 := rng_at hx9; (try simp only [decide_eq_true_eq, decide_eq_false_iff_not, Bool.not_eq_true', Bool.not_eq_false', Bool.and_eq_true, Bool.and_eq_false_iff, Bool.or_eq_true, Bool.or_eq_false_iff] at hc10); (first | omega | rfl | (simp only [hfound, List.length_append, List.length_cons, List.length_nil, lc_true_len, rng_len]; omega) | (subst_vars; first | omega | (simp; done) | (simp; omega)))))⟩
          · rintro Fa15 Ha15 Fe15 He15 σ15 found hst15 fa15 ⟨wj15_6, rfl, g, m_7, hx_15⟩ gl15 hP
            have s := gl15.sub
            have g := g.then gl15
            try dsimp only at hx_15
            try simp only [rng_len] at hx_15
            have sml9 := sml9.trans (fa15.trans gl15.ex)
            have smj10 := smj10.trans (fa15.trans gl15.ex)
            have m_7 := m_7.go gl15
            first | refine q_endS ?_ | refine q_endC ?_ | refine q_end ?_
            exact hN10 _ hP _ _ _ smj10 ⟨_, rfl, g, m_7, (by /- 10 inv -/ first | (first | omega | rfl | (simp only [hfound, List.length_append, List.length_cons, List.length_nil, lc_true_len, rng_len]; omega) | (subst_vars; first | omega | (simp; done) | (simp; omega))) | (have hr_hx9 := rng_at hx9; (try simp only [decide_eq_true_eq, decide_eq_false_iff_not, Bool.not_eq_true', Bool.not_eq_false', Bool.and_eq_true, Bool.and_eq_false_iff, Bool.or_eq_true, Bool.or_eq_false_iff] at hc10); (first | omega | rfl | (simp only [hfound, List.length_append, List.length_cons, List.length_nil, lc_true_len, rng_len]; omega) | (subst_vars; first | omega | (simp; done) | (simp; omega)))))⟩
        · intro hc10 Hc10 Nj10 ec10 Pj10 hP hN10
          have smj10 := Same.refl Fl9
          have s := s.trans ec10
          have g := g.grow ec10
          have m_7 := m_7.grow ec10
          first | refine q_endS ?_ | refine q_endC ?_ | refine q_end ?_
          exact hN10 _ hP _ _ _ smj10 ⟨_, rfl, g, m_7, (by /- 11 inv -/ first | (first | omega | rfl | (simp only [hfound, List.length_append, List.length_cons, List.length_nil, lc_true_len, rng_len]; omega) | (subst_vars; first | omega | (simp; done) | (simp; omega))) | (have hr_hx9 := rng_at hx9; (try simp only [decide_eq_true_eq, decide_eq_false_iff_not, Bool.not_eq_true', Bool.not_eq_false', Bool.and_eq_true, Bool.and_eq_false_iff, Bool.or_eq_true, Bool.or_eq_false_iff] at hc10); (first | omega | rfl | (simp only [hfound, List.length_append, List.length_cons, List.length_nil, lc_true_len, rng_len]; omega) | (subst_vars; first | omega | (simp; done) | (simp; omega)))))⟩
        · rintro found Fj10 Hj10 σ10 hst10 fj10 ⟨wj10_6, rfl, g, m_7, hx_10⟩ hP
          have s := g.sub
          try dsimp only at hx_10
          have sml9 := sml9.trans fj10
          first | refine q_endS ?_ | refine q_endC ?_ | refine q_end ?_
          exact hN9 _ hP _ _ _ sml9 ⟨_, _, rfl, g, m_7, (by /- 12 inv -/ first | (first | omega | rfl | (simp only [hfound, List.length_append, List.length_cons, List.length_nil, lc_true_len, rng_len]; omega) | (subst_vars; first | omega | (simp; done) | (simp; omega))) | (have hr_hx9 := rng_at hx9; (first | omega | rfl | (simp only [hfound, List.length_append, List.length_cons, List.length_nil, lc_true_len, rng_len]; omega) | (subst_vars; first | omega | (simp; done) | (simp; omega)))))⟩
      · rintro Fa16 Ha16 Fe16 He16 σ16 found hst16 fa16 ⟨wj16_6, wj16_5, rfl, g, m_7, hx_16⟩ gl16 hP
        have s := gl16.sub
        have g := g.then gl16
        try dsimp only at hx_16
        try simp only [rng_len] at hx_16
        have sml8 := sml8.trans (fa16.trans gl16.ex)
        have m_7 := m_7.go gl16
        first | refine q_endS ?_ | refine q_endC ?_ | refine q_end ?_
        exact hN8 _ hP _ _ _ sml8 ⟨_, _, _, rfl, g, m_7, (by /- 14 inv -/ first | omega | rfl | (simp only [hfound, List.length_append, List.length_cons, List.length_nil, lc_true_len, rng_len]; omega) | (subst_vars; first | omega | (simp; done) | (simp; omega)))⟩
    · rintro Fa17 Ha17 Fe17 He17 σ17 found hst17 fa17 ⟨wj17_5, wj17_6, wj17_4, rfl, g, m_7, hx_17⟩ gl17 hP
      have s := gl17.sub
      have g := g.then gl17
      try dsimp only at hx_17
      try simp only [rng_len] at hx_17
      have m_7 := m_7.go gl17
      exact q_retM hP g rfl n_7 m_7
def m_missed (copies : Int) (reads : Int) (writes : Int) : (List (Int × Int × Int)) := (lc (m_weavings copies reads writes) (fun (weaving : (Int × Int × Int)) => (m_misses weaving)) (fun (weaving : (Int × Int × Int)) => weaving))
theorem missed_small {c r w : Int} (h : 1 ≤ c ∧ c ≤ 5) : (m_missed c r w).length ≤ 32768 := by
  refine Nat.le_trans ?_ (weav_small (r := r) (w := w) h)
  unfold m_missed lc
  rw [List.length_map]
  exact List.length_filter_le _ _
abbrev s_missed : Stmt := top 11
def sp_missed (K : Fg) : Sp := fun vs H Q _ => ∃ (F : Hp) (copies : Int) (reads : Int) (writes : Int) (w0 : V) (w1 : V) (w2 : V), vs = [w0, w1, w2] ∧ Same F H ∧ rp K F copies w0 ∧ rp K F reads w1 ∧ rp K F writes w2 ∧ (1 ≤ copies ∧ copies ≤ 5 ∧ 1 ≤ reads ∧ reads ≤ copies ∧ 1 ≤ writes ∧ writes ≤ copies) ∧ RetL K Z0 F H Q (m_missed copies reads writes)
theorem sv_missed {K : Fg} {copies : Int} {reads : Int} {writes : Int} (hpre : 1 ≤ copies ∧ copies ≤ 5 ∧ 1 ≤ reads ∧ reads ≤ copies ∧ 1 ≤ writes ∧ writes ≤ copies) : SpL K (sp_missed K) (fun (F : Hp) (vs : List V) => ∃ v r, vs = v :: r ∧ rp K F copies v ∧ (fun (F : Hp) (vs : List V) => ∃ v r, vs = v :: r ∧ rp K F reads v ∧ (fun (F : Hp) (vs : List V) => ∃ v r, vs = v :: r ∧ rp K F writes v ∧ (fun (_ : Hp) (vs : List V) => vs = []) F r) F r) F r) (m_missed copies reads writes) := by
  intro F H vs Q E s h hQ
  obtain ⟨v0, r0, e0, h0, h⟩ := h
  obtain ⟨v1, r1, e1, h1, h⟩ := h
  obtain ⟨v2, r2, e2, h2, h⟩ := h
  subst h
  subst e2
  subst e1
  subst e0
  exact ⟨F, copies, reads, writes, v0, v1, v2, rfl, s, h0, h1, h2, hpre, fun F' H' p g n m => hQ F' H' p g.gr n m⟩
theorem sc_missed : FnScope ["copies", "reads", "writes", "weaving"] ["copies", "reads", "writes"] (defScope s_missed) := ⟨rfl, rfl, rfl, by decide +kernel, rfl, by decide +kernel, by decide +kernel⟩
theorem ok_missed {P : Program} {w : World} {K : Fg} {mg : PySem.Str → Option Value} {base : Heap} (B : Bs mg) (D_weavings : Dn P w K mg base CX0 "weavings" 8 ["copies", "reads", "writes"] (sp_weavings K)) (D_misses : Dn P w K mg base CX0 "misses" 1 ["weaving"] (sp_misses K)) {f : Addr} {fd : FuncData} (F : FnP K "missed" s_missed f fd) : FnOk P w K mg base CX0 9 f fd ["copies", "reads", "writes"] (sp_missed K) := by
  obtain ⟨f_weavings, d_weavings, G_weavings, g_weavings, k_weavings, b_weavings⟩ := D_weavings
  obtain ⟨f_misses, d_misses, G_misses, g_misses, k_misses, b_misses⟩ := D_misses
  have nd : (["copies", "reads", "writes", "weaving"] : List PySem.Str).Nodup := sc_missed.nd
  refine F.ok sc_missed (fun vs H Q E h => ?_) (fun cdv A outer s H0 vs Q E hr h => ?_)
  · obtain ⟨F0, copies, reads, writes, w0, w1, w2, rfl, s, hw0, hw1, hw2, hpre, hP⟩ := h
    rfl
  · obtain ⟨F0, copies, reads, writes, w0, w1, w2, rfl, s, hw0, hw1, hw2, hpre, hP⟩ := h
    obtain rfl := Flat.is hw0
    obtain rfl := Flat.is hw1
    obtain rfl := Flat.is hw2
    have hwv := weav_small (r := reads) (w := writes) (c := copies) ⟨hpre.1, hpre.2.1⟩
    have g : GrZ Z0 F0 H0 F0 H0 := GrZ.refl s
    refine ⟨_, PSs.nox (by exact (pss_cons (ps_ret (pe_lc (own := [("weaving", 3)]) (g := gName 3) (tt := _) rfl nd (pi_listK K (pe_call G_weavings (hr.mono (by omega)) rfl g_weavings k_weavings b_weavings .nil pass0 (pa_cons (pv 0) (pa_cons (pv 1) (pa_cons (pv 2) pa_nil))))) (blkOk_by (own := [("weaving", 3)]) (N := ["copies", "reads", "writes", "weaving"]) (sc := defScope s_missed) (by decide +kernel)) (fun _ _ _ _ _ => pg_name (i := 3) nd rfl (Or.inl rfl)) (fun _ _ _ _ _ => (pts_one (pt_val (pe_call G_misses (hr.mono (by omega)) rfl g_misses k_misses b_misses .nil pass0 (pa_cons (pv 3) pa_nil))))) (fun _ _ _ _ _ => (pv 3)))) pss_nil)), ?_⟩
    exact q_retL hP g (tl_lc (fun (weaving : (Int × Int × Int)) => (m_misses weaving)) (fun (weaving : (Int × Int × Int)) => weaving) (it_list (K := K) (TvL.tv (tl_call (ta_cons (tv_flat (tv_var rfl (Flat.of _))) (ta_cons (tv_flat (tv_var rfl (Flat.of _))) (ta_cons (tv_flat (tv_var rfl (Flat.of _))) ta_nil))) (sv_weavings (by /- 1 pre:weavings -/ first | decide | assumption | omega))))) stb_t trivial (by /- 2 lclen -/ first | (simp only [rng_len]; omega) | omega) (fun i1 weaving v1 F1 H1 hx1 gr1 hv1 R1 k1 => g_name <|  (k1 _ rfl ((tt_B (K := K) (tv_call (ta_cons (tv_var rfl (up gr1.sub hv1)) ta_nil) (sv_misses )))) (fun H1' e1 hcl1 => (tv_var rfl hv1)))))
theorem len_counts (x : Scr) : (m__law_counts x).length = 3 := by
  unfold m__law_counts
  rw [lt_eq, lt_eq]
  rfl
theorem counts_ok {x : Scr} {a b c : Int} (h : [a, b, c] = m__law_counts x) : 1 ≤ a ∧ a ≤ 5 ∧ 1 ≤ b ∧ b ≤ a ∧ 1 ≤ c ∧ c ≤ a := by
  unfold m__law_counts at h
  rw [lt_eq, lt_eq, lt_eq] at h
  simp only [List.cons.injEq, and_true] at h
  obtain ⟨h1, h2, h3⟩ := h
  have ha : 1 ≤ a ∧ a ≤ 5 := by
    rw [h1]
    cases decide (m__law_cell x 0 / 4 % 8 = 1) <;> simp <;> omega
  subst h1
  refine ⟨ha.1, ha.2, ?_, ?_, ?_, ?_⟩
  · have := Int.emod_nonneg (m__law_cell x 1) (show (cond (decide (m__law_cell x 0 / 4 % 8 = 1)) 5 (1 + m__law_cell x 0 % 4) : Int) ≠ 0 by omega)
    omega
  · have := Int.emod_lt_of_pos (m__law_cell x 1) (show 0 < (cond (decide (m__law_cell x 0 / 4 % 8 = 1)) 5 (1 + m__law_cell x 0 % 4) : Int) by omega)
    omega
  · have := Int.emod_nonneg (m__law_cell x 2) (show (cond (decide (m__law_cell x 0 / 4 % 8 = 1)) 5 (1 + m__law_cell x 0 % 4) : Int) ≠ 0 by omega)
    omega
  · have := Int.emod_lt_of_pos (m__law_cell x 2) (show 0 < (cond (decide (m__law_cell x 0 / 4 % 8 = 1)) 5 (1 + m__law_cell x 0 % 4) : Int) by omega)
    omega
theorem upto5 {P : Int → Prop} (h : ∀ n : Fin 6, P (n.val : Int)) (c : Int) (h1 : 0 ≤ c) (h2 : c ≤ 5) : P c := by
  have := h ⟨c.toNat, by omega⟩
  have e : ((c.toNat : Nat) : Int) = c := by omega
  simpa [e] using this
theorem twos_ok (c : Int) (h1 : 0 ≤ c) (h2 : c ≤ 5) : 0 ≤ m__law_twos c ∧ m__law_twos c ≤ 100 :=
  upto5 (P := fun c => 0 ≤ m__law_twos c ∧ m__law_twos c ≤ 100) (by decide +kernel) c h1 h2
theorem ways_ok (c d : Int) (h1 : 0 ≤ c) (h2 : c ≤ 5) (h3 : 0 ≤ d) (h4 : d ≤ 5) : 0 ≤ m__law_ways c d ∧ m__law_ways c d ≤ 100 :=
  upto5 (P := fun d => 0 ≤ m__law_ways c d ∧ m__law_ways c d ≤ 100) (fun n => upto5 (P := fun c => 0 ≤ m__law_ways c (n.val : Int) ∧ m__law_ways c (n.val : Int) ≤ 100) (by revert n; decide +kernel) c h1 h2) d h3 h4
def m_law (script : Scr) : Bool := (ltL3 (m__law_counts script) fun (copies : Int) (reads : Int) (writes : Int) => (lt ([] : List (Int × Int × Int)) fun (due : (List (Int × Int × Int))) => (fin (run (R := Bool) (fun (due : ((List (Int × Int × Int)))) (row : (Int × Int × Int)) => (lt (m_misses row) fun (found : Bool) => (cond ((!true) || (!decide (found = (m__law_misses row)))) (Fl.rt false) (lt (cond found (lt (due ++ [row]) fun (due : (List (Int × Int × Int))) => (due)) (due)) (fun (due : (List (Int × Int × Int))) => (Fl.nx (due))))))) (due) (m_weavings copies reads writes)) (fun r => r) (fun (due : (List (Int × Int × Int))) => (lt (m_missed copies reads writes) fun (told : (List (Int × Int × Int))) => (cond ((!true) || (!decide (told = due))) false (fin (run (R := Bool) (fun (st : Unit) (row : (Int × Int × Int)) => (cond ((!true) || (!decide (((lc (ItemsT.its (τ := (Int × Int × Int)) row) (fun (number : Int) => (m__law_whole number)) (fun (number : Int) => number)).length : Int) = (3 : Int)))) (Fl.rt false) (Fl.nx ()))) () told) (fun r => r) (fun (_ : Unit) => (lt (told.length : Int) fun (many : Int) => (lt (told ++ [(((0 : Int), (0 : Int), (0 : Int)) : (Int × Int × Int))]) fun (told : (List (Int × Int × Int))) => (cond (!decide ((m_missed copies reads writes) = due)) false (cond (decide ((reads + writes) > copies)) (decide (many = (0 : Int))) (lt (copies - writes) fun (rest : Int) => (decide (many = (((m__law_ways copies writes) * (m__law_ways rest reads)) * (m__law_twos (rest - reads))))))))))))))))))
abbrev s_law : Stmt := top 20
def sp_law (K : Fg) : Sp := fun vs H Q _ => ∃ (F : Hp) (script : Scr) (w0 : V), vs = [w0] ∧ Same F H ∧ rp K F script w0 ∧ Ret K Z0 F H Q (m_law script)
theorem sv_law {K : Fg} {script : Scr} : SpV K (sp_law K) (fun (F : Hp) (vs : List V) => ∃ v r, vs = v :: r ∧ rp K F script v ∧ (fun (_ : Hp) (vs : List V) => vs = []) F r) (m_law script) := by
  intro F H vs Q E s h hQ
  obtain ⟨v0, r0, e0, h0, h⟩ := h
  subst h
  subst e0
  exact ⟨F, script, v0, rfl, s, h0, fun F' H' p g r => hQ F' H' p g.gr r⟩
theorem sc_law : FnScope ["script", "copies", "reads", "writes", "due", "row", "found", "told", "many", "rest", "number"] ["script"] (defScope s_law) := ⟨rfl, rfl, rfl, by decide +kernel, rfl, by decide +kernel, by decide +kernel⟩
theorem ok_law {P : Program} {w : World} {K : Fg} {mg : PySem.Str → Option Value} {base : Heap} (B : Bs mg) (D__law_counts : Dn P w K mg base CX0 "_law_counts" 2 ["script"] (sp__law_counts K)) (D_weavings : Dn P w K mg base CX0 "weavings" 8 ["copies", "reads", "writes"] (sp_weavings K)) (D_misses : Dn P w K mg base CX0 "misses" 1 ["weaving"] (sp_misses K)) (D__law_misses : Dn P w K mg base CX0 "_law_misses" 2 ["row"] (sp__law_misses K)) (D_missed : Dn P w K mg base CX0 "missed" 9 ["copies", "reads", "writes"] (sp_missed K)) (D__law_whole : Dn P w K mg base CX0 "_law_whole" 1 ["found"] (sp__law_whole K)) (D__law_ways : Dn P w K mg base CX0 "_law_ways" 1 ["many", "some"] (sp__law_ways K)) (D__law_twos : Dn P w K mg base CX0 "_law_twos" 1 ["many"] (sp__law_twos K)) {f : Addr} {fd : FuncData} (F : FnP K "law" s_law f fd) : FnOk P w K mg base CX0 10 f fd ["script"] (sp_law K) := by
  obtain ⟨f__law_counts, d__law_counts, G__law_counts, g__law_counts, k__law_counts, b__law_counts⟩ := D__law_counts
  obtain ⟨f_weavings, d_weavings, G_weavings, g_weavings, k_weavings, b_weavings⟩ := D_weavings
  obtain ⟨f_misses, d_misses, G_misses, g_misses, k_misses, b_misses⟩ := D_misses
  obtain ⟨f__law_misses, d__law_misses, G__law_misses, g__law_misses, k__law_misses, b__law_misses⟩ := D__law_misses
  obtain ⟨f_missed, d_missed, G_missed, g_missed, k_missed, b_missed⟩ := D_missed
  obtain ⟨f__law_whole, d__law_whole, G__law_whole, g__law_whole, k__law_whole, b__law_whole⟩ := D__law_whole
  obtain ⟨f__law_ways, d__law_ways, G__law_ways, g__law_ways, k__law_ways, b__law_ways⟩ := D__law_ways
  obtain ⟨f__law_twos, d__law_twos, G__law_twos, g__law_twos, k__law_twos, b__law_twos⟩ := D__law_twos
  have nd : (["script", "copies", "reads", "writes", "due", "row", "found", "told", "many", "rest", "number"] : List PySem.Str).Nodup := sc_law.nd
  refine F.ok sc_law (fun vs H Q E h => ?_) (fun cdv A outer s H0 vs Q E hr h => ?_)
  · obtain ⟨F0, script, vp_0, rfl, s, hp_0, hP⟩ := h
    rfl
  · obtain ⟨F0, script, vp_0, rfl, s, hp_0, hP⟩ := h
    have g : GrZ Z0 F0 H0 F0 H0 := GrZ.refl s
    refine ⟨_, PSs.nox (by exact (pss_cons (ps_asg (pe_call G__law_counts (hr.mono (by omega)) rfl g__law_counts k__law_counts b__law_counts .nil pass0 (pa_cons (pv 0) pa_nil)) (pg_lst (by rfl) (pgs_cons (pg_name (i := 1) nd rfl (Or.inl rfl)) (pgs_cons (pg_name (i := 2) nd rfl (Or.inl rfl)) (pgs_cons (pg_name (i := 3) nd rfl (Or.inl rfl)) pgs_nil))))) (pss_cons (ps_set (i := 4) nd rfl (Or.inl rfl) (pe_lst pa_nil)) (pss_cons (ps_for PassesOwn.never rfl (pi_listK K (pe_call G_weavings (hr.mono (by omega)) rfl g_weavings k_weavings b_weavings .nil pass0 (pa_cons (pv 1) (pa_cons (pv 2) (pa_cons (pv 3) pa_nil))))) (pg_name (i := 5) nd rfl (Or.inl rfl)) (pss_cons (ps_set (i := 6) nd rfl (Or.inl rfl) (pe_call G_misses (hr.mono (by omega)) rfl g_misses k_misses b_misses .nil pass0 (pa_cons (pv 5) pa_nil))) (pss_cons (ps_if (PW.pt (pw_or (pt_not (pt_val (pe_callB (isiK K) (by rfl) B.b_isinstance (by decide +kernel) (pa_cons (pv 6) (pa_cons (pe_bltn (v := .ty "bool") (by rfl) B.b_bool (by decide +kernel) rfl) pa_nil))))) (pw_or1 (pt_cmpR op_ne (pv 6) (pe_call G__law_misses (hr.mono (by omega)) rfl g__law_misses k__law_misses b__law_misses .nil pass0 (pa_cons (pv 5) pa_nil)) (nomark _))))) (pss_cons (ps_ret pe_bl) pss_nil) pss_nil) (Evl.pss_cut (ps_if (pt_val (pv 6)) (pss_cons (ps_expr (pe_bm PySem.F.plainAttrs_list PySem.F.slot_list_append PySem.F.type_list_append mt_append (pv 4) (pa_cons (pv 5) pa_nil))) pss_nil) pss_nil) pss_nil)))) (pss_cons (ps_set (i := 7) nd rfl (Or.inl rfl) (pe_call G_missed (hr.mono (by omega)) rfl g_missed k_missed b_missed .nil pass0 (pa_cons (pv 1) (pa_cons (pv 2) (pa_cons (pv 3) pa_nil))))) (pss_cons (ps_if (PW.pt (pw_or (pt_not (pt_val (pe_callB (isiK K) (by rfl) B.b_isinstance (by decide +kernel) (pa_cons (pv 7) (pa_cons (pe_bltn (v := .ty "list") (by rfl) B.b_list (by decide +kernel) rfl) pa_nil))))) (pw_or1 (pt_cmpR (neDK K (by exact hr.units)) (pv 7) (pv 4) (nomark _))))) (pss_cons (ps_ret pe_bl) pss_nil) pss_nil) (pss_cons (ps_for PassesOwn.never rfl (pi_listK K (pv 7)) (pg_name (i := 5) nd rfl (Or.inl rfl)) (pss_cons (ps_if (PW.pt (pw_or (pt_not (pt_val (pe_callB (isiK K) (by rfl) B.b_isinstance (by decide +kernel) (pa_cons (pv 5) (pa_cons (pe_bltn (v := .ty "tuple") (by rfl) B.b_tuple (by decide +kernel) rfl) pa_nil))))) (pw_or1 (pt_cmpR op_ne (pe_callB (len_seqK K) (by rfl) B.b_len (by decide +kernel) (pa_cons (pe_lc (own := [("number", 10)]) (g := gName 10) (tt := _) rfl nd (pi_tupK K (pv 5)) (blkOk_by (own := [("number", 10)]) (N := ["script", "copies", "reads", "writes", "due", "row", "found", "told", "many", "rest", "number"]) (sc := defScope s_law) (by decide +kernel)) (fun _ _ _ _ _ => pg_name (i := 10) nd rfl (Or.inl rfl)) (fun _ _ _ _ _ => (pts_one (pt_val (pe_call G__law_whole (hr.mono (by omega)) rfl g__law_whole k__law_whole b__law_whole .nil pass0 (pa_cons (pv 10) pa_nil))))) (fun _ _ _ _ _ => (pv 10))) pa_nil)) pe_int (nomark _))))) (pss_cons (ps_ret pe_bl) pss_nil) pss_nil) pss_nil)) (pss_cons (ps_set (i := 8) nd rfl (Or.inl rfl) (pe_callB (len_seqK K) (by rfl) B.b_len (by decide +kernel) (pa_cons (pv 7) pa_nil))) (pss_cons (ps_expr (pe_bm PySem.F.plainAttrs_list PySem.F.slot_list_append PySem.F.type_list_append mt_append (pv 7) (pa_cons (pe_tup (pa_cons pe_int (pa_cons pe_int (pa_cons pe_int pa_nil)))) pa_nil))) (pss_cons (ps_if (pt_cmpR (neDK K (by exact hr.units)) (pe_call G_missed (hr.mono (by omega)) rfl g_missed k_missed b_missed .nil pass0 (pa_cons (pv 1) (pa_cons (pv 2) (pa_cons (pv 3) pa_nil)))) (pv 4) (nomark _)) (pss_cons (ps_ret pe_bl) pss_nil) pss_nil) (pss_cons (ps_if (pt_cmpR op_gt (pe_op op_add (pv 2) (pv 3)) (pv 1) (nomark _)) (pss_cons (ps_ret (pe_cmpR op_eq (pv 8) pe_int (nomark _))) pss_nil) pss_nil) (pss_cons (ps_set (i := 9) nd rfl (Or.inl rfl) (pe_op op_sub (pv 1) (pv 3))) (pss_cons (ps_ret (pe_cmpR op_eq (pv 8) (pe_op op_mul (pe_op op_mul (pe_call G__law_ways (hr.mono (by omega)) rfl g__law_ways k__law_ways b__law_ways .nil pass0 (pa_cons (pv 1) (pa_cons (pv 3) pa_nil))) (pe_call G__law_ways (hr.mono (by omega)) rfl g__law_ways k__law_ways b__law_ways .nil pass0 (pa_cons (pv 9) (pa_cons (pv 2) pa_nil)))) (pe_call G__law_twos (hr.mono (by omega)) rfl g__law_twos k__law_twos b__law_twos .nil pass0 (pa_cons (pe_op op_sub (pv 9) (pv 2)) pa_nil))) (nomark _))) pss_nil))))))))))))), ?_⟩
    refine q_unpL3 (K := K) (P := (Ret K Z0 F0 H0 Q)) hP s (TvL.tv (tl_call (ta_cons (tv_var rfl hp_0) ta_nil) (sv__law_counts ))) (by /- 1 unp -/ exact len_counts script) ?_
    intro copies reads writes F1 H2 v3_0 v3_1 v3_2 hu_copies gr3 h3_0 h3_1 h3_2 hP
    have hcc := counts_ok hu_copies.symm
    have hwv := weav_small (r := reads) (w := writes) (c := copies) ⟨hcc.1, hcc.2.1⟩
    have hmv := missed_small (r := reads) (w := writes) (c := copies) ⟨hcc.1, hcc.2.1⟩
    have s := gr3.sub
    have g := g.then gr3
    have hp_0 := up gr3.ex hp_0
    obtain rfl := Flat.is h3_0
    obtain rfl := Flat.is h3_1
    obtain rfl := Flat.is h3_2
    refine q_setM (K := K) (P := (Ret K Z0 F0 H0 Q)) hP s (tl_lst ta_rnil (by decide)) ?_
    intro due F4 H5 p7 hdue gr6 nw7 m_7 hP
    have n_7 := g.newIn nw7
    have s := gr6.sub
    have g := g.then gr6
    have hp_0 := up gr6.ex hp_0
    refine q_for (K := K) (P := (Ret K Z0 F0 H0 Q)) (fun i F H σ st => ∃ (ew_found : Option V) (ew_row : Option V), σ = [some vp_0, some (Flat.val copies), some (Flat.val reads), some (Flat.val writes), some (.ref p7), ew_row, ew_found, none, none, none, none] ∧ GrZ Z0 F0 H0 F H ∧ MutL K F H p7 st ∧ st.length ≤ i) hP s (it_list (K := K) (TvL.tv (tl_call (ta_cons (tv_flat (tv_var rfl (Flat.of _))) (ta_cons (tv_flat (tv_var rfl (Flat.of _))) (ta_cons (tv_flat (tv_var rfl (Flat.of _))) ta_nil))) (sv_weavings (by /- 2 pre:weavings -/ first | decide | assumption | omega))))) stb_t ⟨_, _, rfl, g, m_7, (by /- 7 inv0 -/ first | omega | rfl | (simp only [hdue, List.length_append, List.length_cons, List.length_nil, lc_true_len, rng_len]; omega) | (subst_vars; first | omega | (simp; done) | (simp; omega)))⟩ (fun i F1 H1 σ1 st h => (by obtain ⟨_, _, _, gq, _⟩ := h; exact ⟨gq.sub, trivial⟩)) ?_ ?_
    · rintro i8 row due Fa8 Ha8 Fl8 Hl8 σ8 vt8 Nl8 Bl8 Pl8 hx8 hr8 fa8 ⟨wj8_6, wj8_5, rfl, g, m_7, hx_8⟩ gl8 hv8 hP hN8 hB8 hR8
      have s := gl8.sub
      have g := g.then gl8
      have sml8 := Same.refl Fl8
      try dsimp only at hx_8
      have hp_0 := up (fa8.trans gl8.ex) hp_0
      have m_7 := m_7.go gl8
      have hil8 := (List.getElem?_eq_some_iff.mp hx8).1
      refine g_name ?_
      refine q_setF (K := K) (P := Pl8) hP (tv_call (ta_cons (tv_var rfl (up s hv8)) ta_nil) (sv_misses )) ?_
      intro found H9 hfound e9 hP
      have s := s.trans e9
      have g := g.grow e9
      have m_7 := m_7.grow e9
      refine q_if (P := Pl8) hP (tt_or (tt_not (tt_B (K := K) (tv_isi (α := Bool) (n := "bool") (c := "bool") (b := true) (tv_var rfl (Flat.of _)) (by decide +kernel)))) (fun hq10 => (tt_test (K := K) (tv_op (tv_var rfl (Flat.of _)) (tv_call (ta_cons (tv_var rfl (up s hv8)) ta_nil) (sv__law_misses )) op2_neB)))) ?_ ?_
      · intro hc12 H12 e12 hP
        have s := s.trans e12
        have g := g.grow e12
        have m_7 := m_7.grow e12
        replace hP := hR8 _ hP
        exact q_retF hP g tv_bl
      · intro hc12 H12 e12 hP
        first | refine q_endS ?_ | refine q_endC ?_ | refine q_end ?_
        have s := s.trans e12
        have g := g.grow e12
        have m_7 := m_7.grow e12
        refine q_ifJ (F := Fl8) (P := Pl8) hP (tt_B (K := K) (tv_var rfl (Flat.of _))) (fun F H σ st => σ = [some vp_0, some (Flat.val copies), some (Flat.val reads), some (Flat.val writes), some (.ref p7), some vt8, some (Flat.val found), none, none, none, none] ∧ GrZ Z0 F0 H0 F H ∧ MutL K F H p7 st ∧ st.length ≤ due.length + 1) ?_ ?_ ?_
        · intro hc13 Hc13 Nj13 ec13 Pj13 hP hN13
          have smj13 := Same.refl Fl8
          have s := s.trans ec13
          have g := g.grow ec13
          have m_7 := m_7.grow ec13
          refine q_app (K := K) (P := Pj13) hP s m_7 rfl (tv_var rfl hv8) (by /- 3 app -/ first | (first | decide | assumption | omega) | ((try simp only [decide_eq_true_eq, decide_eq_false_iff_not, Bool.not_eq_true', Bool.not_eq_false', Bool.and_eq_true, Bool.and_eq_false_iff, Bool.or_eq_true, Bool.or_eq_false_iff] at hc12); (try simp only [decide_eq_true_eq, decide_eq_false_iff_not, Bool.not_eq_true', Bool.not_eq_false', Bool.and_eq_true, Bool.and_eq_false_iff, Bool.or_eq_true, Bool.or_eq_false_iff] at hc13); (first | decide | assumption | omega))) ?_
          intro due F15 H14 hdue md16 m_7 hP
          have s := md16.sub
          have g := g.md n_7 md16
          have sml8 := sml8.trans md16.ex
          have smj13 := smj13.trans md16.ex
          have hp_0 := up md16.ex hp_0
          have hv8 := up md16.ex hv8
          first | refine q_endS ?_ | refine q_endC ?_ | refine q_end ?_
          exact hN13 _ hP _ _ _ smj13 ⟨rfl, g, m_7, (by /- 4 inv -/ first | (first | omega | rfl | (simp only [hdue, hfound, List.length_append, List.length_cons, List.length_nil, lc_true_len, rng_len]; omega) | (subst_vars; first | omega | (simp; done) | (simp; omega))) | ((try simp only [decide_eq_true_eq, decide_eq_false_iff_not, Bool.not_eq_true', Bool.not_eq_false', Bool.and_eq_true, Bool.and_eq_false_iff, Bool.or_eq_true, Bool.or_eq_false_iff] at hc12); (try simp only [decide_eq_true_eq, decide_eq_false_iff_not, Bool.not_eq_true', Bool.not_eq_false', Bool.and_eq_true, Bool.and_eq_false_iff, Bool.or_eq_true, Bool.or_eq_false_iff] at hc13); (first | omega | rfl | (simp only [hdue, hfound, List.length_append, List.length_cons, List.length_nil, lc_true_len, rng_len]; omega) | (subst_vars; first | omega | (simp; done) | (simp; omega)))))⟩
        · intro hc13 Hc13 Nj13 ec13 Pj13 hP hN13
          have smj13 := Same.refl Fl8
          have s := s.trans ec13
          have g := g.grow ec13
          have m_7 := m_7.grow ec13
          first | refine q_endS ?_ | refine q_endC ?_ | refine q_end ?_
          exact hN13 _ hP _ _ _ smj13 ⟨rfl, g, m_7, (by /- 5 inv -/ first | (first | omega | rfl | (simp only [hdue, hfound, List.length_append, List.length_cons, List.length_nil, lc_true_len, rng_len]; omega) | (subst_vars; first | omega | (simp; done) | (simp; omega))) | ((try simp only [decide_eq_true_eq, decide_eq_false_iff_not, Bool.not_eq_true', Bool.not_eq_false', Bool.and_eq_true, Bool.and_eq_false_iff, Bool.or_eq_true, Bool.or_eq_false_iff] at hc12); (try simp only [decide_eq_true_eq, decide_eq_false_iff_not, Bool.not_eq_true', Bool.not_eq_false', Bool.and_eq_true, Bool.and_eq_false_iff, Bool.or_eq_true, Bool.or_eq_false_iff] at hc13); (first | omega | rfl | (simp only [hdue, hfound, List.length_append, List.length_cons, List.length_nil, lc_true_len, rng_len]; omega) | (subst_vars; first | omega | (simp; done) | (simp; omega)))))⟩
        · rintro due Fj13 Hj13 σ13 hst13 fj13 ⟨rfl, g, m_7, hx_13⟩ hP
          have s := g.sub
          try dsimp only at hx_13
          have sml8 := sml8.trans fj13
          have hp_0 := up fj13 hp_0
          have hv8 := up fj13 hv8
          first | refine q_endS ?_ | refine q_endC ?_ | refine q_end ?_
          exact hN8 _ hP _ _ _ sml8 ⟨_, _, rfl, g, m_7, (by /- 6 inv -/ first | (first | omega | rfl | (simp only [hdue, hfound, List.length_append, List.length_cons, List.length_nil, lc_true_len, rng_len]; omega) | (subst_vars; first | omega | (simp; done) | (simp; omega))) | ((try simp only [decide_eq_true_eq, decide_eq_false_iff_not, Bool.not_eq_true', Bool.not_eq_false', Bool.and_eq_true, Bool.and_eq_false_iff, Bool.or_eq_true, Bool.or_eq_false_iff] at hc12); (first | omega | rfl | (simp only [hdue, hfound, List.length_append, List.length_cons, List.length_nil, lc_true_len, rng_len]; omega) | (subst_vars; first | omega | (simp; done) | (simp; omega)))))⟩
    · rintro i17 Fa17 Ha17 Fe17 He17 σ17 due hi17 hrun17 fa17 ⟨wj17_6, wj17_5, rfl, g, m_7, hx_17⟩ gl17 hP
      have s := gl17.sub
      have g := g.then gl17
      try dsimp only at hx_17
      try simp only [rng_len] at hx_17
      have hp_0 := up (fa17.trans gl17.ex) hp_0
      have m_7 := m_7.go gl17
      refine q_setM (K := K) (P := (Ret K Z0 F0 H0 Q)) hP s (tl_call (ta_cons (tv_flat (tv_var rfl (Flat.of _))) (ta_cons (tv_flat (tv_var rfl (Flat.of _))) (ta_cons (tv_flat (tv_var rfl (Flat.of _))) ta_nil))) (sv_missed (by /- 8 pre:missed -/ first | decide | assumption | omega))) ?_
      intro told F18 H19 p21 htold gr20 nw21 m_21 hP
      have ne21_p7 := m_7.ne nw21
      have n_21 := g.newIn nw21
      have s := gr20.sub
      have g := g.then gr20
      have hp_0 := up gr20.ex hp_0
      have m_7 := m_7.go gr20
      have htl : told.length ≤ 32768 := by rw [htold]; exact hmv
      refine q_if (P := (Ret K Z0 F0 H0 Q)) hP (tt_or (tt_not (tt_B (K := K) (tv_isi (α := (List (Int × Int × Int))) (n := "list") (c := "list") (b := true) (tv_var rfl (m_21.rd s)) (by decide +kernel)))) (fun hq22 => (tt_test (K := K) (tv_op (tv_var rfl (m_21.rd s)) (tv_var rfl (m_7.rd s)) (op2_neD (by /- 9 dok -/ first | exact fun _ _ => trivial | trivial | exact ⟨trivial, trivial⟩ | exact fun _ _ => ⟨trivial, trivial, trivial⟩) (by /- 10 dok -/ first | exact fun _ _ => trivial | trivial | exact ⟨trivial, trivial⟩ | exact fun _ _ => ⟨trivial, trivial, trivial⟩) (by decide)))))) ?_ ?_
      · intro hc24 H24 e24 hP
        have s := s.trans e24
        have g := g.grow e24
        have m_7 := m_7.grow e24
        have m_21 := m_21.grow e24
        exact q_retF hP g tv_bl
      · intro hc24 H24 e24 hP
        first | refine q_endS ?_ | refine q_endC ?_ | refine q_end ?_
        have s := s.trans e24
        have g := g.grow e24
        have m_7 := m_7.grow e24
        have m_21 := m_21.grow e24
        refine q_for (K := K) (P := (Ret K Z0 F0 H0 Q)) (fun i F H σ st => ∃ (ew_row : Option V), σ = [some vp_0, some (Flat.val copies), some (Flat.val reads), some (Flat.val writes), some (.ref p7), ew_row, wj17_6, some (.ref p21), none, none, none] ∧ GrZ Z0 F0 H0 F H ∧ MutL K F H p7 due ∧ MutL K F H p21 told) hP s (it_mut (K := K) rfl m_21) stb_mut ⟨_, rfl, g, m_7, m_21⟩ (fun i F1 H1 σ1 st h => (by obtain ⟨_, _, gq, mq0, mq1⟩ := h; exact ⟨gq.sub, by assumption⟩)) ?_ ?_
        · rintro i25 row ⟨⟩ Fa25 Ha25 Fl25 Hl25 σ25 vt25 Nl25 Bl25 Pl25 hx25 hr25 fa25 ⟨wj25_5, rfl, g, m_7, m_21⟩ gl25 hv25 hP hN25 hB25 hR25
          have s := gl25.sub
          have g := g.then gl25
          have sml25 := Same.refl Fl25
          have hp_0 := up (fa25.trans gl25.ex) hp_0
          have m_7 := m_7.go gl25
          have m_21 := m_21.go gl25
          have hil25 := (List.getElem?_eq_some_iff.mp hx25).1
          refine g_name ?_
          refine q_if (P := Pl25) hP (tt_or (tt_not (tt_B (K := K) (tv_isi (α := (Int × Int × Int)) (n := "tuple") (c := "tuple") (b := true) (tv_var rfl (up s hv25)) (by decide +kernel)))) (fun hq26 => (tt_test (K := K) (tv_op (tv_cb (ta_cons (TvL.tv (tl_lc (fun (number : Int) => (m__law_whole number)) (fun (number : Int) => number) (it_tupI (K := K) (tv_var rfl (up s hv25))) stb_t trivial (by /- 11 lclen -/ (show 3 < 100000); decide) (fun i27 number v27 F27 H27 hx27 gr27 hv27 R27 k27 => g_nameF hv27 fun _ =>  (k27 _ rfl ((tt_B (K := K) (tv_call (ta_cons (tv_var rfl (Flat.of _)) ta_nil) (sv__law_whole )))) (fun H27' e27 hcl27 => (tv_flat (tv_var rfl (Flat.of _)))))))) ta_nil) cb_lenL) tv_int op2_neI)))) ?_ ?_
          · intro hc29 H29 e29 hP
            have s := s.trans e29
            have g := g.grow e29
            have m_7 := m_7.grow e29
            have m_21 := m_21.grow e29
            replace hP := hR25 _ hP
            exact q_retF hP g tv_bl
          · intro hc29 H29 e29 hP
            first | refine q_endS ?_ | refine q_endC ?_ | refine q_end ?_
            have s := s.trans e29
            have g := g.grow e29
            have m_7 := m_7.grow e29
            have m_21 := m_21.grow e29
            first | refine q_endS ?_ | refine q_endC ?_ | refine q_end ?_
            exact hN25 _ hP _ _ _ sml25 ⟨_, rfl, g, m_7, m_21⟩
        · rintro i30 Fa30 Ha30 Fe30 He30 σ30 ⟨⟩ hi30 hrun30 fa30 ⟨wj30_5, rfl, g, m_7, m_21⟩ gl30 hP
          have s := gl30.sub
          have g := g.then gl30
          have hp_0 := up (fa30.trans gl30.ex) hp_0
          have m_7 := m_7.go gl30
          have m_21 := m_21.go gl30
          refine q_setF (K := K) (P := (Ret K Z0 F0 H0 Q)) hP (tv_cb (ta_cons (tv_var rfl (m_21.rd s)) ta_nil) cb_lenL) ?_
          intro many H31 hmany e31 hP
          have s := s.trans e31
          have g := g.grow e31
          have m_7 := m_7.grow e31
          have m_21 := m_21.grow e31
          refine q_app (K := K) (P := (Ret K Z0 F0 H0 Q)) hP s m_21 rfl (tv_tup (ta_tc (tv_flat tv_int) (ta_tc (tv_flat tv_int) (ta_t1 (tv_flat tv_int)))) (tlen (n := 3) (by decide))) (by /- 12 app -/ first | (first | decide | assumption | omega) | ((try simp only [decide_eq_true_eq, decide_eq_false_iff_not, Bool.not_eq_true', Bool.not_eq_false', Bool.and_eq_true, Bool.and_eq_false_iff, Bool.or_eq_true, Bool.or_eq_false_iff] at hc24); (first | decide | assumption | omega))) ?_
          intro told F33 H32 htold md34 m_21 hP
          have s := md34.sub
          have g := g.md n_21 md34
          have hp_0 := up md34.ex hp_0
          have m_7 := m_7.md ne21_p7 md34
          refine q_if (P := (Ret K Z0 F0 H0 Q)) hP (tt_test (K := K) (tv_op (TvL.tv (tl_call (ta_cons (tv_var rfl (Flat.of _)) (ta_cons (tv_var rfl (Flat.of _)) (ta_cons (tv_var rfl (Flat.of _)) ta_nil))) (sv_missed (by /- 13 pre:missed -/ first | (first | decide | assumption | omega) | ((try simp only [decide_eq_true_eq, decide_eq_false_iff_not, Bool.not_eq_true', Bool.not_eq_false', Bool.and_eq_true, Bool.and_eq_false_iff, Bool.or_eq_true, Bool.or_eq_false_iff] at hc24); (first | decide | assumption | omega)))))) (tv_var rfl (m_7.rd s)) (op2_neD (by /- 14 dok -/ first | exact fun _ _ => trivial | trivial | exact ⟨trivial, trivial⟩ | exact fun _ _ => ⟨trivial, trivial, trivial⟩) (by /- 15 dok -/ first | exact fun _ _ => trivial | trivial | exact ⟨trivial, trivial⟩ | exact fun _ _ => ⟨trivial, trivial, trivial⟩) (by decide)))) ?_ ?_
          · intro hc35 H35 e35 hP
            have s := s.trans e35
            have g := g.grow e35
            have m_7 := m_7.grow e35
            have m_21 := m_21.grow e35
            exact q_retF hP g tv_bl
          · intro hc35 H35 e35 hP
            first | refine q_endS ?_ | refine q_endC ?_ | refine q_end ?_
            have s := s.trans e35
            have g := g.grow e35
            have m_7 := m_7.grow e35
            have m_21 := m_21.grow e35
            refine q_if (P := (Ret K Z0 F0 H0 Q)) hP (tt_test (K := K) (tv_op (tv_op (tv_var rfl (Flat.of _)) (tv_var rfl (Flat.of _)) op2_add) (tv_var rfl (Flat.of _)) op2_gt)) ?_ ?_
            · intro hc36 H36 e36 hP
              have s := s.trans e36
              have g := g.grow e36
              have m_7 := m_7.grow e36
              have m_21 := m_21.grow e36
              exact q_retF hP g (tv_op (tv_var rfl (Flat.of _)) tv_int op2_eqI)
            · intro hc36 H36 e36 hP
              first | refine q_endS ?_ | refine q_endC ?_ | refine q_end ?_
              have s := s.trans e36
              have g := g.grow e36
              have m_7 := m_7.grow e36
              have m_21 := m_21.grow e36
              refine q_setF (K := K) (P := (Ret K Z0 F0 H0 Q)) hP (tv_op (tv_var rfl (Flat.of _)) (tv_var rfl (Flat.of _)) op2_sub) ?_
              intro rest H37 hrest e37 hP
              have s := s.trans e37
              have g := g.grow e37
              have m_7 := m_7.grow e37
              have m_21 := m_21.grow e37
              have hsum : reads + writes ≤ copies := by simpa using hc36
              have hw1 := ways_ok (copies - writes) reads (by omega) (by omega) (by omega) (by omega)
              have hw2 := twos_ok (copies - writes - reads) (by omega) (by omega)
              rw [← hrest] at hw1 hw2
              exact q_retF hP g (tv_op (tv_var rfl (Flat.of _)) (tv_op (tv_op (tv_call (ta_cons (tv_var rfl (Flat.of _)) (ta_cons (tv_var rfl (Flat.of _)) ta_nil)) (sv__law_ways (by /- 16 pre:_law_ways -/ first | (first | decide | assumption | omega) | ((try simp only [decide_eq_true_eq, decide_eq_false_iff_not, Bool.not_eq_true', Bool.not_eq_false', Bool.and_eq_true, Bool.and_eq_false_iff, Bool.or_eq_true, Bool.or_eq_false_iff] at hc24); (try simp only [decide_eq_true_eq, decide_eq_false_iff_not, Bool.not_eq_true', Bool.not_eq_false', Bool.and_eq_true, Bool.and_eq_false_iff, Bool.or_eq_true, Bool.or_eq_false_iff] at hc35); (try simp only [decide_eq_true_eq, decide_eq_false_iff_not, Bool.not_eq_true', Bool.not_eq_false', Bool.and_eq_true, Bool.and_eq_false_iff, Bool.or_eq_true, Bool.or_eq_false_iff] at hc36); (first | decide | assumption | omega))))) (tv_call (ta_cons (tv_var rfl (Flat.of _)) (ta_cons (tv_var rfl (Flat.of _)) ta_nil)) (sv__law_ways (by /- 17 pre:_law_ways -/ first | (first | decide | assumption | omega) | ((try simp only [decide_eq_true_eq, decide_eq_false_iff_not, Bool.not_eq_true', Bool.not_eq_false', Bool.and_eq_true, Bool.and_eq_false_iff, Bool.or_eq_true, Bool.or_eq_false_iff] at hc24); (try simp only [decide_eq_true_eq, decide_eq_false_iff_not, Bool.not_eq_true', Bool.not_eq_false', Bool.and_eq_true, Bool.and_eq_false_iff, Bool.or_eq_true, Bool.or_eq_false_iff] at hc35); (try simp only [decide_eq_true_eq, decide_eq_false_iff_not, Bool.not_eq_true', Bool.not_eq_false', Bool.and_eq_true, Bool.and_eq_false_iff, Bool.or_eq_true, Bool.or_eq_false_iff] at hc36); (first | decide | assumption | omega))))) (op2_mul (by /- 18 CMul -/ first | (first | exact .inl ⟨by omega, by omega⟩ | exact .inr ⟨by omega, by omega⟩) | ((try simp only [decide_eq_true_eq, decide_eq_false_iff_not, Bool.not_eq_true', Bool.not_eq_false', Bool.and_eq_true, Bool.and_eq_false_iff, Bool.or_eq_true, Bool.or_eq_false_iff] at hc24); (try simp only [decide_eq_true_eq, decide_eq_false_iff_not, Bool.not_eq_true', Bool.not_eq_false', Bool.and_eq_true, Bool.and_eq_false_iff, Bool.or_eq_true, Bool.or_eq_false_iff] at hc35); (try simp only [decide_eq_true_eq, decide_eq_false_iff_not, Bool.not_eq_true', Bool.not_eq_false', Bool.and_eq_true, Bool.and_eq_false_iff, Bool.or_eq_true, Bool.or_eq_false_iff] at hc36); (first | exact .inl ⟨by omega, by omega⟩ | exact .inr ⟨by omega, by omega⟩))))) (tv_call (ta_cons (tv_op (tv_var rfl (Flat.of _)) (tv_var rfl (Flat.of _)) op2_sub) ta_nil) (sv__law_twos (by /- 19 pre:_law_twos -/ first | (first | decide | assumption | omega) | ((try simp only [decide_eq_true_eq, decide_eq_false_iff_not, Bool.not_eq_true', Bool.not_eq_false', Bool.and_eq_true, Bool.and_eq_false_iff, Bool.or_eq_true, Bool.or_eq_false_iff] at hc24); (try simp only [decide_eq_true_eq, decide_eq_false_iff_not, Bool.not_eq_true', Bool.not_eq_false', Bool.and_eq_true, Bool.and_eq_false_iff, Bool.or_eq_true, Bool.or_eq_false_iff] at hc35); (try simp only [decide_eq_true_eq, decide_eq_false_iff_not, Bool.not_eq_true', Bool.not_eq_false', Bool.and_eq_true, Bool.and_eq_false_iff, Bool.or_eq_true, Bool.or_eq_false_iff] at hc36); (first | decide | assumption | omega))))) (op2_mul (by /- 20 CMul -/ first | (first | exact .inl ⟨by omega, by omega⟩ | exact .inr ⟨by omega, by omega⟩) | ((try simp only [decide_eq_true_eq, decide_eq_false_iff_not, Bool.not_eq_true', Bool.not_eq_false', Bool.and_eq_true, Bool.and_eq_false_iff, Bool.or_eq_true, Bool.or_eq_false_iff] at hc24); (try simp only [decide_eq_true_eq, decide_eq_false_iff_not, Bool.not_eq_true', Bool.not_eq_false', Bool.and_eq_true, Bool.and_eq_false_iff, Bool.or_eq_true, Bool.or_eq_false_iff] at hc35); (try simp only [decide_eq_true_eq, decide_eq_false_iff_not, Bool.not_eq_true', Bool.not_eq_false', Bool.and_eq_true, Bool.and_eq_false_iff, Bool.or_eq_true, Bool.or_eq_false_iff] at hc36); (first | exact .inl ⟨by omega, by omega⟩ | exact .inr ⟨by omega, by omega⟩))))) op2_eqI)theorem run_all {α R : Type} {body : Unit → α → Fl Unit R} : ∀ {xs : List α}, (∀ x ∈ xs, body () x = .nx ()) → Rf.run body () xs = .nx ()
  | [], _ => rfl
  | x :: xs, h => by
    simp only [Rf.run]
    rw [h x (List.mem_cons_self ..)]
    exact run_all fun y hy => h y (List.mem_cons_of_mem _ hy)
theorem run_any {α R : Type} {b : α → Bool} {r : R} : ∀ {xs : List α}, Rf.run (fun (_ : Unit) x => cond (b x) (Fl.rt r) (Fl.nx ())) () xs = cond (xs.any b) (Fl.rt r) (Fl.nx ())
  | [] => rfl
  | x :: xs => by
    simp only [Rf.run, List.any_cons]
    cases b x
    · simp only [cond_false, Bool.false_or]; exact run_any
    · rfl
theorem run_filter {α R : Type} {f : α → Bool} {body : List α → α → Fl (List α) R} : ∀ {xs acc : List α}, (∀ x ∈ xs, ∀ acc, body acc x = .nx (cond (f x) (acc ++ [x]) acc)) → Rf.run body acc xs = .nx (acc ++ xs.filter f)
  | [], acc, _ => by simp [Rf.run]
  | x :: xs, acc, h => by
    simp only [Rf.run]
    rw [h x (List.mem_cons_self ..)]
    simp only
    rw [run_filter fun y hy => h y (List.mem_cons_of_mem _ hy), List.filter_cons]
    cases f x <;> simp
theorem and_nat (a b : Nat) : Builtin.bitAnd (a : Int) (b : Int) = ((a &&& b : Nat) : Int) := by
  unfold Builtin.bitAnd
  rw [decide_eq_true (show (0 : Int) ≤ a by omega), decide_eq_true (show (0 : Int) ≤ b by omega)]
  rfl
theorem or_nat (a b : Nat) : Builtin.bitOr (a : Int) (b : Int) = ((a ||| b : Nat) : Int) := by
  have e : ∀ n : Nat, Builtin.bitNot (Builtin.bitNot (n : Int)) = n := fun n => by unfold Builtin.bitNot; omega
  have q : ∀ n : Nat, ¬ (0 : Int) ≤ Builtin.bitNot (n : Int) := fun n => by unfold Builtin.bitNot; omega
  unfold Builtin.bitOr Builtin.bitAnd
  rw [decide_eq_false (q a), decide_eq_false (q b)]
  simp only [e, Int.toNat_natCast]
abbrev pc (c : Nat) : List Int := rng 0 ((1 : Int) * 2 ^ ((c : Int)).toNat).toNat
def tabN (c w : Nat) : List Nat := (List.range (2 ^ c)).filter fun x => Nat.beq ((List.range 5).countP fun k => Nat.beq (Nat.land (Nat.shiftRight x k) 1) 1) w
def cntN (c w r : Nat) : Nat := ((tabN c w).map fun h => (((List.range (2 ^ c)).filter fun l => decide (l &&& h = 0)).map fun l => ((tabN c r).filter fun x => decide ((h ||| l) &&& x = 0)).length).sum).sum
theorem fact_tab : ∀ c w : _root_.Fin 6, w ≤ c → m_sets_of c.val w.val = (tabN c.val w.val).map fun n : Nat => (n : Int) := by decide +kernel
theorem fact_pc : ∀ c : _root_.Fin 6, pc c.val = (List.range (2 ^ c.val)).map fun n : Nat => (n : Int) := by decide +kernel
theorem fact_cnt : ∀ c w r : _root_.Fin 6, w ≤ c → r ≤ c → (cntN c.val w.val r.val : Int) = if (r.val : Int) + (w.val : Int) > (c.val : Int) then 0 else m__law_ways c.val w.val * m__law_ways ((c.val : Int) - (w.val : Int)) r.val * m__law_twos ((c.val : Int) - (w.val : Int) - (r.val : Int)) := by decide +kernel
theorem fact_homes : ((List.range 32).all fun a => (List.range 32).all fun c => (decide (a &&& c = 0)) == !((m__law_homes (c : Int)).any fun k => decide (k ∈ m__law_homes (a : Int)))) = true := by decide +kernel
theorem homes_of {a c : Nat} (h1 : a < 32) (h2 : c < 32) : (decide (a &&& c = 0)) = !((m__law_homes (c : Int)).any fun k => decide (k ∈ m__law_homes (a : Int))) := by
  have q := List.all_eq_true.mp (List.all_eq_true.mp fact_homes a (List.mem_range.mpr h1)) c (List.mem_range.mpr h2)
  exact eq_of_beq q
theorem miss_nat (h l x : Nat) : m_misses ((h : Int), (l : Int), (x : Int)) = decide ((h ||| l) &&& x = 0) := by
  unfold m_misses
  rw [lt3_eq, or_nat, and_nat]
  simp
theorem miss_eq {h l x : Nat} (h1 : h < 32) (h2 : l < 32) (h3 : x < 32) : m_misses ((h : Int), (l : Int), (x : Int)) = m__law_misses ((h : Int), (l : Int), (x : Int)) := by
  rw [miss_nat]
  unfold m__law_misses
  rw [lt_eq, run_any]
  have q : decide ((h ||| l) &&& x = 0) = (decide (h &&& x = 0) && decide (l &&& x = 0)) := by
    rw [Bool.eq_iff_iff]
    simp only [Bool.and_eq_true, decide_eq_true_eq, Nat.and_or_distrib_right]
    constructor
    · intro e
      exact ⟨Nat.eq_zero_of_le_zero (e ▸ Nat.left_le_or), Nat.eq_zero_of_le_zero (e ▸ Nat.right_le_or)⟩
    · rintro ⟨e1, e2⟩
      rw [e1, e2]; rfl
  rw [q, homes_of h1 h3, homes_of h2 h3]
  have q2 : ∀ (xs ys zs : List Int), (!(zs.any fun k => decide (k ∈ xs)) && !(zs.any fun k => decide (k ∈ ys))) = !(zs.any fun k => decide (k ∈ xs ++ ys)) := by
    intro xs ys zs
    rw [← Bool.not_or, Bool.not_inj_iff, Bool.eq_iff_iff]
    simp only [Bool.or_eq_true, List.any_eq_true, decide_eq_true_eq, List.mem_append]
    constructor
    · rintro (⟨a, b, c⟩ | ⟨a, b, c⟩)
      · exact ⟨a, b, .inl c⟩
      · exact ⟨a, b, .inr c⟩
    · rintro ⟨a, b, c | c⟩
      · exact .inl ⟨a, b, c⟩
      · exact .inr ⟨a, b, c⟩
  rw [q2]
  cases (m__law_homes (x : Int)).any fun k => decide (k ∈ m__law_homes (h : Int) ++ m__law_homes (l : Int))
  · rw [cond_false, fin_nx]; rfl
  · rw [cond_true, fin_rt]; rfl
theorem tab_lt {c w x : Nat} (hc : c ≤ 5) (h : x ∈ tabN c w) : x < 32 := by
  have h1 := List.mem_range.mp (List.mem_filter.mp h).1
  have h2 : 2 ^ c ≤ 2 ^ 5 := Nat.pow_le_pow_right (by decide) hc
  omega
theorem flat_filter {α β : Type} (p : α → Bool) (g : α → List β) : ∀ xs : List α, (xs.filter p).flatMap g = xs.flatMap fun x => cond (p x) (g x) []
  | [] => rfl
  | x :: xs => by
    rw [List.filter_cons, List.flatMap_cons, ← flat_filter p g xs]
    cases p x <;> simp
theorem weav_nat (c r w : _root_.Fin 6) (hr : r ≤ c) (hw : w ≤ c) : m_weavings c.val r.val w.val = (tabN c.val w.val).flatMap fun h : Nat => ((List.range (2 ^ c.val)).filter fun l : Nat => decide (l &&& h = 0)).flatMap fun l : Nat => (tabN c.val r.val).map fun x : Nat => ((h : Int), (l : Int), (x : Int)) := by
  rw [weav_eq, fact_tab c w hw, fact_tab c r hr, List.flatMap_map]
  have e : rng 0 ((1 : Int) * 2 ^ ((c.val : Int)).toNat).toNat = _ := fact_pc c
  rw [e]
  congr 1
  funext h
  rw [List.flatMap_map, flat_filter]
  congr 1
  funext l
  rw [and_nat, List.map_map]
  cases hb : decide (l &&& h = 0)
  · have : ¬ (l &&& h = 0) := of_decide_eq_false hb
    rw [decide_eq_false (by omega)]; rfl
  · have : l &&& h = 0 := of_decide_eq_true hb
    rw [decide_eq_true (by omega)]; rfl
theorem miss_len (c r w : _root_.Fin 6) (hr : r ≤ c) (hw : w ≤ c) : ((m_weavings c.val r.val w.val).filter m_misses).length = cntN c.val w.val r.val := by
  rw [weav_nat c r w hr hw, List.filter_flatMap, List.length_flatMap]
  unfold cntN
  congr 1
  congr 1
  funext h
  rw [List.filter_flatMap, List.length_flatMap]
  congr 1
  congr 1
  funext l
  rw [List.filter_map, List.length_map]
  congr 1
  congr 1
  funext x
  exact miss_nat h l x
theorem law_true (ns : List Int) (_h : ns.length ≤ 63) : m_law ⟨ns⟩ = true := by
  have h3 := len_counts ⟨ns⟩
  match e : m__law_counts ⟨ns⟩, h3 with
  | [a, b, d], _ =>
    obtain ⟨h1, h2, h4, h5, h6, h7⟩ := counts_ok (x := ⟨ns⟩) e.symm
    obtain ⟨c, rfl⟩ : ∃ c : _root_.Fin 6, a = (c.val : Int) := ⟨⟨a.toNat, by omega⟩, by show a = (a.toNat : Int); omega⟩
    obtain ⟨r, rfl⟩ : ∃ r : _root_.Fin 6, b = (r.val : Int) := ⟨⟨b.toNat, by omega⟩, by show b = (b.toNat : Int); omega⟩
    obtain ⟨w, rfl⟩ : ∃ w : _root_.Fin 6, d = (w.val : Int) := ⟨⟨d.toNat, by omega⟩, by show d = (d.toNat : Int); omega⟩
    have hr : r ≤ c := by show r.val ≤ c.val; omega
    have hw : w ≤ c := by show w.val ≤ c.val; omega
    have hm : m_missed (c.val : Int) (r.val : Int) (w.val : Int) = (m_weavings (c.val : Int) (r.val : Int) (w.val : Int)).filter m_misses := by
      unfold m_missed lc
      exact List.map_id' _
    have hcnt := fact_cnt c w r hw hr
    rw [← miss_len c r w hr hw] at hcnt
    unfold m_law
    rw [e, ltL3_eq]
    simp only [ixI_0, ixI_1, ixI_2, lt_eq]
    rw [run_filter (f := m_misses), fin_nx, List.nil_append]
    · simp only [hm, decide_true, Bool.not_true, Bool.or_false, cond_false]
      rw [run_all, fin_nx]
      · by_cases hg : (r.val : Int) + (w.val : Int) > (c.val : Int)
        · rw [if_pos hg] at hcnt
          simp only [hg, hcnt, decide_true, cond_true]
        · rw [if_neg hg] at hcnt
          simp only [hg, hcnt, decide_true, decide_false, cond_false]
      · intro p _
        rfl
    · intro p hp acc
      rw [weav_nat c r w hr hw] at hp
      obtain ⟨h, y1, hp⟩ := List.mem_flatMap.mp hp
      obtain ⟨l, y2, hp⟩ := List.mem_flatMap.mp hp
      obtain ⟨x, y3, rfl⟩ := List.mem_map.mp hp
      have hc5 : c.val ≤ 5 := by omega
      have hl : l < 32 := by
        have q1 := List.mem_range.mp (List.mem_filter.mp y2).1
        have q2 : 2 ^ c.val ≤ 2 ^ 5 := Nat.pow_le_pow_right (by decide) hc5
        omega
      rw [miss_eq (tab_lt hc5 y1) hl (tab_lt hc5 y3)]
      simp only [decide_true, Bool.not_true, Bool.or_false, cond_false]
def d_is_whole : He.DefD := ⟨("is_whole", none), "is_whole", "is_whole", defArgs s_is_whole, defBody s_is_whole, defScope s_is_whole, [], []⟩
def d__law_cell : He.DefD := ⟨("_law_cell", none), "_law_cell", "_law_cell", defArgs s__law_cell, defBody s__law_cell, defScope s__law_cell, [], []⟩
def d__law_whole : He.DefD := ⟨("_law_whole", none), "_law_whole", "_law_whole", defArgs s__law_whole, defBody s__law_whole, defScope s__law_whole, [], []⟩
def d__law_counts : He.DefD := ⟨("_law_counts", none), "_law_counts", "_law_counts", defArgs s__law_counts, defBody s__law_counts, defScope s__law_counts, [], []⟩
def d__law_twos : He.DefD := ⟨("_law_twos", none), "_law_twos", "_law_twos", defArgs s__law_twos, defBody s__law_twos, defScope s__law_twos, [], []⟩
def d__law_ways : He.DefD := ⟨("_law_ways", none), "_law_ways", "_law_ways", defArgs s__law_ways, defBody s__law_ways, defScope s__law_ways, [], []⟩
def d__law_homes : He.DefD := ⟨("_law_homes", none), "_law_homes", "_law_homes", defArgs s__law_homes, defBody s__law_homes, defScope s__law_homes, [], []⟩
def d__law_misses : He.DefD := ⟨("_law_misses", none), "_law_misses", "_law_misses", defArgs s__law_misses, defBody s__law_misses, defScope s__law_misses, [], []⟩
def d_misses : He.DefD := ⟨("misses", none), "misses", "misses", defArgs s_misses, defBody s_misses, defScope s_misses, [], []⟩
def d_need_counts : He.DefD := ⟨("need_counts", none), "need_counts", "need_counts", defArgs s_need_counts, defBody s_need_counts, defScope s_need_counts, [], []⟩
def d_sets_of : He.DefD := ⟨("sets_of", none), "sets_of", "sets_of", defArgs s_sets_of, defBody s_sets_of, defScope s_sets_of, [], []⟩
def d_weavings : He.DefD := ⟨("weavings", none), "weavings", "weavings", defArgs s_weavings, defBody s_weavings, defScope s_weavings, [], []⟩
def d_missed : He.DefD := ⟨("missed", none), "missed", "missed", defArgs s_missed, defBody s_missed, defScope s_missed, [], []⟩
def d_law : He.DefD := ⟨("law", none), "law", "law", defArgs s_law, defBody s_law, defScope s_law, [], []⟩
def fn_ : List He.DefD := [d_is_whole, d__law_cell, d__law_whole, d__law_counts, d__law_twos, d__law_ways, d__law_homes, d__law_misses, d_misses, d_need_counts, d_sets_of, d_weavings, d_missed, d_law]
def fa_ : List He.Fa := [.glo "is_whole", .glo "_law_cell", .glo "_law_whole", .glo "_law_counts", .glo "_law_twos", .glo "_law_ways", .glo "_law_homes", .glo "_law_misses", .glo "misses", .glo "need_counts", .glo "sets_of", .glo "weavings", .glo "missed", .glo "law", .free "int", .free "isinstance", .free "bool", .free "len", .free "range", .free "list", .free "tuple", .str "NAMES" "abcde"]
abbrev R_ : PySem.W.OpenRow := PySem.W.OpenLaw.row PySem.Challenge.rw_threeroofs_k72_whole_those_that_miss
abbrev hk_ : PySem.W.Hook := He.hookD 4 fa_ fn_
def ob_ (s : PySem.W.SharedT) : He.AlD := He.obsDG 4 fa_ fn_ (HandSHeadRun.getT s)
theorem ob_eq (s : PySem.W.SharedT) : ob_ s = hk_.obs s.abs := He.obsDG_eq (HandSHeadRun.getT_eq s)
def loose_ : List PySem.Str := ["RoofError", "NoCounts", "is_whole", "NAMES", "need_counts", "sets_of", "weavings", "misses", "missed", "_law_cell", "_law_whole", "_law_counts", "_law_ways", "_law_twos", "_law_homes", "_law_misses"]
theorem run_ (w : World) : HandSHeadRun.RunEq R_ (PySem.W.view R_.prog [20]) hk_ ob_ 3000 loose_ w := by
  intro os
  kernel_rfl
theorem facts_ {P : Program} {w : World} {K : Fg} {h : Heap} {mg : PySem.Str → Option Value} {f : Addr} (X : K.In h) (G : h.Ns mainGlobals mg) (hfa : mg ("law" : PySem.Str) = some (.ref f)) (c : He.SaysD fa_ fn_ K) :
    ∃ fd : FuncData, (∀ (s : Shared) (v : Value), BindsTo s fd ⟨[v], []⟩ [("script", v)]) ∧ ∀ base : Heap, K.In base → base.Ns mainGlobals mg → FnOk P w K mg base CX0 10 f fd ["script"] (sp_law K) := by
  have B : Bs mg := ⟨He.free_ok X G (c.fact 14 (f := .free "int") rfl), He.free_ok X G (c.fact 15 (f := .free "isinstance") rfl), He.free_ok X G (c.fact 16 (f := .free "bool") rfl), He.free_ok X G (c.fact 17 (f := .free "len") rfl), He.free_ok X G (c.fact 18 (f := .free "range") rfl), He.free_ok X G (c.fact 19 (f := .free "list") rfl), He.free_ok X G (c.fact 20 (f := .free "tuple") rfl), He.str_ok X G (c.fact 21 (f := .str "NAMES" "abcde") rfl)⟩
  obtain ⟨fd_is_whole, F_is_whole⟩ := c.def_ 0 (d := d_is_whole) rfl
  have gl_is_whole := He.glo_ok X G (c.fact 0 (f := .glo "is_whole") rfl)
  obtain ⟨fd__law_cell, F__law_cell⟩ := c.def_ 1 (d := d__law_cell) rfl
  have gl__law_cell := He.glo_ok X G (c.fact 1 (f := .glo "_law_cell") rfl)
  obtain ⟨fd__law_whole, F__law_whole⟩ := c.def_ 2 (d := d__law_whole) rfl
  have gl__law_whole := He.glo_ok X G (c.fact 2 (f := .glo "_law_whole") rfl)
  obtain ⟨fd__law_counts, F__law_counts⟩ := c.def_ 3 (d := d__law_counts) rfl
  have gl__law_counts := He.glo_ok X G (c.fact 3 (f := .glo "_law_counts") rfl)
  obtain ⟨fd__law_twos, F__law_twos⟩ := c.def_ 4 (d := d__law_twos) rfl
  have gl__law_twos := He.glo_ok X G (c.fact 4 (f := .glo "_law_twos") rfl)
  obtain ⟨fd__law_ways, F__law_ways⟩ := c.def_ 5 (d := d__law_ways) rfl
  have gl__law_ways := He.glo_ok X G (c.fact 5 (f := .glo "_law_ways") rfl)
  obtain ⟨fd__law_homes, F__law_homes⟩ := c.def_ 6 (d := d__law_homes) rfl
  have gl__law_homes := He.glo_ok X G (c.fact 6 (f := .glo "_law_homes") rfl)
  obtain ⟨fd__law_misses, F__law_misses⟩ := c.def_ 7 (d := d__law_misses) rfl
  have gl__law_misses := He.glo_ok X G (c.fact 7 (f := .glo "_law_misses") rfl)
  obtain ⟨fd_misses, F_misses⟩ := c.def_ 8 (d := d_misses) rfl
  have gl_misses := He.glo_ok X G (c.fact 8 (f := .glo "misses") rfl)
  obtain ⟨fd_need_counts, F_need_counts⟩ := c.def_ 9 (d := d_need_counts) rfl
  have gl_need_counts := He.glo_ok X G (c.fact 9 (f := .glo "need_counts") rfl)
  obtain ⟨fd_sets_of, F_sets_of⟩ := c.def_ 10 (d := d_sets_of) rfl
  have gl_sets_of := He.glo_ok X G (c.fact 10 (f := .glo "sets_of") rfl)
  obtain ⟨fd_weavings, F_weavings⟩ := c.def_ 11 (d := d_weavings) rfl
  have gl_weavings := He.glo_ok X G (c.fact 11 (f := .glo "weavings") rfl)
  obtain ⟨fd_missed, F_missed⟩ := c.def_ 12 (d := d_missed) rfl
  have gl_missed := He.glo_ok X G (c.fact 12 (f := .glo "missed") rfl)
  obtain ⟨fd_law, F_law⟩ := c.def_ 13 (d := d_law) rfl
  have gl_law := He.glo_ok X G (c.fact 13 (f := .glo "law") rfl)
  have e := hfa.symm.trans gl_law
  cases e
  have b := FunD.bindsA (ps := ["script"]) F_law fun _ _ _ _ _ _ us hl => match us, hl with | [_], _ => rfl
  refine ⟨fd_law, fun s v => b s [v] rfl, fun base _ _ => ?_⟩
  have D_is_whole : Dn P w K mg base CX0 "is_whole" 1 ["thing"] (sp_is_whole K) := ⟨_, fd_is_whole, ok_is_whole B  F_is_whole, gl_is_whole, F_is_whole.kp, F_is_whole.bindsN fun _ _ _ _ _ _ us hl => match us, hl with | [_], _ => rfl⟩
  have D__law_cell : Dn P w K mg base CX0 "_law_cell" 1 ["script", "k"] (sp__law_cell K) := ⟨_, fd__law_cell, ok__law_cell B  F__law_cell, gl__law_cell, F__law_cell.kp, F__law_cell.bindsN fun _ _ _ _ _ _ us hl => match us, hl with | [_, _], _ => rfl⟩
  have D__law_whole : Dn P w K mg base CX0 "_law_whole" 1 ["found"] (sp__law_whole K) := ⟨_, fd__law_whole, ok__law_whole B  F__law_whole, gl__law_whole, F__law_whole.kp, F__law_whole.bindsN fun _ _ _ _ _ _ us hl => match us, hl with | [_], _ => rfl⟩
  have D__law_counts : Dn P w K mg base CX0 "_law_counts" 2 ["script"] (sp__law_counts K) := ⟨_, fd__law_counts, ok__law_counts B D__law_cell F__law_counts, gl__law_counts, F__law_counts.kp, F__law_counts.bindsN fun _ _ _ _ _ _ us hl => match us, hl with | [_], _ => rfl⟩
  have D__law_twos : Dn P w K mg base CX0 "_law_twos" 1 ["many"] (sp__law_twos K) := ⟨_, fd__law_twos, ok__law_twos B  F__law_twos, gl__law_twos, F__law_twos.kp, F__law_twos.bindsN fun _ _ _ _ _ _ us hl => match us, hl with | [_], _ => rfl⟩
  have D__law_ways : Dn P w K mg base CX0 "_law_ways" 1 ["many", "some"] (sp__law_ways K) := ⟨_, fd__law_ways, ok__law_ways B  F__law_ways, gl__law_ways, F__law_ways.kp, F__law_ways.bindsN fun _ _ _ _ _ _ us hl => match us, hl with | [_, _], _ => rfl⟩
  have D__law_homes : Dn P w K mg base CX0 "_law_homes" 1 ["number"] (sp__law_homes K) := ⟨_, fd__law_homes, ok__law_homes B  F__law_homes, gl__law_homes, F__law_homes.kp, F__law_homes.bindsN fun _ _ _ _ _ _ us hl => match us, hl with | [_], _ => rfl⟩
  have D__law_misses : Dn P w K mg base CX0 "_law_misses" 2 ["row"] (sp__law_misses K) := ⟨_, fd__law_misses, ok__law_misses B D__law_homes F__law_misses, gl__law_misses, F__law_misses.kp, F__law_misses.bindsN fun _ _ _ _ _ _ us hl => match us, hl with | [_], _ => rfl⟩
  have D_misses : Dn P w K mg base CX0 "misses" 1 ["weaving"] (sp_misses K) := ⟨_, fd_misses, ok_misses B  F_misses, gl_misses, F_misses.kp, F_misses.bindsN fun _ _ _ _ _ _ us hl => match us, hl with | [_], _ => rfl⟩
  have D_need_counts : Dn P w K mg base CX0 "need_counts" 2 ["copies", "reads", "writes"] (sp_need_counts K) := ⟨_, fd_need_counts, ok_need_counts B D_is_whole F_need_counts, gl_need_counts, F_need_counts.kp, F_need_counts.bindsN fun _ _ _ _ _ _ us hl => match us, hl with | [_, _, _], _ => rfl⟩
  have D_sets_of : Dn P w K mg base CX0 "sets_of" 7 ["many", "some"] (sp_sets_of K 6) := ⟨_, fd_sets_of, ok_sets_of B  F_sets_of gl_sets_of 6, gl_sets_of, F_sets_of.kp, F_sets_of.bindsN fun _ _ _ _ _ _ us hl => match us, hl with | [_, _], _ => rfl⟩
  have D_weavings : Dn P w K mg base CX0 "weavings" 8 ["copies", "reads", "writes"] (sp_weavings K) := ⟨_, fd_weavings, ok_weavings B D_need_counts D_sets_of F_weavings, gl_weavings, F_weavings.kp, F_weavings.bindsN fun _ _ _ _ _ _ us hl => match us, hl with | [_, _, _], _ => rfl⟩
  have D_missed : Dn P w K mg base CX0 "missed" 9 ["copies", "reads", "writes"] (sp_missed K) := ⟨_, fd_missed, ok_missed B D_weavings D_misses F_missed, gl_missed, F_missed.kp, F_missed.bindsN fun _ _ _ _ _ _ us hl => match us, hl with | [_, _, _], _ => rfl⟩
  exact ok_law B D__law_counts D_weavings D_misses D__law_misses D_missed D__law_whole D__law_ways D__law_twos F_law
end Th
open PySem PySem.W PySem.Calls PyProof.Rows
theorem PySem.Challenge.cw_threeroofs_k72_whole_those_that_miss_holds : PySem.Challenge.rw_threeroofs_k72_whole_those_that_miss.Holds := by
  w_on; o_law
  refine HandSHeadRun.head_any (r := OpenLaw.row PySem.Challenge.rw_threeroofs_k72_whole_those_that_miss) (q := view (OpenLaw.row PySem.Challenge.rw_threeroofs_k72_whole_those_that_miss).prog [20]) (H := Th.hk_) (ob := Th.ob_) (M := 3000) (loose := Th.loose_) (d := HandSHeadRun.topDef (OpenLaw.row PySem.Challenge.rw_threeroofs_k72_whole_those_that_miss).prog 20) (kwd := []) Th.ob_eq
    (by kernel_rfl) (fun s => by kernel_rfl) Th.run_ (by kernel_rfl) (by kernel_rfl) (by kernel_rfl) (by rfl) (by first | assumption | decide +kernel) (by decide +kernel) ⟨rfl, rfl, rfl, rfl, rfl, by decide +kernel⟩ ?hw ?hc
  case hw => w_witness2
  case hc =>
    refine L2.walk_ofE (l := PySem.Challenge.rw_threeroofs_k72_whole_those_that_miss) (n := 63) (k := 10) (x := "script") (CX := L2.CX0) rfl (by decide) (by kernel_rfl) ⟨rfl, by decide, by decide⟩ ?F (fun _ _ _ _ z => z)
    intro w mg fa h Y G hmg0
    obtain ⟨K, KX, c⟩ := Y
    have hmg : mg ("law" : PySem.Str) = some (.ref fa) := by
      have e : (HandSHeadRun.topDef (OpenLaw.row PySem.Challenge.rw_threeroofs_k72_whole_those_that_miss).prog 20).name = ("law" : PySem.Str) := by kernel_rfl
      rw [← e]
      exact hmg0
    obtain ⟨fd, hb, hF⟩ := Th.facts_ (P := (PySem.Challenge.rw_threeroofs_k72_whole_those_that_miss).prog) (w := w) KX G hmg c
    exact ⟨K, fd, Th.sp_law K, KX, hb, fun H a ns hl _ hS => ⟨H, ⟨ns⟩, .ref a, rfl, L2.Same.refl H, ⟨a, rfl, hS⟩, fun F' H' r g hr => by
      have e : r = L2.V.bl (Th.m_law ⟨ns⟩) := hr
      rw [e, Th.law_true ns hl]⟩, hF⟩
#print axioms PySem.Challenge.cw_threeroofs_k72_whole_those_that_miss_holds
