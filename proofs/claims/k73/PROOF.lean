import PyProof.Rows.All
import Wide.All
import OpenK.AllK
import Wide.FinOn
import HandS.ForMost
import HandS.ForExc
import HandS.Flow
import HandS.Zip
import HandS.IsInst
import HandS.Style
import HandS.Evl
import HandS.Steps
import HandS.Defaults
import HandS.FStr
import HandS.Conv
import HandS.SortInts
import HandS.WideBits
import HandS.RaiseMore
import HandS.ExcOwn
import HandS.ExcIs
import HandS.ExcValue
import HandS.HeadHook1
import HandS.Lambda
import HandS.Head0
import HandS.Head1
import HandS.Head2
import HandS.HeadEnd
import HandS.HeadHook2
import HandS.HeadHook4
import PySem.Challenge.RW_threeroofs_k73_no_counts
set_option Elab.async false
set_option linter.all false
set_option maxRecDepth 100000
set_option maxHeartbeats 2000000
/-! Typed mirrors over the readings: what a value of the heap stands for (Rep), what a reading gives (Tv, Tt, TvA, It), statements (q_*). -/
namespace Rf
open PySem L2
abbrev Fg := PySem.W.Frag
abbrev St := L2.St
/-! ### growing heaps: F is the part that never changes any more, H the whole -/
structure Gr (F H F' H' : Hp) : Prop where
  ex : Same F F'
  keep : Same H H'
  sub : Same F' H'
  new : forall a o, H a = some o -> F' a = F a
/-- .. but for a zone Z that may change -/
structure GrZ (Z : Addr -> Prop) (F H F' H' : Hp) : Prop where
  ex : Same F F'
  keep : forall a o, ¬ Z a -> H a = some o -> H' a = some o
  dom : forall a o, H a = some o -> exists o', H' a = some o'
  sub : Same F' H'
  new : forall a o, H a = some o -> F' a = F a
abbrev Z0 : Addr -> Prop := fun _ => False
section
variable {Z : Addr -> Prop} {F H F1 H1 F2 H2 : Hp} {p : Addr} {o : HO}
theorem Gr.refl (s : Same F H) : Gr F H F H := ⟨Same.refl F, Same.refl H, s, fun _ _ _ => rfl⟩
theorem Gr.self (H : Hp) : Gr H H H H := Gr.refl (Same.refl H)
theorem Gr.trans (a : Gr F H F1 H1) (b : Gr F1 H1 F2 H2) : Gr F H F2 H2 :=
  ⟨a.ex.trans b.ex, a.keep.trans b.keep, b.sub, fun x o e => (b.new x o (a.keep x o e)).trans (a.new x o e)⟩
theorem same_upd (s : Same F H) : Same (upd F p o) (upd H p o) := fun a u e => by
  by_cases h : a = p
  · subst h; rw [upd_same] at e ⊢; exact e
  · rw [upd_ne h] at e ⊢; exact s a u e
theorem same_new (h : H p = none) : Same H (upd H p o) := fun a u e => by
  rw [upd_ne (ne_of_none e h)]; exact e
theorem same_mut (s : Same F H) (h : F p = none) : Same F (upd H p o) := fun a u e => by
  rw [upd_ne (ne_of_none e h)]; exact s a u e
theorem same_in (s : Same F H) (h : H p = some o) : Same (upd F p o) H := fun a u e => by
  by_cases q : a = p
  · subst q; rw [upd_same] at e; rw [h]; exact e
  · rw [upd_ne q] at e; exact s a u e
theorem none_of (s : Same F H) (h : H p = none) : F p = none := Same.free s h
/-- a new frozen object -/
theorem Gr.lay (s : Same F H) (h : H p = none) : Gr F H (upd F p o) (upd H p o) :=
  ⟨same_new (none_of s h), same_new h, same_upd s, fun a u e => upd_ne (ne_of_none e h)⟩
/-- a new object that may change still -/
theorem Gr.put (s : Same F H) (h : H p = none) : Gr F H F (upd H p o) :=
  ⟨Same.refl F, same_new h, same_mut s (none_of s h), fun _ _ _ => rfl⟩
/-- the whole grew, the frozen part stays -/
theorem Gr.up (s : Same F H) (e : Same H H1) : Gr F H F H1 := ⟨Same.refl F, e, s.trans e, fun _ _ _ => rfl⟩
/-- an object new since H is frozen now -/
theorem Gr.ice (g : Gr F H F1 H1) (n : H p = none) (e : H1 p = some o) (f : F1 p = none) : Gr F H (upd F1 p o) H1 :=
  ⟨g.ex.trans (same_new f), g.keep, same_in g.sub e, fun a u q => (upd_ne (ne_of_none q n)).trans (g.new a u q)⟩
theorem Gr.whole (e : Same H H1) : Gr H H H1 H1 := ⟨e, e, Same.refl H1, fun a o q => by rw [q]; exact e a o q⟩
theorem GrZ.refl (s : Same F H) : GrZ Z F H F H := ⟨Same.refl F, fun _ _ _ e => e, fun _ o e => ⟨o, e⟩, s, fun _ _ _ => rfl⟩
theorem GrZ.of (g : Gr F H F1 H1) : GrZ Z F H F1 H1 := ⟨g.ex, fun a o _ e => g.keep a o e, fun a o e => ⟨o, g.keep a o e⟩, g.sub, g.new⟩
theorem GrZ.gr (g : GrZ Z0 F H F1 H1) : Gr F H F1 H1 := ⟨g.ex, fun a o e => g.keep a o (fun z => z) e, g.sub, g.new⟩
theorem GrZ.then (a : GrZ Z F H F1 H1) (b : Gr F1 H1 F2 H2) : GrZ Z F H F2 H2 :=
  ⟨a.ex.trans b.ex, fun x o z e => b.keep x o (a.keep x o z e), fun x o e => let ⟨o', e'⟩ := a.dom x o e; ⟨o', b.keep x o' e'⟩, b.sub,
    fun x o e => let ⟨o', e'⟩ := a.dom x o e; (b.new x o' e').trans (a.new x o e)⟩
theorem GrZ.thenZ {Y : Addr -> Prop} (a : GrZ Z F H F1 H1) (b : GrZ Y F1 H1 F2 H2) (hy : forall x, Y x -> Z x ∨ H x = none) : GrZ Z F H F2 H2 :=
  ⟨a.ex.trans b.ex, fun x o z e => b.keep x o (fun y => (hy x y).elim z fun n => by rw [n] at e; cases e) (a.keep x o z e),
    fun x o e => let ⟨o', e'⟩ := a.dom x o e; b.dom x o' e', b.sub, fun x o e => let ⟨o', e'⟩ := a.dom x o e; (b.new x o' e').trans (a.new x o e)⟩
/-- an object new since H is changed -/
theorem GrZ.mut (a : GrZ Z F H F1 H1) (n : H p = none) (f : F1 p = none) : GrZ Z F H F1 (upd H1 p o) :=
  ⟨a.ex, fun x u z e => by rw [upd_ne (ne_of_none e n)]; exact a.keep x u z e, fun x u e => by rw [upd_ne (ne_of_none e n)]; exact a.dom x u e, same_mut a.sub f, a.new⟩
theorem GrZ.ice (g : GrZ Z F H F1 H1) (n : H p = none) (e : H1 p = some o) (f : F1 p = none) : GrZ Z F H (upd F1 p o) H1 :=
  ⟨g.ex.trans (same_new f), g.keep, g.dom, same_in g.sub e, fun a u q => (upd_ne (ne_of_none q n)).trans (g.new a u q)⟩
end

/-! ### what a value stands for -/
/-- all that stood stands, but that dicts may be locked and unlocked -/
def Le (F F' : Hp) : Prop := forall a o, F a = some o -> F' a = some o ∨ (exists ob kvs, o = .dK kvs ∧ F' a = some (.frz ob (.dK kvs))) ∨ exists ob kvs, o = .frz ob (.dK kvs) ∧ F' a = some (.dK kvs)
theorem Le.of {F F' : Hp} (s : Same F F') : Le F F' := fun a o e => .inl (s a o e)
theorem Le.at_ {F F' : Hp} {a : Addr} {o : HO} (l : Le F F') (h : F a = some o) (n1 : forall kvs, o ≠ .dK kvs) (n2 : forall ob kvs, o ≠ .frz ob (.dK kvs)) : F' a = some o := by
  rcases l a o h with h | ⟨ob, kvs, e, _⟩ | ⟨ob, kvs, e, _⟩
  · exact h
  · exact (n1 _ e).elim
  · exact (n2 _ _ e).elim
theorem Le.lst {F F' : Hp} {a : Addr} {xs : List V} (l : Le F F') (h : F a = some (.lst xs)) : F' a = some (.lst xs) := l.at_ h (fun _ z => nomatch z) (fun _ _ z => nomatch z)
theorem Le.tup {F F' : Hp} {a : Addr} {xs : List V} (l : Le F F') (h : F a = some (.tup xs)) : F' a = some (.tup xs) := l.at_ h (fun _ z => nomatch z) (fun _ _ z => nomatch z)
theorem Le.ext {F F' : Hp} {a : Addr} {φ : Heap -> Prop} (l : Le F F') (h : F a = some (.ext φ)) : F' a = some (.ext φ) := l.at_ h (fun _ z => nomatch z) (fun _ _ z => nomatch z)
theorem Le.dT {F F' : Hp} {a : Addr} {kvs : List (List Key × V)} (l : Le F F') (h : F a = some (.dT kvs)) : F' a = some (.dT kvs) := l.at_ h (fun _ z => nomatch z) (fun _ _ z => nomatch z)
theorem Le.dK {F F' : Hp} {a : Addr} {kvs : List (Key × V)} (l : Le F F') (h : Rd F a (.dK kvs)) : Rd F' a (.dK kvs) := by
  rcases h with h | ⟨o, h⟩
  · rcases l a _ h with h | ⟨ob, k2, e, h⟩ | ⟨ob, k2, e, h⟩
    · exact .inl h
    · cases e; exact .inr ⟨_, h⟩
    · cases e
  · rcases l a _ h with h | ⟨ob, k2, e, h⟩ | ⟨ob, k2, e, h⟩
    · exact .inr ⟨_, h⟩
    · cases e
    · cases e; exact .inl h
theorem Le.sqL {K : Fg} {F F' : Hp} {a : Addr} {xs : List V} (l : Le F F') (h : SqL K F a xs) : SqL K F' a xs := by
  rcases h with (h | ⟨o, h⟩) | h
  · exact .inl (.inl (l.lst h))
  · exact .inl (.inr ⟨o, l.at_ h (fun _ z => nomatch z) (fun _ _ z => nomatch z)⟩)
  · exact .inr h
theorem Le.lock {F : Hp} {a : Addr} {ob : Obj} {kvs : List (Key × V)} (h : F a = some (.dK kvs)) : Le F (upd F a (.frz ob (.dK kvs))) := fun b o e => by
  by_cases q : b = a
  · subst q; rw [h] at e; cases e; exact .inr (.inl ⟨ob, kvs, rfl, upd_same⟩)
  · exact .inl (by rw [upd_ne q]; exact e)
theorem Le.unlock {F : Hp} {a : Addr} {ob : Obj} {kvs : List (Key × V)} (h : F a = some (.frz ob (.dK kvs))) : Le F (upd F a (.dK kvs)) := fun b o e => by
  by_cases q : b = a
  · subst q; rw [h] at e; cases e; exact .inr (.inr ⟨ob, kvs, rfl, upd_same⟩)
  · exact .inl (by rw [upd_ne q]; exact e)
class Rep (α : Type) where
  rp : Fg -> Hp -> α -> V -> Prop
  mono : forall {K : Fg} {F F' : Hp} {x : α} {v : V}, Le F F' -> rp K F x v -> rp K F' x v
open Rep (rp)
theorem up [Rep α] {K : Fg} {F F' : Hp} {x : α} {v : V} (s : Same F F') (h : rp K F x v) : rp K F' x v := Rep.mono (Le.of s) h
/-- nothing of it stands in the heap -/
class Flat (α : Type) [Rep α] where
  val : α -> V
  is : forall {K : Fg} {F : Hp} {x : α} {v : V}, rp K F x v -> v = val x
  of : forall {K : Fg} {F : Hp} (x : α), rp K F x (val x)
instance : Rep Int := ⟨fun _ _ x v => v = .int x, fun _ h => h⟩
instance : Rep Bool := ⟨fun _ _ x v => v = .bl x, fun _ h => h⟩
instance : Rep PySem.Str := ⟨fun _ _ x v => v = .str x, fun _ h => h⟩
instance : Rep Unit := ⟨fun _ _ _ v => v = .non, fun _ h => h⟩
instance : Rep V := ⟨fun _ _ x v => v = x, fun _ h => h⟩
instance : Flat Int := ⟨fun x => .int x, fun h => h, fun _ => rfl⟩
instance : Flat Bool := ⟨fun x => .bl x, fun h => h, fun _ => rfl⟩
instance : Flat PySem.Str := ⟨fun x => .str x, fun h => h, fun _ => rfl⟩
instance : Flat Unit := ⟨fun _ => .non, fun h => h, fun _ => rfl⟩
instance : Flat V := ⟨fun x => x, fun h => h, fun _ => rfl⟩
theorem Flat.any [Rep α] [Flat α] {K : Fg} {F F' : Hp} {x : α} {v : V} (h : rp K F x v) : rp K F' x v := by
  rw [Flat.is h]; exact Flat.of x
/-- None or a thing (that is never None) -/
instance [Rep α] : Rep (Option α) := ⟨fun K F x v => match x with | none => v = .non | some y => rp K F y v, fun {K F F' x v} s h => by
  cases x with
  | none => exact h
  | some y => exact Rep.mono (x := y) s h⟩
instance [Rep α] [Flat α] : Flat (Option α) := ⟨fun x => match x with | none => .non | some y => Flat.val y, fun {K F x v} h => by
  cases x with
  | none => exact h
  | some y => exact Flat.is (K := K) (F := F) (x := y) h, fun {K F} x => by
  cases x with
  | none => exact (rfl : V.non = V.non)
  | some y => exact Flat.of (K := K) (F := F) y⟩
abbrev Rps [Rep α] (K : Fg) (F : Hp) (xs : List α) (vs : List V) : Prop := Paired (rp K F) xs vs
theorem rps_le [Rep α] {K : Fg} {F F' : Hp} {xs : List α} {vs : List V} (s : Le F F') (h : Rps K F xs vs) : Rps K F' xs vs := Paired.mono (fun _ _ r => Rep.mono s r) h
theorem rps_mono [Rep α] {K : Fg} {F F' : Hp} {xs : List α} {vs : List V} (s : Same F F') (h : Rps K F xs vs) : Rps K F' xs vs := rps_le (Le.of s) h
theorem rps_flat [Rep α] [Flat α] {K : Fg} {F : Hp} : forall {xs : List α} {vs : List V}, Rps K F xs vs -> vs = xs.map Flat.val
  | _, _, .nil => rfl
  | _, _, .cons r t => by rw [Flat.is r, rps_flat t]; rfl
theorem rps_of [Rep α] [Flat α] {K : Fg} {F : Hp} : forall (xs : List α), Rps K F xs (xs.map Flat.val)
  | [] => .nil
  | x :: r => .cons (Flat.of x) (rps_of r)
theorem rps_app [Rep α] {K : Fg} {F : Hp} : forall {xs ys : List α} {vs ws : List V}, Rps K F xs vs -> Rps K F ys ws -> Rps K F (xs ++ ys) (vs ++ ws)
  | _, _, _, _, .nil, s => s
  | _, _, _, _, .cons r t, s => .cons r (rps_app t s)
theorem same_sqT {K : Fg} {H H' : Hp} {a : Addr} {xs : List V} (e : Same H H') (h : SqT K H a xs) : SqT K H' a xs := by
  rcases h with (h | ⟨o, h⟩) | h
  · exact .inl (.inl (e _ _ h))
  · exact .inl (.inr ⟨o, e _ _ h⟩)
  · exact .inr h
theorem same_rd {H H' : Hp} {a : Addr} {u : HO} (e : Same H H') (h : Rd H a u) : Rd H' a u := by
  rcases h with h | ⟨o, h⟩
  · exact .inl (e _ _ h)
  · exact .inr ⟨o, e _ _ h⟩
/-- a list -/
instance [Rep α] : Rep (List α) := ⟨fun K F xs v => exists a vs, v = .ref a ∧ F a = some (.lst vs) ∧ Rps K F xs vs, fun s ⟨a, vs, e, q, r⟩ => ⟨a, vs, e, s.lst q, rps_le s r⟩⟩
/-- the law's script -/
structure Scr where
  l : List Int
instance : Rep Scr := ⟨fun K F x v => exists a, v = .ref a ∧ SqL K F a (x.l.map V.int), fun s ⟨a, e, q⟩ => ⟨a, e, s.sqL q⟩⟩
/-- the items of a tuple: α × β × γ is a triple -/
class RepT (α : Type) where
  rt : Fg -> Hp -> α -> List V -> Prop
  mono : forall {K : Fg} {F F' : Hp} {x : α} {vs : List V}, Le F F' -> rt K F x vs -> rt K F' x vs
instance (priority := low) [Rep α] : RepT α := ⟨fun K F x vs => exists v, vs = [v] ∧ rp K F x v, fun s ⟨v, e, r⟩ => ⟨v, e, Rep.mono s r⟩⟩
instance (priority := high) [Rep α] [RepT β] : RepT (α × β) := ⟨fun K F x vs => exists v r, vs = v :: r ∧ rp K F x.1 v ∧ RepT.rt K F x.2 r, fun s ⟨v, r, e, h, t⟩ => ⟨v, r, e, Rep.mono s h, RepT.mono s t⟩⟩
instance [Rep α] [RepT β] : Rep (α × β) := ⟨fun K F x v => exists a vs, v = .ref a ∧ F a = some (.tup vs) ∧ RepT.rt K F x vs, fun s ⟨a, vs, e, q, r⟩ => ⟨a, vs, e, s.tup q, RepT.mono s r⟩⟩
/-- a pair (of zip, enumerate, items), whatever its items are -/
structure Pr (α β : Type) where
  fst : α
  snd : β
instance [Inhabited α] [Inhabited β] : Inhabited (Pr α β) := ⟨⟨default, default⟩⟩
instance [Rep α] [Rep β] : Rep (Pr α β) := ⟨fun K F x v => exists a v1 v2, v = .ref a ∧ F a = some (.tup [v1, v2]) ∧ rp K F x.fst v1 ∧ rp K F x.snd v2, fun s ⟨a, v1, v2, e, q, r1, r2⟩ => ⟨a, v1, v2, e, s.tup q, Rep.mono s r1, Rep.mono s r2⟩⟩
/-- a tuple of any length of things of one kind -/
structure Tup (α : Type) where
  l : List α
instance [Rep α] : Rep (Tup α) := ⟨fun K F xs v => exists a vs, v = .ref a ∧ F a = some (.tup vs) ∧ Rps K F xs.l vs, fun s ⟨a, vs, e, q, r⟩ => ⟨a, vs, e, s.tup q, rps_le s r⟩⟩

/-! ### lists of our own that may change still -/
structure MutL [Rep α] (K : Fg) (F H : Hp) (p : Addr) (xs : List α) : Prop where
  fr : F p = none
  at_ : exists vs, H p = some (.lst vs) ∧ Rps K F xs vs
section
variable [Rep α] {K : Fg} {F H F1 H1 : Hp} {p q : Addr} {xs : List α} {x : α} {v : V} {o : HO}
theorem MutL.go (m : MutL K F H p xs) (g : Gr F H F1 H1) : MutL K F1 H1 p xs := by
  obtain ⟨f, vs, e, r⟩ := m
  exact ⟨(g.new p _ e).trans f, vs, g.keep p _ e, rps_mono g.ex r⟩
theorem MutL.grow (m : MutL K F H p xs) (g : Same H H1) : MutL K F H1 p xs := by
  obtain ⟨f, vs, e, r⟩ := m
  exact ⟨f, vs, g p _ e, r⟩
theorem MutL.past (m : MutL K F H p xs) (n : p ≠ q) : MutL K F (upd H q o) p xs := by
  obtain ⟨f, vs, e, r⟩ := m
  exact ⟨f, vs, by rw [upd_ne n]; exact e, r⟩
theorem MutL.ne (m : MutL K F H p xs) (h : H q = none) : p ≠ q := by
  obtain ⟨f, vs, e, r⟩ := m
  exact ne_of_none e h
/-- read as it stands -/
theorem MutL.rd (m : MutL K F H p xs) (s : Same F H) : rp K H xs (.ref p) := by
  obtain ⟨f, vs, e, r⟩ := m
  exact ⟨p, vs, rfl, e, rps_mono s r⟩
/-- frozen for good -/
theorem MutL.ice (m : MutL K F H p xs) : exists vs, H p = some (.lst vs) ∧ rp K (upd F p (.lst vs)) xs (.ref p) := by
  obtain ⟨f, vs, e, r⟩ := m
  exact ⟨vs, e, p, vs, rfl, upd_same, rps_mono (same_new f) r⟩
end

/-! ### what a reading gives -/
def Tv [Rep α] (K : Fg) (te : TE) (σ : St) (F H : Hp) (x : α) : Prop :=
  forall F1 H1, Gr F H F1 H1 -> forall Q : VK, (forall F2 H2 v, Gr F1 H1 F2 H2 -> rp K F2 x v -> Q v H2) -> te σ H1 Q
def Tt (tt : TT) (σ : St) (H : Hp) (b : Bool) : Prop :=
  forall H1, Same H H1 -> forall Q : Bool -> Hp -> Prop, (forall H2, Same H1 H2 -> Q b H2) -> tt σ H1 Q
def TvA (ta : TA) (σ : St) (F H : Hp) (P : Hp -> List V -> Prop) : Prop :=
  forall F1 H1, Gr F H F1 H1 -> forall Q : List V -> Hp -> Prop, (forall F2 H2 vs, Gr F1 H1 F2 H2 -> P F2 vs -> Q vs H2) -> ta σ H1 Q
/-- a new list, whose items are xs -/
def TvL [Rep α] (K : Fg) (te : TE) (σ : St) (F H : Hp) (xs : List α) : Prop :=
  forall F1 H1, Gr F H F1 H1 -> forall Q : VK, (forall F2 H2 p, Gr F1 H1 F2 H2 -> H1 p = none -> MutL K F2 H2 p xs -> Q (.ref p) H2) -> te σ H1 Q
section
variable {K : Fg} {σ : St} {F H F1 H1 : Hp} {ta tb te : TE} {tt tu : TT} {i : Nat} {v : V}
theorem Tv.mono [Rep α] {x : α} (g : Gr F H F1 H1) (h : Tv K te σ F H x) : Tv K te σ F1 H1 x := fun F2 H2 k => h F2 H2 (g.trans k)
/-- a flat value by the whole heap -/
theorem tv_flat [Rep α] [Flat α] {x : α} (h : Tv K te σ H H x) : Tv K te σ F H x := fun F1 H1 g Q q =>
  h H1 H1 (Gr.whole g.keep) Q fun F2 H2 v g2 r => q F1 H2 v (Gr.up g.sub g2.keep) (Flat.any r)
theorem TvL.tv [Rep α] {xs : List α} (h : TvL K te σ F H xs) : Tv K te σ F H xs := fun F1 H1 g Q q =>
  h F1 H1 g Q fun F2 H2 p g2 n m => by
    obtain ⟨vs, e, r⟩ := m.ice
    exact q _ H2 _ (g2.ice n e m.fr) r
theorem tv_var [Rep α] {x : α} (e : σ[i]? = some (some v)) (h : rp K F x v) : Tv K (tVar i) σ F H x := fun F1 H1 g Q q =>
  ⟨v, e, q F1 H1 v (Gr.refl g.sub) (up g.ex h)⟩
theorem tv_c [Rep α] {x : α} (h : forall F, rp K F x v) : Tv K (tC v) σ F H x := fun F1 H1 g Q q => q F1 H1 v (Gr.refl g.sub) (h F1)
theorem tv_int {i : Int} : Tv K (tC (.int i)) σ F H i := tv_c fun _ => rfl
theorem tv_str {s : PySem.Str} : Tv K (tC (.str s)) σ F H s := tv_c fun _ => rfl
theorem tv_bl {b : Bool} : Tv K (tC (.bl b)) σ F H b := tv_c fun _ => rfl
theorem tv_non : Tv K (tC .non) σ F H () := tv_c fun _ => rfl
theorem tv_noneO [Rep α] : Tv K (tC .non) σ F H (none : Option α) := tv_c fun _ => rfl
theorem tv_some [Rep α] {x : α} (h : Tv K te σ F H x) : Tv K te σ F H (some x) := fun F1 H1 g Q q => h F1 H1 g Q fun F2 H2 v g2 r => q F2 H2 v g2 r
theorem Tv.is [Rep α] {x y : α} (h : Tv K te σ F H x) (e : x = y) : Tv K te σ F H y := e ▸ h
/-- two in a row -/
theorem tv_bin [Rep α] [Rep β] {x : α} {y : β} (ha : Tv K ta σ F H x) (hb : Tv K tb σ F H y) {R : V -> V -> Hp -> Prop} (g : Gr F H F1 H1)
    (k : forall F2 H2 v w, Gr F1 H1 F2 H2 -> rp K F2 x v -> rp K F2 y w -> R v w H2) : ta σ H1 fun v H2 => tb σ H2 fun w H3 => R v w H3 :=
  ha F1 H1 g _ fun F2 H2 v g2 r => hb F2 H2 (g.trans g2) _ fun F3 H3 w g3 r' => k F3 H3 v w (g2.trans g3) (up g3.ex r) r'
/-- an operator by values -/
def Op2 [Rep α] [Rep β] [Rep γ] (K : Fg) (r : R2) (x : α) (y : β) (z : γ) : Prop :=
  forall F H v w, Same F H -> rp K F x v -> rp K F y w -> forall Q : VK, (forall F2 H2 u, Gr F H F2 H2 -> rp K F2 z u -> Q u H2) -> r v w H Q
theorem tv_op [Rep α] [Rep β] [Rep γ] {x : α} {y : β} {z : γ} {r : R2} (ha : Tv K ta σ F H x) (hb : Tv K tb σ F H y) (ho : Op2 K r x y z) : Tv K (tOp r ta tb) σ F H z := fun F1 H1 g Q q =>
  tv_bin (R := fun v w H => r v w H Q) ha hb g fun F2 H2 v w g2 r1 r2 => ho F2 H2 v w g2.sub r1 r2 Q fun F3 H3 u g3 ru => q F3 H3 u (g2.trans g3) ru
theorem op2_I0 {f : Int -> Int -> V} [Rep γ] {i j : Int} {z : γ} (h : forall F, rp K F z (f i j)) : Op2 K (rI0 f) i j z := fun F H v w s r1 r2 Q q =>
  ⟨i, j, r1, r2, q F H _ (Gr.refl s) (h F)⟩
theorem op2_I {C : Int -> Int -> Prop} {f : Int -> Int -> V} [Rep γ] {i j : Int} {z : γ} (c : C i j) (h : forall F, rp K F z (f i j)) : Op2 K (rI C f) i j z := fun F H v w s r1 r2 Q q =>
  ⟨i, j, r1, r2, c, q F H _ (Gr.refl s) (h F)⟩
theorem op2_add {i j : Int} : Op2 K (rI0 fun i j => .int (i + j)) i j (i + j) := op2_I0 fun _ => rfl
theorem op2_sub {i j : Int} : Op2 K (rI0 fun i j => .int (i - j)) i j (i - j) := op2_I0 fun _ => rfl
theorem op2_mul {i j : Int} (c : CMul i j) : Op2 K (rI CMul fun i j => .int (i * j)) i j (i * j) := op2_I c fun _ => rfl
theorem op2_div {i j : Int} (c : CDiv i j) : Op2 K (rI CDiv fun i j => .int (i / j)) i j (i / j) := op2_I c fun _ => rfl
theorem op2_mod {i j : Int} (c : 0 < j) : Op2 K (rI (fun _ j => 0 < j) fun i j => .int (i % j)) i j (i % j) := op2_I c fun _ => rfl
theorem op2_lt {i j : Int} : Op2 K (rI0 fun i j => .bl (decide (i < j))) i j (decide (i < j)) := op2_I0 fun _ => rfl
theorem op2_le {i j : Int} : Op2 K (rI0 fun i j => .bl (decide (i ≤ j))) i j (decide (i ≤ j)) := op2_I0 fun _ => rfl
theorem op2_gt {i j : Int} : Op2 K (rI0 fun i j => .bl (decide (j < i))) i j (decide (j < i)) := op2_I0 fun _ => rfl
theorem op2_ge {i j : Int} : Op2 K (rI0 fun i j => .bl (decide (j ≤ i))) i j (decide (j ≤ i)) := op2_I0 fun _ => rfl
theorem op2_shr {i j : Int} (c : 0 ≤ j) : Op2 K (rI (fun _ j => 0 ≤ j) fun i j => .int (i / 2 ^ j.toNat)) i j (i / 2 ^ j.toNat) := op2_I c fun _ => rfl
theorem op2_shl {i j : Int} (c : CPow i j) : Op2 K (rI CPow fun i j => .int (i * 2 ^ j.toNat)) i j (i * 2 ^ j.toNat) := op2_I c fun _ => rfl
theorem op2_pow {i j : Int} (c : CPow i j) : Op2 K (rI CPow fun i j => .int (i ^ j.toNat)) i j (i ^ j.toNat) := op2_I c fun _ => rfl
theorem op2_band {i j : Int} : Op2 K (rI0 fun i j => .int (Builtin.bitAnd i j)) i j (Builtin.bitAnd i j) := op2_I0 fun _ => rfl
theorem op2_bor {i j : Int} : Op2 K (rI0 fun i j => .int (Builtin.bitOr i j)) i j (Builtin.bitOr i j) := op2_I0 fun _ => rfl
theorem op2_eqI {i j : Int} : Op2 K rEq i j (decide (i = j)) := fun F H v w s r1 r2 Q q => by
  cases r1; cases r2
  exact ⟨rfl, q F H _ (Gr.refl s) (by show V.bl _ = V.bl _; congr 1; exact decide_eq_decide.mpr ⟨fun h => V.int.inj h, fun h => by rw [h]⟩)⟩
theorem op2_neI {i j : Int} : Op2 K rNe i j (!decide (i = j)) := fun F H v w s r1 r2 Q q => by
  cases r1; cases r2
  exact ⟨rfl, q F H _ (Gr.refl s) (by show V.bl _ = V.bl _; congr 2; exact decide_eq_decide.mpr ⟨fun h => V.int.inj h, fun h => by rw [h]⟩)⟩
theorem op2_eqB {i j : Bool} : Op2 K rEq i j (decide (i = j)) := fun F H v w s r1 r2 Q q => by
  cases r1; cases r2
  exact ⟨rfl, q F H _ (Gr.refl s) (by show V.bl _ = V.bl _; congr 1; exact decide_eq_decide.mpr ⟨fun h => V.bl.inj h, fun h => by rw [h]⟩)⟩
theorem op2_neB {i j : Bool} : Op2 K rNe i j (!decide (i = j)) := fun F H v w s r1 r2 Q q => by
  cases r1; cases r2
  exact ⟨rfl, q F H _ (Gr.refl s) (by show V.bl _ = V.bl _; congr 2; exact decide_eq_decide.mpr ⟨fun h => V.bl.inj h, fun h => by rw [h]⟩)⟩
theorem op2_eqS {i j : PySem.Str} : Op2 K rEq i j (decide (i = j)) := fun F H v w s r1 r2 Q q => by
  cases r1; cases r2
  exact ⟨rfl, q F H _ (Gr.refl s) (by show V.bl _ = V.bl _; congr 1; exact decide_eq_decide.mpr ⟨fun h => V.str.inj h, fun h => by rw [h]⟩)⟩
theorem op2_neS {i j : PySem.Str} : Op2 K rNe i j (!decide (i = j)) := fun F H v w s r1 r2 Q q => by
  cases r1; cases r2
  exact ⟨rfl, q F H _ (Gr.refl s) (by show V.bl _ = V.bl _; congr 2; exact decide_eq_decide.mpr ⟨fun h => V.str.inj h, fun h => by rw [h]⟩)⟩
/-- tests -/
theorem tt_test {b : Bool} (h : Tv K te σ H H b) : Tt (tTest te) σ H b := fun H1 e Q q => h H1 H1 (Gr.whole e) _ fun F2 H2 v g r => ⟨b, r, q H2 g.keep⟩
theorem tt_B {b : Bool} (h : Tv K te σ H H b) : Tt (tB te) σ H b := fun H1 e Q q => h H1 H1 (Gr.whole e) _ fun F2 H2 v g r => ⟨b, r, q H2 g.keep⟩
theorem tt_and {a b : Bool} (h1 : Tt tt σ H a) (h2 : a = true -> Tt tu σ H b) : Tt (tAnd tt tu) σ H (a && b) := fun H1 e Q q => h1 H1 e _ fun H2 e2 => by
  cases a with
  | true => exact h2 rfl H2 (e.trans e2) Q fun H3 e3 => q H3 (e2.trans e3)
  | false => exact q H2 e2
theorem tt_or {a b : Bool} (h1 : Tt tt σ H a) (h2 : a = false -> Tt tu σ H b) : Tt (tOr tt tu) σ H (a || b) := fun H1 e Q q => h1 H1 e _ fun H2 e2 => by
  cases a with
  | true => exact q H2 e2
  | false => exact h2 rfl H2 (e.trans e2) Q fun H3 e3 => q H3 (e2.trans e3)
theorem tt_not {a : Bool} (h1 : Tt tt σ H a) : Tt (tNot tt) σ H (!a) := fun H1 e Q q => h1 H1 e _ fun H2 e2 => q H2 e2
theorem Tt.is {a b : Bool} (h : Tt tt σ H a) (e : a = b) : Tt tt σ H b := e ▸ h
theorem tv_and {a b : Bool} (h1 : Tv K ta σ H H a) (h2 : a = true -> Tv K tb σ H H b) : Tv K (tAndV ta tb) σ H H (a && b) := fun F1 H1 g Q q => h1 F1 H1 g _ fun F2 H2 v g2 r => ⟨a, r, by
  cases a with
  | true => exact h2 rfl F2 H2 (g.trans g2) Q fun F3 H3 w g3 r3 => q F3 H3 w (g2.trans g3) r3
  | false => exact q F2 H2 _ g2 rfl⟩
theorem tv_or {a b : Bool} (h1 : Tv K ta σ H H a) (h2 : a = false -> Tv K tb σ H H b) : Tv K (tOrV ta tb) σ H H (a || b) := fun F1 H1 g Q q => h1 F1 H1 g _ fun F2 H2 v g2 r => ⟨a, r, by
  cases a with
  | true => exact q F2 H2 _ g2 rfl
  | false => exact h2 rfl F2 H2 (g.trans g2) Q fun F3 H3 w g3 r3 => q F3 H3 w (g2.trans g3) r3⟩
theorem tv_not {a : Bool} (h1 : Tv K ta σ H H a) : Tv K (tNotV ta) σ H H (!a) := fun F1 H1 g Q q => h1 F1 H1 g _ fun F2 H2 v g2 r => ⟨a, r, q F2 H2 _ g2 rfl⟩
/-- a if c else b -/
theorem tv_if [Rep α] {c : Bool} {x y : α} (hc : Tt tt σ H c) (h1 : c = true -> Tv K ta σ F H x) (h2 : c = false -> Tv K tb σ F H y) : Tv K (tIf tt ta tb) σ F H (cond c x y) := fun F1 H1 g Q q => hc H1 g.keep _ fun H2 e2 => by
  cases c with
  | true => exact h1 rfl F1 H2 (g.trans (Gr.up g.sub e2)) Q fun F3 H3 w g3 r3 => q F3 H3 w ((Gr.up g.sub e2).trans g3) r3
  | false => exact h2 rfl F1 H2 (g.trans (Gr.up g.sub e2)) Q fun F3 H3 w g3 r3 => q F3 H3 w ((Gr.up g.sub e2).trans g3) r3
/-! ### arguments, displays, calls -/
theorem ta_nil : TvA tNil σ F H (fun _ vs => vs = []) := fun F1 H1 g Q q => q F1 H1 [] (Gr.refl g.sub) rfl
theorem ta_cons [Rep α] {x : α} {tr : TA} {P : Hp -> List V -> Prop} (h : Tv K te σ F H x) (hr : TvA tr σ F H P) : TvA (tCons te tr) σ F H (fun F vs => exists v r, vs = v :: r ∧ rp K F x v ∧ P F r) := fun F1 H1 g Q q =>
  h F1 H1 g _ fun F2 H2 v g2 r => hr F2 H2 (g.trans g2) _ fun F3 H3 vs g3 p => q F3 H3 (v :: vs) (g2.trans g3) ⟨v, vs, rfl, up g3.ex r, p⟩
/-- things of one kind -/
theorem ta_rnil [Rep α] : TvA tNil σ F H (fun F vs => Rps K F ([] : List α) vs) := fun F1 H1 g Q q => q F1 H1 [] (Gr.refl g.sub) .nil
theorem ta_rcons [Rep α] {x : α} {xs : List α} {tr : TA} (h : Tv K te σ F H x) (hr : TvA tr σ F H (fun F vs => Rps K F xs vs)) : TvA (tCons te tr) σ F H (fun F vs => Rps K F (x :: xs) vs) := fun F1 H1 g Q q =>
  h F1 H1 g _ fun F2 H2 v g2 r => hr F2 H2 (g.trans g2) _ fun F3 H3 vs g3 p => q F3 H3 (v :: vs) (g2.trans g3) (.cons (up g3.ex r) p)
/-- a tuple's items -/
theorem ta_t1 [Rep α] {x : α} (h : Tv K te σ F H x) : TvA (tCons te tNil) σ F H (fun F vs => exists v, vs = [v] ∧ rp K F x v) := fun F1 H1 g Q q =>
  h F1 H1 g _ fun F2 H2 v g2 r => q F2 H2 [v] g2 ⟨v, rfl, r⟩
theorem ta_tc [Rep α] [RepT β] {x : α} {y : β} {tr : TA} (h : Tv K te σ F H x) (hr : TvA tr σ F H (fun F vs => RepT.rt K F y vs)) : TvA (tCons te tr) σ F H (fun F vs => RepT.rt K F (x, y) vs) := fun F1 H1 g Q q =>
  h F1 H1 g _ fun F2 H2 v g2 r => hr F2 H2 (g.trans g2) _ fun F3 H3 vs g3 p => q F3 H3 (v :: vs) (g2.trans g3) ⟨v, vs, rfl, up g3.ex r, p⟩
theorem ta_tl [Rep α] {x : α} (h : Tv K te σ F H x) : TvA (tCons te tNil) σ F H (fun F vs => exists v, vs = [v] ∧ rp K F x v) := ta_t1 h
theorem sz {n : Nat} (h : n ≤ 100000) : n ≤ sizeLine := Nat.le_trans h (by decide)
theorem szl {n : Nat} (h : n < 100000) : n < sizeLine := Nat.lt_of_lt_of_le h (by decide)
theorem tl_lst [Rep α] {xs : List α} {t : TA} (h : TvA t σ F H (fun F vs => Rps K F xs vs)) (hl : xs.length ≤ 100000) : TvL K (tLst t) σ F H xs := fun F1 H1 g Q q =>
  h F1 H1 g _ fun F2 H2 vs g2 r => ⟨by rw [← r.length]; exact sz hl, fun p hp =>
    q F2 (upd H2 p (.lst vs)) p (g2.trans (Gr.put g2.sub hp)) (none_of g2.keep hp) ⟨none_of g2.sub hp, vs, upd_same, r⟩⟩
theorem tv_tup [Rep α] [RepT β] {z : α × β} {t : TA} (h : TvA t σ F H (fun F vs => RepT.rt K F z vs)) (hl : forall F vs, RepT.rt K F z vs -> vs.length ≤ 100000) : Tv K (tTup t) σ F H z := fun F1 H1 g Q q =>
  h F1 H1 g _ fun F2 H2 vs g2 r => ⟨sz (hl F2 vs r), fun p hp => q (upd F2 p (.tup vs)) (upd H2 p (.tup vs)) _ (g2.trans (Gr.lay g2.sub hp)) ⟨p, vs, rfl, upd_same, RepT.mono (Le.of <| same_new (none_of g2.sub hp)) r⟩⟩
theorem tv_tupN [Rep α] {xs : List α} {t : TA} (h : TvA t σ F H (fun F vs => Rps K F xs vs)) (hl : xs.length ≤ 100000) : Tv K (tTup t) σ F H (Tup.mk xs) := fun F1 H1 g Q q =>
  h F1 H1 g _ fun F2 H2 vs g2 r => ⟨by rw [← r.length]; exact sz hl, fun p hp => q (upd F2 p (.tup vs)) (upd H2 p (.tup vs)) _ (g2.trans (Gr.lay g2.sub hp)) ⟨p, vs, rfl, upd_same, rps_mono (same_new (none_of g2.sub hp)) r⟩⟩
/-- a promise: of such arguments such a value; a new list -/
def SpV [Rep β] (K : Fg) (sp : Sp) (P : Hp -> List V -> Prop) (y : β) : Prop := forall F H vs Q E, Same F H -> P F vs -> (forall F' H' r, Gr F H F' H' -> rp K F' y r -> Q r H') -> sp vs H Q E
def SpL [Rep β] (K : Fg) (sp : Sp) (P : Hp -> List V -> Prop) (ys : List β) : Prop := forall F H vs Q E, Same F H -> P F vs -> (forall F' H' p, Gr F H F' H' -> H p = none -> MutL K F' H' p ys -> Q (.ref p) H') -> sp vs H Q E
theorem tv_call [Rep β] {y : β} {t : TA} {sp : Sp} {E : XK} {P : Hp -> List V -> Prop} (h : TvA t σ F H P) (hs : SpV K sp P y) : Tv K (tCall sp [] E t) σ F H y := fun F1 H1 g Q q =>
  h F1 H1 g _ fun F2 H2 vs g2 p => hs F2 H2 (vs ++ []) Q E g2.sub (by rw [List.append_nil]; exact p) fun F3 H3 r g3 rr => q F3 H3 r (g2.trans g3) rr
theorem tl_call [Rep β] {ys : List β} {t : TA} {sp : Sp} {E : XK} {P : Hp -> List V -> Prop} (h : TvA t σ F H P) (hs : SpL K sp P ys) : TvL K (tCall sp [] E t) σ F H ys := fun F1 H1 g Q q =>
  h F1 H1 g _ fun F2 H2 vs g2 p => hs F2 H2 (vs ++ []) Q E g2.sub (by rw [List.append_nil]; exact p) fun F3 H3 a g3 n m => q F3 H3 a (g2.trans g3) (none_of g2.keep n) m
/-- a built-in called, by values -/
def CbV [Rep β] (K : Fg) (r : List V -> Hp -> VK -> Prop) (P : Hp -> List V -> Prop) (y : β) : Prop := forall F H vs (Q : VK), Same F H -> P F vs -> (forall F' H' w, Gr F H F' H' -> rp K F' y w -> Q w H') -> r vs H Q
def CbL [Rep β] (K : Fg) (r : List V -> Hp -> VK -> Prop) (P : Hp -> List V -> Prop) (ys : List β) : Prop := forall F H vs (Q : VK), Same F H -> P F vs -> (forall F' H' p, Gr F H F' H' -> H p = none -> MutL K F' H' p ys -> Q (.ref p) H') -> r vs H Q
theorem tv_cb [Rep β] {y : β} {t : TA} {r : List V -> Hp -> VK -> Prop} {P : Hp -> List V -> Prop} (h : TvA t σ F H P) (hs : CbV K r P y) : Tv K (tCB r t) σ F H y := fun F1 H1 g Q q =>
  h F1 H1 g _ fun F2 H2 vs g2 p => hs F2 H2 vs Q g2.sub p fun F3 H3 w g3 rr => q F3 H3 w (g2.trans g3) rr
theorem tl_cb [Rep β] {ys : List β} {t : TA} {r : List V -> Hp -> VK -> Prop} {P : Hp -> List V -> Prop} (h : TvA t σ F H P) (hs : CbL K r P ys) : TvL K (tCB r t) σ F H ys := fun F1 H1 g Q q =>
  h F1 H1 g _ fun F2 H2 vs g2 p => hs F2 H2 vs Q g2.sub p fun F3 H3 a g3 n m => q F3 H3 a (g2.trans g3) (none_of g2.keep n) m
end
end Rf

/-! ### the mirrors' words -/
namespace Rf
open PySem L2
open Rep (rp)
@[irreducible] def lt {α β : Type} (e : α) (k : α -> β) : β := k e
@[irreducible] def lt2 {α β γ : Type} (e : α × β) (k : α -> β -> γ) : γ := k e.1 e.2
@[irreducible] def lt3 {α β γ δ : Type} (e : α × β × γ) (k : α -> β -> γ -> δ) : δ := k e.1 e.2.1 e.2.2
@[irreducible] def lt4 {α β γ δ ε : Type} (e : α × β × γ × δ) (k : α -> β -> γ -> δ -> ε) : ε := k e.1 e.2.1 e.2.2.1 e.2.2.2
@[irreducible] def ltP {α β γ : Type} (e : Pr α β) (k : α -> β -> γ) : γ := k e.1 e.2
theorem ltP_eq {α β γ : Type} (e : Pr α β) (k : α -> β -> γ) : ltP e k = k e.1 e.2 := by unfold ltP; rfl
theorem p_ltP {α β γ : Type} (P : γ -> Prop) {a : α} {b : β} {k : α -> β -> γ} (h : P (ltP ⟨a, b⟩ k)) : P (k a b) := by rw [ltP_eq] at h; exact h
theorem lt_eq {α β : Type} (e : α) (k : α -> β) : lt e k = k e := by unfold lt; rfl
theorem lt2_eq {α β γ : Type} (e : α × β) (k : α -> β -> γ) : lt2 e k = k e.1 e.2 := by unfold lt2; rfl
theorem lt3_eq {α β γ δ : Type} (e : α × β × γ) (k : α -> β -> γ -> δ) : lt3 e k = k e.1 e.2.1 e.2.2 := by unfold lt3; rfl
theorem lt4_eq {α β γ δ ε : Type} (e : α × β × γ × δ) (k : α -> β -> γ -> δ -> ε) : lt4 e k = k e.1 e.2.1 e.2.2.1 e.2.2.2 := by unfold lt4; rfl
theorem p_lt {α β : Type} (P : β -> Prop) {e : α} {k : α -> β} (h : P (lt e k)) : P (k e) := by rw [lt_eq] at h; exact h
theorem p_lt2 {α β γ : Type} (P : γ -> Prop) {a : α} {b : β} {k : α -> β -> γ} (h : P (lt2 (a, b) k)) : P (k a b) := by rw [lt2_eq] at h; exact h
theorem p_lt3 {α β γ δ : Type} (P : δ -> Prop) {a : α} {b : β} {c : γ} {k : α -> β -> γ -> δ} (h : P (lt3 (a, b, c) k)) : P (k a b c) := by rw [lt3_eq] at h; exact h
theorem p_lt4 {α β γ δ ε : Type} (P : ε -> Prop) {a : α} {b : β} {c : γ} {d : δ} {k : α -> β -> γ -> δ -> ε} (h : P (lt4 (a, b, c, d) k)) : P (k a b c d) := by rw [lt4_eq] at h; exact h
/-- how a block ends: on, out of the loop, out of the def -/
inductive Fl (S R : Type) where
  | nx (s : S) | bk (s : S) | rt (r : R)
def run {α S R : Type} (body : S -> α -> Fl S R) : S -> List α -> Fl S R
  | s, [] => .nx s
  | s, x :: xs => match body s x with
    | .nx s' => run body s' xs
    | .bk s' => .bk s'
    | .rt r => .rt r
@[irreducible] def fin {S R T : Type} (f : Fl S R) (ret : R -> T) (k : S -> T) : T := match f with
  | .nx s => k s
  | .bk s => k s
  | .rt r => ret r
instance {S R : Type} [Inhabited R] : Inhabited (Fl S R) := ⟨.rt default⟩
theorem fin_nx {S R T : Type} (s : S) (ret : R -> T) (k : S -> T) : fin (Fl.nx s) ret k = k s := by unfold fin; rfl
theorem fin_bk {S R T : Type} (s : S) (ret : R -> T) (k : S -> T) : fin (Fl.bk s) ret k = k s := by unfold fin; rfl
theorem fin_rt {S R T : Type} (r : R) (ret : R -> T) (k : S -> T) : fin (Fl.rt r) ret k = ret r := by unfold fin; rfl
section
variable {α S R : Type} {body : S -> α -> Fl S R}
theorem run_snoc : forall (xs : List α) (s : S) (x : α), run body s (xs ++ [x]) = match run body s xs with
    | .nx s' => body s' x
    | .bk s' => .bk s'
    | .rt r => .rt r
  | [], s, x => by
    show run body s [x] = body s x
    simp only [run]
    cases body s x <;> rfl
  | y :: ys, s, x => by
    simp only [List.cons_append, run]
    cases body s y with
    | nx s' => exact run_snoc ys s' x
    | bk s' => rfl
    | rt r => rfl
theorem run_app : forall (xs ys : List α) (s : S), run body s (xs ++ ys) = match run body s xs with
    | .nx s' => run body s' ys
    | .bk s' => .bk s'
    | .rt r => .rt r
  | [], ys, s => rfl
  | y :: r, ys, s => by
    simp only [List.cons_append, run]
    cases body s y with
    | nx s' => exact run_app r ys s'
    | bk s' => rfl
    | rt r => rfl
theorem take_snoc {i : Nat} {x : α} : forall {l : List α}, l[i]? = some x -> l.take (i + 1) = l.take i ++ [x] := fun {l} h => by
  obtain ⟨hi, rfl⟩ := List.getElem?_eq_some_iff.mp h
  exact (List.take_append_getElem hi).symm
theorem run_out {xs : List α} {i : Nat} {x : α} {s0 s : S} {o : Fl S R} (hi : xs[i]? = some x) (hr : run body s0 (xs.take i) = .nx s) (ho : body s x = o) (hn : forall s', o ≠ .nx s') : run body s0 xs = o := by
  have e : xs = xs.take (i + 1) ++ xs.drop (i + 1) := (List.take_append_drop _ _).symm
  rw [e, run_app, take_snoc hi, run_snoc, hr]
  show (match body s x with | .nx s' => run body s' _ | .bk s' => .bk s' | .rt r => .rt r) = o
  rw [ho]
  cases o with
  | nx s' => exact (hn s' rfl).elim
  | bk s' => rfl
  | rt r => rfl
end
/-! ### what is wanted at the end of a def -/
def Ret [Rep β] (K : Fg) (Z : Addr -> Prop) (F0 H0 : Hp) (Q : VK) (y : β) : Prop := forall F' H' r, GrZ Z F0 H0 F' H' -> rp K F' y r -> Q r H'
def RetL [Rep β] (K : Fg) (Z : Addr -> Prop) (F0 H0 : Hp) (Q : VK) (ys : List β) : Prop := forall F' H' p, GrZ Z F0 H0 F' H' -> H0 p = none -> MutL K F' H' p ys -> Q (.ref p) H'
/-! ### statements -/
section
variable {K : Fg} {Z : Addr -> Prop} {σ : St} {F H F0 H0 : Hp} {te ta tb : TE} {tt : TT} {t1 t2 u : TS} {D : Ends} {i : Nat}
theorem q_set [Rep α] {β : Type} {e : α} {k : α -> β} {P : β -> Prop} (hP : P (lt e k)) (s : Same F H) (he : Tv K te σ F H e) (nxt : forall x F1 H1 v, x = e -> Gr F H F1 H1 -> rp K F1 x v -> P (k x) -> u D (σ.set i (some v)) H1) : tSeq (tAsg te (gName i)) u D σ H :=
  he F H (Gr.refl s) _ fun F2 H2 v g r => nxt e F2 H2 v rfl g r (p_lt P hP)
theorem q_setF [Rep α] [Flat α] {β : Type} {e : α} {k : α -> β} {P : β -> Prop} (hP : P (lt e k)) (he : Tv K te σ H H e) (nxt : forall x H1, x = e -> Same H H1 -> P (k x) -> u D (σ.set i (some (Flat.val x))) H1) : tSeq (tAsg te (gName i)) u D σ H :=
  he H H (Gr.self H) _ fun F2 H2 v g r => by
    rw [Flat.is r]
    exact nxt e H2 rfl g.keep (p_lt P hP)
theorem q_setM [Rep α] {β : Type} {e : List α} {k : List α -> β} {P : β -> Prop} (hP : P (lt e k)) (s : Same F H) (he : TvL K te σ F H e) (nxt : forall x F1 H1 p, x = e -> Gr F H F1 H1 -> H p = none -> MutL K F1 H1 p x -> P (k x) -> u D (σ.set i (some (.ref p))) H1) : tSeq (tAsg te (gName i)) u D σ H :=
  he F H (Gr.refl s) _ fun F2 H2 p g n m => nxt e F2 H2 p rfl g n m (p_lt P hP)
theorem q_ret [Rep β] {e : β} (hP : Ret K Z F0 H0 D.rt e) (g : GrZ Z F0 H0 F H) (he : Tv K te σ F H e) : tSeq (tRet te) u D σ H :=
  he F H (Gr.refl g.sub) _ fun F2 H2 v g2 r => hP F2 H2 v (g.then g2) r
theorem q_retF [Rep β] [Flat β] {e : β} (hP : Ret K Z F0 H0 D.rt e) (g : GrZ Z F0 H0 F H) (he : Tv K te σ H H e) : tSeq (tRet te) u D σ H := q_ret hP g (tv_flat he)
theorem q_retL [Rep β] {e : List β} (hP : RetL K Z F0 H0 D.rt e) (g : GrZ Z F0 H0 F H) (he : TvL K te σ F H e) : tSeq (tRet te) u D σ H :=
  he F H (Gr.refl g.sub) _ fun F2 H2 p g2 n m => hP F2 H2 p (g.then g2) (by
    cases q : H0 p with
    | none => rfl
    | some o =>
      obtain ⟨o', e'⟩ := g.dom p o q
      rw [n] at e'; cases e') m
theorem q_retM [Rep β] {e : List β} {p : Addr} (hP : RetL K Z F0 H0 D.rt e) (g : GrZ Z F0 H0 F H) (hi : σ[i]? = some (some (.ref p))) (n : H0 p = none) (m : MutL K F H p e) : tSeq (tRet (tVar i)) u D σ H :=
  ⟨.ref p, hi, hP F H p g n m⟩
theorem q_retI [Rep β] {e : List β} {p : Addr} (hP : Ret K Z F0 H0 D.rt e) (g : GrZ Z F0 H0 F H) (hi : σ[i]? = some (some (.ref p))) (n : H0 p = none) (m : MutL K F H p e) : tSeq (tRet (tVar i)) u D σ H := by
  obtain ⟨vs, q, r⟩ := m.ice
  exact ⟨.ref p, hi, hP _ H _ (g.ice n q m.fr) r⟩
theorem q_end (h : D.nx σ H) : tNext D σ H := h
theorem q_endS (h : tSeq t1 t2 D σ H) : tNext { D with nx := tSeq t1 t2 D } σ H := h
theorem q_endC (h : Evl.tCut t1 t2 D σ H) : tNext { D with nx := Evl.tCut t1 t2 D } σ H := h
theorem q_one {t : TS} (h : tSeq t tNext D σ H) : t D σ H := h
theorem q_if {β : Type} {P : β -> Prop} {c : Bool} {A B : β} (hP : P (cond c A B)) (hc : Tt tt σ H c) (h1 : c = true -> forall H1, Same H H1 -> P A -> t1 { D with nx := u D } σ H1) (h2 : c = false -> forall H1, Same H H1 -> P B -> t2 { D with nx := u D } σ H1) : tSeq (tIfS tt t1 t2) u D σ H :=
  hc H (Same.refl H) _ fun H1 e => by
    cases c with
    | true => exact h1 rfl H1 e hP
    | false => exact h2 rfl H1 e hP
theorem q_ifJ {S β : Type} {P : β -> Prop} {c : Bool} {a b : S} {k : S -> β} (hP : P (lt (cond c a b) k)) (hc : Tt tt σ H c) (M : Hp -> Hp -> St -> S -> Prop)
    (h1 : c = true -> forall H1 (N : St -> Hp -> Prop), Same H H1 -> forall P' : S -> Prop, P' a -> (forall s, P' s -> forall F2 H2 σ2, Same F F2 -> M F2 H2 σ2 s -> N σ2 H2) -> t1 { D with nx := N } σ H1)
    (h2 : c = false -> forall H1 (N : St -> Hp -> Prop), Same H H1 -> forall P' : S -> Prop, P' b -> (forall s, P' s -> forall F2 H2 σ2, Same F F2 -> M F2 H2 σ2 s -> N σ2 H2) -> t2 { D with nx := N } σ H1)
    (nxt : forall s F2 H2 σ2, s = cond c a b -> Same F F2 -> M F2 H2 σ2 s -> P (k s) -> u D σ2 H2) : Evl.tCut (tIfS tt t1 t2) u D σ H :=
  ⟨fun σ2 H2 => exists F2, Same F F2 ∧ M F2 H2 σ2 (cond c a b), hc H (Same.refl H) _ fun H1 e => by
    cases c with
    | true => exact h1 rfl H1 _ e (fun s => s = a) rfl fun s hs F2 H2 σ2 q m => ⟨F2, q, by rw [hs] at m; exact m⟩
    | false => exact h2 rfl H1 _ e (fun s => s = b) rfl fun s hs F2 H2 σ2 q m => ⟨F2, q, by rw [hs] at m; exact m⟩,
  fun σ2 H2 ⟨F2, q, m⟩ => nxt _ F2 H2 σ2 rfl q m (p_lt P hP)⟩
/-- an expression whose value is dropped -/
theorem q_drop [Rep α] {e : α} (s : Same F H) (he : Tv K te σ F H e) (nxt : forall F1 H1, Gr F H F1 H1 -> u D σ H1) : tSeq (tDrop te) u D σ H :=
  he F H (Gr.refl s) _ fun F2 H2 v g r => nxt F2 H2 g
/-! ### walks: S is what the thing walked needs besides of the heap -/
structure Wk [Rep α] (K : Fg) (J : L2.It) (F2 : Hp) (S : Hp -> Hp -> Prop) (xs : List α) : Prop where
  go : forall i F H, Same F2 F -> Same F H -> S F H -> i < xs.length -> J.go i H
  stop : forall i F H, Same F2 F -> Same F H -> S F H -> xs.length ≤ i -> J.stop i H
  yld : forall i H F3 v H', Same F2 F3 -> Same F3 H -> S F3 H -> J.yld i H v H' -> i < xs.length -> exists F4, Gr F3 H F4 H' ∧ forall x, xs[i]? = some x -> rp K F4 x v
def Itr [Rep α] (K : Fg) (wi : TI) (σ : St) (F H : Hp) (S : Hp -> Hp -> Prop) (xs : List α) : Prop :=
  forall F1 H1, Gr F H F1 H1 -> forall R : L2.It -> Hp -> Prop, (forall J F2 H2, Gr F1 H1 F2 H2 -> Wk K J F2 S xs -> R J H2) -> wi σ H1 R
/-- S holds on -/
structure Stb (S : Hp -> Hp -> Prop) : Prop where
  go : forall {F H F' H' : Hp}, Gr F H F' H' -> S F H -> S F' H'
abbrev ST : Hp -> Hp -> Prop := fun _ _ => True
theorem stb_t : Stb ST := ⟨fun _ _ => trivial⟩
theorem wk_len [Rep α] {xs : List α} {vs : List V} (r : Rps K F xs vs) : vs.length = xs.length := (Paired.length r).symm
theorem rps_at [Rep α] : forall {xs : List α} {vs : List V} {i : Nat} {x : α}, Rps K F xs vs -> xs[i]? = some x -> exists v, vs[i]? = some v ∧ rp K F x v
  | _, _, 0, x, .cons r _, e => by simp at e; subst e; exact ⟨_, rfl, r⟩
  | _, _, i + 1, x, .cons _ t, e => by
    obtain ⟨v, h1, h2⟩ := rps_at (i := i) (x := x) t (by simpa using e)
    exact ⟨v, by simpa using h1, h2⟩
  | _, _, _, _, .nil, e => by simp at e
theorem rps_at' [Rep α] : forall {xs : List α} {vs : List V} {i : Nat} {v : V}, Rps K F xs vs -> vs[i]? = some v -> exists x, xs[i]? = some x ∧ rp K F x v
  | _, _, 0, v, .cons r _, e => by simp at e; subst e; exact ⟨_, rfl, r⟩
  | _, _, i + 1, v, .cons _ t, e => by
    obtain ⟨x, h1, h2⟩ := rps_at' (i := i) (v := v) t (by simpa using e)
    exact ⟨x, by simpa using h1, h2⟩
  | _, _, _, _, .nil, e => by simp at e
theorem wk_list [Rep α] {a : Addr} {vs : List V} {xs : List α} (q : SqL K F a vs) (r : Rps K F xs vs) : Wk K (Itl K a) F ST xs where
  go := fun i G H s0 s1 _ h => by
    have s := s0.trans s1
    exact ⟨vs, vs[i]'(by rw [wk_len r]; exact h), s.seq q, by simp⟩
  stop := fun i G H s0 s1 _ h => by
    have s := s0.trans s1
    exact ⟨vs, s.seq q, by rw [wk_len r]; exact h⟩
  yld := fun i H F3 v H' s s3 _ y h => by
    obtain ⟨rfl, y⟩ := y
    refine ⟨F3, Gr.refl s3, fun x hx => ?_⟩
    obtain ⟨w, e, rw_⟩ := rps_at r hx
    have e2 := y vs ((s.trans s3).seq q)
    rw [e] at e2; cases e2
    exact up s rw_
theorem wk_tup [Rep α] {a : Addr} {vs : List V} {xs : List α} (q : SqT K F a vs) (r : Rps K F xs vs) : Wk K (Itt K a) F ST xs where
  go := fun i G H s0 s1 _ h => by
    have s := s0.trans s1
    exact ⟨vs, vs[i]'(by rw [wk_len r]; exact h), same_sqT s q, by simp⟩
  stop := fun i G H s0 s1 _ h => by
    have s := s0.trans s1
    exact ⟨vs, same_sqT s q, by rw [wk_len r]; exact h⟩
  yld := fun i H F3 v H' s s3 _ y h => by
    obtain ⟨rfl, y⟩ := y
    refine ⟨F3, Gr.refl s3, fun x hx => ?_⟩
    obtain ⟨w, e, rw_⟩ := rps_at r hx
    have e2 := y vs (same_sqT (s.trans s3) q)
    rw [e] at e2; cases e2
    exact up s rw_
/-- over a list that a reading gives -/
theorem it_list [Rep α] {xs : List α} (h : Tv K te σ F H xs) : Itr K (iList K te) σ F H ST xs := fun F1 H1 g R q =>
  h F1 H1 g _ fun F2 H2 v g2 ⟨a, vs, e, hq, hr⟩ => ⟨a, e, ⟨vs, SqL.of (g2.sub a _ hq)⟩, q _ F2 H2 g2 (wk_list (SqL.of hq) hr)⟩
theorem it_tup [Rep α] {xs : Tup α} (h : Tv K te σ F H xs) : Itr K (iTup K te) σ F H ST xs.l := fun F1 H1 g R q =>
  h F1 H1 g _ fun F2 H2 v g2 ⟨a, vs, e, hq, hr⟩ => ⟨a, e, ⟨vs, SqT.of (g2.sub a _ hq)⟩, q _ F2 H2 g2 (wk_tup (SqT.of hq) hr)⟩
/-- over a list of our own that may change still (not in the loop) -/
theorem wk_mut [Rep α] {a : Addr} {xs : List α} : Wk K (Itl K a) F (fun F H => MutL K F H a xs) xs where
  go := fun i G H s0 s1 m h => by
    obtain ⟨f, vs, e, r⟩ := m
    exact ⟨vs, vs[i]'(by rw [wk_len r]; exact h), SqL.of e, by simp⟩
  stop := fun i G H s0 s1 m h => by
    obtain ⟨f, vs, e, r⟩ := m
    exact ⟨vs, SqL.of e, by rw [wk_len r]; exact h⟩
  yld := fun i H F3 v H' s s3 m y h => by
    obtain ⟨rfl, y⟩ := y
    obtain ⟨f, vs, e, r⟩ := m
    refine ⟨F3, Gr.refl s3, fun x hx => ?_⟩
    obtain ⟨w, e1, rw_⟩ := rps_at r hx
    have e2 := y vs (SqL.of e)
    rw [e1] at e2; cases e2
    exact rw_
theorem it_mut [Rep α] {xs : List α} {p : Addr} (hi : σ[i]? = some (some (.ref p))) (m : MutL K F H p xs) : Itr K (iList K (tVar i)) σ F H (fun F H => MutL K F H p xs) xs := fun F1 H1 g R q => by
  obtain ⟨f, vs, e, r⟩ := id (m.go g)
  exact ⟨.ref p, hi, p, rfl, ⟨vs, SqL.of e⟩, q _ F1 H1 (Gr.refl g.sub) wk_mut⟩
theorem stb_mut [Rep α] {xs : List α} {p : Addr} : Stb (fun F H => MutL K F H p xs) := ⟨fun g m => m.go g⟩
/-- the numbers of a range -/
def rng (lo : Int) (n : Nat) : List Int := (List.range n).map fun (k : Nat) => lo + (k : Int)
theorem rng_len (lo : Int) (n : Nat) : (rng lo n).length = n := by simp [rng]
theorem rng_at {lo : Int} {n i : Nat} {x : Int} (h : (rng lo n)[i]? = some x) : x = lo + (i : Int) ∧ i < n := by
  unfold rng at h
  rw [List.getElem?_map] at h
  cases e : (List.range n)[i]? with
  | none => rw [e] at h; cases h
  | some k =>
    rw [e] at h
    obtain ⟨hi, e2⟩ := List.getElem?_eq_some_iff.mp e
    rw [List.getElem_range] at e2
    subst e2
    rw [List.length_range] at hi
    exact ⟨(Option.some.inj h).symm, hi⟩
theorem wk_range {lo : Int} {n : Nat} : Wk K (L2.Itr lo n) F ST (rng lo n) where
  go := fun i G H s s1 _ h => by rw [rng_len] at h; exact h
  stop := fun i G H s s1 _ h => by rw [rng_len] at h; exact h
  yld := fun i H F3 v H' s s3 _ y h => by
    obtain ⟨rfl, rfl⟩ := y
    exact ⟨F3, Gr.refl s3, fun x hx => by rw [(rng_at hx).1]; rfl⟩
theorem it_range1 {n : Int} (h : Tv K te σ H H n) (lo : -(2 ^ 62) ≤ n) (hi : n < 2 ^ 62) : Itr K (iRng1 (tCons te tNil)) σ F H ST (rng 0 n.toNat) := fun F1 H1 g R q =>
  h H1 H1 (Gr.whole g.keep) _ fun F2 H2 v g2 r => ⟨n, by rw [show v = .int n from r], lo, hi, q _ F1 H2 (Gr.up g.sub g2.keep) wk_range⟩
theorem it_range2 {m n : Int} (h : Tv K ta σ H H m) (h' : Tv K te σ H H n) (lo : -(2 ^ 62) ≤ m) (hi : m < 2 ^ 62) (lo' : -(2 ^ 62) ≤ n) (hi' : n < 2 ^ 62) : Itr K (iRng2 (tCons ta (tCons te tNil))) σ F H ST (rng m (n - m).toNat) := fun F1 H1 g R q =>
  h H1 H1 (Gr.whole g.keep) _ fun F2 H2 v g2 r => h' H2 H2 (Gr.whole (g.keep.trans g2.keep)) _ fun F3 H3 w g3 r' => ⟨m, n, by rw [show v = .int m from r, show w = .int n from r'], ⟨lo, hi, lo', hi'⟩, q _ F1 H3 (Gr.up g.sub (g2.keep.trans g3.keep)) wk_range⟩
/-! ### targets of a loop -/
theorem g_name {v : V} {Q : St -> Hp -> Prop} (h : Q (σ.set i (some v)) H) : gName i v σ H Q := h
theorem g_tup2 [Rep α] [Rep β] {x : α × β} {v : V} {j : Nat} {Q : St -> Hp -> Prop} (s : Same F H) (h : rp K F x v) (k : forall a b, rp K F x.1 a -> rp K F x.2 b -> Q ((σ.set i (some a)).set j (some b)) H) : gTup K 2 (gCons (gName i) (gCons (gName j) gNil)) v σ H Q := by
  obtain ⟨p, vs, rfl, q, a, r, rfl, ra, b, rfl, rb⟩ := h
  exact ⟨p, _, rfl, SqT.of (s p _ q), rfl, a, _, rfl, b, _, rfl, rfl, k a b ra rb⟩
theorem g_tup3 [Rep α] [Rep β] [Rep γ] {x : α × β × γ} {v : V} {j l : Nat} {Q : St -> Hp -> Prop} (s : Same F H) (h : rp K F x v) (k : forall a b c, rp K F x.1 a -> rp K F x.2.1 b -> rp K F x.2.2 c -> Q (((σ.set i (some a)).set j (some b)).set l (some c)) H) : gTup K 3 (gCons (gName i) (gCons (gName j) (gCons (gName l) gNil))) v σ H Q := by
  obtain ⟨p, vs, rfl, q, a, r, rfl, ra, b, r2, rfl, rb, c, rfl, rc⟩ := h
  exact ⟨p, _, rfl, SqT.of (s p _ q), rfl, a, _, rfl, b, _, rfl, c, _, rfl, rfl, k a b c ra rb rc⟩
theorem g_tupP [Rep α] [Rep β] {x : Pr α β} {v : V} {j : Nat} {Q : St -> Hp -> Prop} (s : Same F H) (h : rp K F x v) (k : forall a b, rp K F x.fst a -> rp K F x.snd b -> Q ((σ.set i (some a)).set j (some b)) H) : gTup K 2 (gCons (gName i) (gCons (gName j) gNil)) v σ H Q := by
  obtain ⟨p, a, b, rfl, q, ra, rb⟩ := h
  exact ⟨p, _, rfl, SqT.of (s p _ q), rfl, a, _, rfl, b, _, rfl, rfl, k a b ra rb⟩
/-! ### loops -/
/-- a loop: body tells how a turn ends; I: what holds between the turns, at some earlier heaps -/
theorem q_for {S R T : Type} [Rep α] {xs : List α} {s0 : S} {body : S -> α -> Fl S R} {ret : R -> T} {k : S -> T} {P : T -> Prop} {wi : TI} {g : TG} {t : TS} {S' : Hp -> Hp -> Prop} (I : Nat -> Hp -> Hp -> St -> S -> Prop)
    (hP : P (fin (run body s0 xs) ret k)) (s : Same F H) (hx : Itr K wi σ F H S' xs) (hS : Stb S') (h0 : I 0 F H σ s0) (hI : forall i F1 H1 σ1 s, I i F1 H1 σ1 s -> Same F1 H1 ∧ S' F1 H1)
    (hs : forall (i : Nat) x s Fa Ha F1 H1 σ1 v (N B : St -> Hp -> Prop) (P' : Fl S R -> Prop), xs[i]? = some x -> run body s0 (xs.take i) = .nx s -> Same F Fa -> I i Fa Ha σ1 s -> Gr Fa Ha F1 H1 -> rp K F1 x v -> P' (body s x) ->
      (forall s', P' (.nx s') -> forall F2 H2 σ2, Same F1 F2 -> I (i + 1) F2 H2 σ2 s' -> N σ2 H2) -> (forall s', P' (.bk s') -> forall F2 H2 σ2, Same F1 F2 -> I (i + 1) F2 H2 σ2 s' -> B σ2 H2) -> (forall r, P' (.rt r) -> P (ret r)) ->
      g v σ1 H1 fun σ2 H2 => t { D with nx := N, ct := N, bk := B } σ2 H2)
    (hd : forall (i : Nat) Fa Ha F1 H1 σ1 s, i ≤ xs.length -> (run body s0 xs = .nx s ∧ i = xs.length ∨ run body s0 xs = .bk s) -> Same F Fa -> I i Fa Ha σ1 s -> Gr Fa Ha F1 H1 -> P (k s) -> u D σ1 H1) : tSeq (tFor wi g t) u D σ H :=
  hx F H (Gr.refl s) _ fun J F2 H2 g2 W => by
    refine ⟨fun i m σ' H' => m = xs.length - i ∧ i ≤ xs.length ∧ exists Fa Ha F3 s, run body s0 (xs.take i) = .nx s ∧ Same F Fa ∧ I i Fa Ha σ' s ∧ Gr Fa Ha F3 H' ∧ Same F2 F3, ⟨xs.length, by simp, Nat.zero_le _, F, H, F2, s0, rfl, Same.refl F, h0, g2, Same.refl F2⟩, ?_⟩
    rintro i m σ' H' ⟨rfl, hi, Fa, Ha, F3, st, hr, fa, hI1, gg, f23⟩
    by_cases hlt : i < xs.length
    · refine .inr ⟨W.go i F3 H' f23 gg.sub (hS.go gg (hI _ _ _ _ _ hI1).2) hlt, fun σ4 H4 => exists F4 s4, run body s0 (xs.take (i + 1)) = .nx s4 ∧ Same F F4 ∧ I (i + 1) F4 H4 σ4 s4 ∧ Same F2 F4, fun σ4 H4 ⟨F4, s4, a1, a2, a3, a4⟩ => ⟨xs.length - (i + 1), by omega, rfl, hlt, F4, H4, F4, s4, a1, a2, a3, Gr.refl (hI _ _ _ _ _ a3).1, a4⟩, fun v H4 y => ?_⟩
      obtain ⟨F4, g4, hv⟩ := W.yld i H' F3 v H4 f23 gg.sub (hS.go gg (hI _ _ _ _ _ hI1).2) y hlt
      have hxi : xs[i]? = some (xs[i]'hlt) := by simp
      have h24 : Same F2 F4 := f23.trans g4.ex
      have h04 : Same F F4 := g2.ex.trans h24
      refine hs i (xs[i]'hlt) st Fa Ha F4 H4 σ' v _ _ (fun o => body st (xs[i]'hlt) = o) hxi hr fa hI1 (gg.trans g4) (hv _ hxi) rfl (fun s' hb F5 H5 σ5 f5 i5 => ?_) (fun s' hb F5 H5 σ5 f5 i5 => ?_) (fun r hb => ?_)
      · refine ⟨F5, s', ?_, h04.trans f5, i5, h24.trans f5⟩
        rw [take_snoc hxi, run_snoc, hr]
        exact hb
      · have e := run_out hxi hr hb (fun _ z => nomatch z)
        refine hd (i + 1) F5 H5 F5 H5 σ5 s' hlt (.inr e) (h04.trans f5) i5 (Gr.refl (hI _ _ _ _ _ i5).1) ?_
        rw [e, fin_bk] at hP
        exact hP
      · have e := run_out hxi hr hb (fun _ z => nomatch z)
        rw [e, fin_rt] at hP
        exact hP
    · have e : i = xs.length := by omega
      subst e
      rw [List.take_length] at hr
      rw [hr, fin_nx] at hP
      exact .inl ⟨W.stop _ F3 H' f23 gg.sub (hS.go gg (hI _ _ _ _ _ hI1).2) (Nat.le_refl _), hd _ Fa Ha F3 H' σ' st (Nat.le_refl _) (.inl ⟨hr, rfl⟩) fa hI1 gg hP⟩
/-- a loop whose body neither breaks nor returns -/
theorem q_fold {S T : Type} [Rep α] {xs : List α} {s0 : S} {body : S -> α -> S} {k : S -> T} {P : T -> Prop} {wi : TI} {g : TG} {t : TS} {S' : Hp -> Hp -> Prop} (I : Nat -> Hp -> Hp -> St -> S -> Prop)
    (hP : P (lt (xs.foldl body s0) k)) (s : Same F H) (hx : Itr K wi σ F H S' xs) (hS : Stb S') (h0 : I 0 F H σ s0) (hI : forall i F1 H1 σ1 s, I i F1 H1 σ1 s -> Same F1 H1 ∧ S' F1 H1)
    (hs : forall (i : Nat) x s Fa Ha F1 H1 σ1 v (N : St -> Hp -> Prop) (P' : S -> Prop), xs[i]? = some x -> (xs.take i).foldl body s0 = s -> Same F Fa -> I i Fa Ha σ1 s -> Gr Fa Ha F1 H1 -> rp K F1 x v -> P' (body s x) ->
      (forall s', P' s' -> forall F2 H2 σ2, Same F1 F2 -> I (i + 1) F2 H2 σ2 s' -> N σ2 H2) ->
      g v σ1 H1 fun σ2 H2 => t { D with nx := N, ct := N, bk := u D } σ2 H2)
    (hd : forall Fa Ha F1 H1 σ1 s, s = xs.foldl body s0 -> Same F Fa -> I xs.length Fa Ha σ1 s -> Gr Fa Ha F1 H1 -> P (k s) -> u D σ1 H1) : tSeq (tFor wi g t) u D σ H :=
  hx F H (Gr.refl s) _ fun J F2 H2 g2 W => by
    refine ⟨fun i m σ' H' => m = xs.length - i ∧ i ≤ xs.length ∧ exists Fa Ha F3 s, (xs.take i).foldl body s0 = s ∧ Same F Fa ∧ I i Fa Ha σ' s ∧ Gr Fa Ha F3 H' ∧ Same F2 F3, ⟨xs.length, by simp, Nat.zero_le _, F, H, F2, s0, rfl, Same.refl F, h0, g2, Same.refl F2⟩, ?_⟩
    rintro i m σ' H' ⟨rfl, hi, Fa, Ha, F3, st, hr, fa, hI1, gg, f23⟩
    by_cases hlt : i < xs.length
    · refine .inr ⟨W.go i F3 H' f23 gg.sub (hS.go gg (hI _ _ _ _ _ hI1).2) hlt, fun σ4 H4 => exists F4 s4, (xs.take (i + 1)).foldl body s0 = s4 ∧ Same F F4 ∧ I (i + 1) F4 H4 σ4 s4 ∧ Same F2 F4, fun σ4 H4 ⟨F4, s4, a1, a2, a3, a4⟩ => ⟨xs.length - (i + 1), by omega, rfl, hlt, F4, H4, F4, s4, a1, a2, a3, Gr.refl (hI _ _ _ _ _ a3).1, a4⟩, fun v H4 y => ?_⟩
      obtain ⟨F4, g4, hv⟩ := W.yld i H' F3 v H4 f23 gg.sub (hS.go gg (hI _ _ _ _ _ hI1).2) y hlt
      have hxi : xs[i]? = some (xs[i]'hlt) := by simp
      have h24 : Same F2 F4 := f23.trans g4.ex
      have h04 : Same F F4 := g2.ex.trans h24
      refine hs i (xs[i]'hlt) st Fa Ha F4 H4 σ' v _ (fun o => body st (xs[i]'hlt) = o) hxi hr fa hI1 (gg.trans g4) (hv _ hxi) rfl (fun s' hb F5 H5 σ5 f5 i5 => ?_)
      refine ⟨F5, s', ?_, h04.trans f5, i5, h24.trans f5⟩
      rw [take_snoc hxi, List.foldl_append, hr]
      exact hb
    · have e : i = xs.length := by omega
      subst e
      rw [List.take_length] at hr
      exact .inl ⟨W.stop _ F3 H' f23 gg.sub (hS.go gg (hI _ _ _ _ _ hI1).2) (Nat.le_refl _), hd Fa Ha F3 H' σ' st hr.symm fa hI1 gg (by rw [← hr]; exact p_lt P hP)⟩
end
end Rf

/-! ### lists: read -/
namespace Rf
open PySem L2
open Rep (rp)
/-- an item, by Python's own index -/
def ixI {α : Type} [Inhabited α] (xs : List α) (i : Int) : α := if 0 ≤ i then xs.getD i.toNat default else xs.getD (i + xs.length).toNat default
def InB (n : Nat) (i : Int) : Prop := -(n : Int) ≤ i ∧ i < n
theorem atI_ix {α : Type} [Inhabited α] {xs : List α} {i : Int} (h : InB xs.length i) : atI xs i = some (ixI xs i) := by
  obtain ⟨h1, h2⟩ := h
  unfold atI ixN ixI
  by_cases h0 : 0 ≤ i
  · have hj : i.toNat < xs.length := by omega
    rw [if_pos h0, if_pos h2, if_pos h0]
    show xs[i.toNat]? = some _
    rw [List.getElem?_eq_getElem hj]
    simp [List.getD, hj]
  · have hj : (i + xs.length).toNat < xs.length := by omega
    rw [if_neg h0, if_pos h1, if_neg h0]
    show xs[(i + xs.length).toNat]? = some _
    rw [List.getElem?_eq_getElem hj]
    simp [List.getD, hj]
theorem atI_map {α β : Type} (f : α -> β) (xs : List α) (i : Int) : atI (xs.map f) i = (atI xs i).map f := by
  unfold atI
  rw [List.length_map]
  cases ixN xs.length i with
  | none => rfl
  | some j => show (xs.map f)[j]? = _; rw [List.getElem?_map]; rfl
theorem rps_atI [Rep α] {K : Fg} {F : Hp} {xs : List α} {vs : List V} {i : Int} {x : α} (r : Rps K F xs vs) (h : atI xs i = some x) : exists v, atI vs i = some v ∧ rp K F x v := by
  unfold atI at h ⊢
  rw [wk_len r]
  cases e : ixN xs.length i with
  | none => rw [e] at h; cases h
  | some j =>
    rw [e] at h
    exact rps_at r (show xs[j]? = some x from h)
section
variable {K : Fg} {Z : Addr -> Prop} {σ : St} {F H F0 H0 F1 H1 F2 H2 : Hp} {te ta tb tc : TE} {tt : TT} {t1 t2 u : TS} {D : Ends} {i : Nat} {p q : Addr}
theorem op2_ixL [Rep α] [Inhabited α] {xs : List α} {i : Int} (h : InB xs.length i) : Op2 K (rIxL K) xs i (ixI xs i) := fun F H v w s r1 r2 Q q => by
  obtain ⟨a, vs, rfl, e, r⟩ := r1
  obtain ⟨y, hy, ry⟩ := rps_atI r (atI_ix h)
  exact ⟨a, vs, i, y, rfl, r2, SqL.of (s a _ e), hy, q F H y (Gr.refl s) ry⟩
theorem op2_ixC {x : Scr} {i : Int} (h : InB x.l.length i) : Op2 K (rIxL K) x i (ixI x.l i) := fun F H v w s r1 r2 Q q => by
  obtain ⟨a, rfl, e⟩ := r1
  exact ⟨a, _, i, .int (ixI x.l i), rfl, r2, (Le.of s).sqL e, by rw [atI_map, atI_ix h]; rfl, q F H _ (Gr.refl s) rfl⟩
theorem op2_ixTn [Rep α] [Inhabited α] {xs : Tup α} {i : Int} (h : InB xs.l.length i) : Op2 K (rIxT K) xs i (ixI xs.l i) := fun F H v w s r1 r2 Q q => by
  obtain ⟨a, vs, rfl, e, r⟩ := r1
  obtain ⟨y, hy, ry⟩ := rps_atI r (atI_ix h)
  exact ⟨a, vs, i, y, rfl, r2, SqT.of (s a _ e), hy, q F H y (Gr.refl s) ry⟩
/-- places of tuples of written length -/
theorem op2_ixT0 [Rep α] [RepT β] {x : α × β} : Op2 K (rIxT K) x (0 : Int) x.1 := fun F H v w s r1 r2 Q q => by
  obtain ⟨a, vs, rfl, e, v, r, rfl, h1, h2⟩ := r1
  exact ⟨a, _, 0, v, rfl, r2, SqT.of (s a _ e), atI_nat (j := 0) rfl, q F H v (Gr.refl s) h1⟩
theorem atI_suc {v : V} {r : List V} {n : Nat} {w : V} (h : r[n]? = some w) : atI (v :: r) ((n + 1 : Nat) : Int) = some w := atI_nat (by simpa using h)
theorem op2_ixT1 [Rep α] [Rep β] {x : α × β} : Op2 K (rIxT K) x (1 : Int) x.2 := fun F H v w s r1 r2 Q q => by
  obtain ⟨a, vs, rfl, e, v, r, rfl, h1, v2, rfl, h2⟩ := r1
  exact ⟨a, _, 1, v2, rfl, r2, SqT.of (s a _ e), rfl, q F H v2 (Gr.refl s) h2⟩
theorem op2_ixT1m [Rep α] [Rep β] [RepT γ] {x : α × β × γ} : Op2 K (rIxT K) x (1 : Int) x.2.1 := fun F H v w s r1 r2 Q q => by
  obtain ⟨a, vs, rfl, e, v, r, rfl, h1, v2, r2', rfl, h2, h3⟩ := r1
  exact ⟨a, _, 1, v2, rfl, r2, SqT.of (s a _ e), atI_nat (j := 1) rfl, q F H v2 (Gr.refl s) h2⟩
theorem op2_ixT2 [Rep α] [Rep β] [Rep γ] {x : α × β × γ} : Op2 K (rIxT K) x (2 : Int) x.2.2 := fun F H v w s r1 r2 Q q => by
  obtain ⟨a, vs, rfl, e, v, r, rfl, h1, v2, r2', rfl, h2, v3, rfl, h3⟩ := r1
  exact ⟨a, _, 2, v3, rfl, r2, SqT.of (s a _ e), rfl, q F H v3 (Gr.refl s) h3⟩
theorem op2_ixT2m [Rep α] [Rep β] [Rep γ] [RepT δ] {x : α × β × γ × δ} : Op2 K (rIxT K) x (2 : Int) x.2.2.1 := fun F H v w s r1 r2 Q q => by
  obtain ⟨a, vs, rfl, e, v, r, rfl, h1, v2, r2', rfl, h2, v3, r3', rfl, h3, h4⟩ := r1
  exact ⟨a, _, 2, v3, rfl, r2, SqT.of (s a _ e), atI_nat (j := 2) rfl, q F H v3 (Gr.refl s) h3⟩
theorem op2_ixT3 [Rep α] [Rep β] [Rep γ] [Rep δ] {x : α × β × γ × δ} : Op2 K (rIxT K) x (3 : Int) x.2.2.2 := fun F H v w s r1 r2 Q q => by
  obtain ⟨a, vs, rfl, e, v, r, rfl, h1, v2, r2', rfl, h2, v3, r3', rfl, h3, v4, rfl, h4⟩ := r1
  exact ⟨a, _, 3, v4, rfl, r2, SqT.of (s a _ e), rfl, q F H v4 (Gr.refl s) h4⟩
/-- len -/
abbrev rLen' (K : Fg) : List V -> Hp -> VK -> Prop := fun xs H Q => exists p ys, xs = [.ref p] ∧ (SqL K H p ys ∨ SqT K H p ys) ∧ Q (.int ys.length) H
theorem cb_lenL [Rep α] {xs : List α} : CbV K (rLen' K) (fun F vs => exists v r, vs = v :: r ∧ rp K F xs v ∧ r = []) (xs.length : Int) := fun F H vs Q s ⟨v, r, e, ⟨a, ws, e2, e3, r2⟩, e4⟩ q => by
  subst e e2 e4
  exact ⟨a, ws, rfl, .inl (SqL.of (s a _ e3)), q F H _ (Gr.refl s) (by rw [wk_len r2]; rfl)⟩
theorem cb_lenC {x : Scr} : CbV K (rLen' K) (fun F vs => exists v r, vs = v :: r ∧ rp K F x v ∧ r = []) (x.l.length : Int) := fun F H vs Q s ⟨v, r, e, ⟨a, e2, e3⟩, e4⟩ q => by
  subst e e2 e4
  exact ⟨a, _, rfl, .inl ((Le.of s).sqL e3), q F H _ (Gr.refl s) (by rw [List.length_map]; rfl)⟩
theorem cb_lenTn [Rep α] {xs : Tup α} : CbV K (rLen' K) (fun F vs => exists v r, vs = v :: r ∧ rp K F xs v ∧ r = []) (xs.l.length : Int) := fun F H vs Q s ⟨v, r, e, ⟨a, ws, e2, e3, r2⟩, e4⟩ q => by
  subst e e2 e4
  exact ⟨a, ws, rfl, .inr (SqT.of (s a _ e3)), q F H _ (Gr.refl s) (by rw [wk_len r2]; rfl)⟩
class LenT (α : Type) [RepT α] (n : Nat) : Prop where
  len : forall {K : Fg} {F : Hp} {x : α} {vs : List V}, RepT.rt K F x vs -> vs.length = n
instance (priority := low) [Rep α] : LenT α 1 := ⟨fun ⟨v, e, _⟩ => by rw [e]; rfl⟩
instance (priority := high) [Rep α] [RepT β] [LenT β n] : LenT (α × β) (n + 1) := ⟨fun ⟨v, r, e, _, h⟩ => by rw [e, List.length_cons, LenT.len (n := n) h]⟩
theorem cb_lenT [Rep α] [RepT β] {n : Nat} [LenT (α × β) n] {x : α × β} : CbV K (rLen' K) (fun F vs => exists v r, vs = v :: r ∧ rp K F x v ∧ r = []) (n : Int) := fun F H vs Q s ⟨v, r, e, ⟨a, ws, e2, e3, r2⟩, e4⟩ q => by
  subst e e2 e4
  exact ⟨a, ws, rfl, .inr (SqT.of (s a _ e3)), q F H _ (Gr.refl s) (by rw [LenT.len (n := n) r2]; rfl)⟩
abbrev rLenS' : List V -> Hp -> VK -> Prop := fun xs H Q => exists z : PySem.Str, xs = [.str z] ∧ z.length ≤ sizeLine ∧ Q (.int z.length) H
theorem cb_lenS {z : PySem.Str} (h : z.length ≤ 100000) : CbV K rLenS' (fun F vs => exists v r, vs = v :: r ∧ rp K F z v ∧ r = []) (z.length : Int) := fun F H vs Q s ⟨v, r, e, e2, e4⟩ q => by
  subst e e4
  cases e2
  exact ⟨z, rfl, sz h, q F H _ (Gr.refl s) rfl⟩
/-- list(xs), tuple(xs) -/
abbrev rListOf (K : Fg) : List V -> Hp -> VK -> Prop := fun xs H Q => exists p ys, xs = [.ref p] ∧ (SqL K H p ys ∨ SqT K H p ys) ∧ forall l, H l = none -> Q (.ref l) (upd H l (.lst ys))
theorem cl_list [Rep α] {xs : List α} : CbL K (rListOf K) (fun F vs => exists v r, vs = v :: r ∧ rp K F xs v ∧ r = []) xs := fun F H vs Q s ⟨v, r, e, ⟨a, ws, e2, e3, r2⟩, e4⟩ q => by
  subst e e2 e4
  exact ⟨a, ws, rfl, .inl (SqL.of (s a _ e3)), fun l hl => q F _ l (Gr.put s hl) hl ⟨none_of s hl, ws, upd_same, r2⟩⟩
theorem cl_listT [Rep α] {xs : Tup α} : CbL K (rListOf K) (fun F vs => exists v r, vs = v :: r ∧ rp K F xs v ∧ r = []) xs.l := fun F H vs Q s ⟨v, r, e, ⟨a, ws, e2, e3, r2⟩, e4⟩ q => by
  subst e e2 e4
  exact ⟨a, ws, rfl, .inr (SqT.of (s a _ e3)), fun l hl => q F _ l (Gr.put s hl) hl ⟨none_of s hl, ws, upd_same, r2⟩⟩
/-- x in xs, by values -/
theorem inV_val {α : Type} [Rep α] [Flat α] [DecidableEq α] (he : forall a b : α, eqV (Flat.val a) (Flat.val b) = decide (a = b)) (x : α) (xs : List α) : inV (Flat.val x) (xs.map Flat.val) = decide (x ∈ xs) := by
  unfold inV
  induction xs with
  | nil => simp
  | cons y r ih =>
    rw [List.map_cons, List.any_cons, ih, he]
    by_cases h : y = x
    · subst h; simp
    · have h' : ¬ x = y := fun z => h z.symm
      simp [h, h']
/-- what == of the flat things gives -/
class EqF (α : Type) [Rep α] [Flat α] [DecidableEq α] : Prop where
  flat : forall x : α, flatV (Flat.val x) = true
  eq : forall a b : α, eqV (Flat.val a) (Flat.val b) = decide (a = b)
instance : EqF Int := ⟨fun _ => rfl, fun a b => by
  show eqV (.int a) (.int b) = _
  simp [eqV]; rw [Bool.eq_iff_iff]; simp⟩
instance : EqF PySem.Str := ⟨fun _ => rfl, fun a b => by
  show eqV (.str a) (.str b) = _
  simp [eqV]; try (rw [Bool.eq_iff_iff]; simp)⟩
theorem op2_inL [Rep α] [Flat α] [DecidableEq α] [EqF α] {x : α} {xs : List α} : Op2 K (rIn K false) x xs (decide (x ∈ xs)) := fun F H v w s r1 r2 Q q => by
  obtain ⟨a, vs, rfl, e, r⟩ := r2
  rw [Flat.is r1]
  have ev := rps_flat r
  subst ev
  refine ⟨a, _, rfl, .inl (SqL.of (s a _ e)), EqF.flat x, List.all_eq_true.mpr fun y hy => ?_, ?_⟩
  · obtain ⟨z, _, rfl⟩ := List.mem_map.mp hy
    exact EqF.flat z
  · rw [inV_val EqF.eq]
    exact q F H _ (Gr.refl s) rfl
theorem op2_niL [Rep α] [Flat α] [DecidableEq α] [EqF α] {x : α} {xs : List α} : Op2 K (rIn K true) x xs (!decide (x ∈ xs)) := fun F H v w s r1 r2 Q q => by
  obtain ⟨a, vs, rfl, e, r⟩ := r2
  rw [Flat.is r1]
  have ev := rps_flat r
  subst ev
  refine ⟨a, _, rfl, .inl (SqL.of (s a _ e)), EqF.flat x, List.all_eq_true.mpr fun y hy => ?_, ?_⟩
  · obtain ⟨z, _, rfl⟩ := List.mem_map.mp hy
    exact EqF.flat z
  · show Q (.bl (!inV (Flat.val x) (xs.map Flat.val))) H
    rw [inV_val EqF.eq]
    exact q F H _ (Gr.refl s) rfl
theorem op2_inT [Rep α] [Flat α] [DecidableEq α] [EqF α] {x : α} {xs : Tup α} : Op2 K (rIn K false) x xs (decide (x ∈ xs.l)) := fun F H v w s r1 r2 Q q => by
  obtain ⟨a, vs, rfl, e, r⟩ := r2
  rw [Flat.is r1]
  have ev := rps_flat r
  subst ev
  refine ⟨a, _, rfl, .inr (SqT.of (s a _ e)), EqF.flat x, List.all_eq_true.mpr fun y hy => ?_, ?_⟩
  · obtain ⟨z, _, rfl⟩ := List.mem_map.mp hy
    exact EqF.flat z
  · rw [inV_val EqF.eq]
    exact q F H _ (Gr.refl s) rfl
/-! ### lists: made -/
def OpL [Rep α] [Rep β] [Rep γ] (K : Fg) (r : R2) (x : α) (y : β) (zs : List γ) : Prop :=
  forall F H v w, Same F H -> rp K F x v -> rp K F y w -> forall Q : VK, (forall F2 H2 p, Gr F H F2 H2 -> H p = none -> MutL K F2 H2 p zs -> Q (.ref p) H2) -> r v w H Q
theorem tl_op [Rep α] [Rep β] [Rep γ] {x : α} {y : β} {zs : List γ} {r : R2} (ha : Tv K ta σ F H x) (hb : Tv K tb σ F H y) (ho : OpL K r x y zs) : TvL K (tOp r ta tb) σ F H zs := fun F1 H1 g Q q =>
  tv_bin (R := fun v w H => r v w H Q) ha hb g fun F2 H2 v w g2 r1 r2 => ho F2 H2 v w g2.sub r1 r2 Q fun F3 H3 p g3 n m => q F3 H3 p (g2.trans g3) (none_of g2.keep n) m
theorem opL_cat [Rep α] {xs ys : List α} (h : xs.length + ys.length ≤ 100000) : OpL K rCat xs ys (xs ++ ys) := fun F H v w s r1 r2 Q q => by
  obtain ⟨a, vs, rfl, e, r⟩ := r1
  obtain ⟨b, ws, rfl, e', r'⟩ := r2
  exact ⟨a, b, vs, ws, rfl, rfl, s a _ e, s b _ e', by rw [wk_len r, wk_len r']; exact sz h, fun p hp => q F _ p (Gr.put s hp) hp ⟨none_of s hp, vs ++ ws, upd_same, rps_app r r'⟩⟩
/-- xs[lo:hi] -/
def sIxI (n d : Nat) : Option Int -> Nat
  | none => d
  | some v => if v < 0 then (v + (n : Int)).toNat else min v.toNat n
def cutI {α : Type} (xs : List α) (lo hi : Option Int) : List α := (xs.drop (sIxI xs.length 0 lo)).take (sIxI xs.length xs.length hi - sIxI xs.length 0 lo)
theorem sIx_eq (n d : Nat) (o : Option Int) : HT.sIx n d o = sIxI n d o := by cases o <;> rfl
theorem rps_drop [Rep α] : forall (n : Nat) {xs : List α} {vs : List V}, Rps K F xs vs -> Rps K F (xs.drop n) (vs.drop n)
  | 0, _, _, r => r
  | _ + 1, _, _, .nil => .nil
  | n + 1, _, _, .cons _ t => rps_drop n t
theorem rps_take [Rep α] : forall (n : Nat) {xs : List α} {vs : List V}, Rps K F xs vs -> Rps K F (xs.take n) (vs.take n)
  | 0, _, _, _ => .nil
  | _ + 1, _, _, .nil => .nil
  | n + 1, _, _, .cons r t => .cons r (rps_take n t)
theorem rps_cut [Rep α] {xs : List α} {vs : List V} {lo hi : Option Int} (r : Rps K F xs vs) : Rps K F (cutI xs lo hi) (cutV vs lo hi) := by
  unfold cutI cutV
  rw [wk_len r, sIx_eq, sIx_eq]
  exact rps_take _ (rps_drop _ r)
def TvO (to : TO) (σ : St) (H : Hp) (o : Option Int) : Prop := forall H1, Same H H1 -> forall Q : Option Int -> Hp -> Prop, (forall H2, Same H1 H2 -> Q o H2) -> to σ H1 Q
theorem to_none : TvO tNoPart σ H none := fun H1 _ Q q => q H1 (Same.refl H1)
theorem to_some {n : Int} (h : Tv K te σ H H n) : TvO (tPart te) σ H (some n) := fun H1 e Q q => h H1 H1 (Gr.whole e) _ fun F2 H2 v g r => ⟨n, r, q H2 g.keep⟩
theorem tl_slice [Rep α] {xs : List α} {tl th : TO} {lo hi : Option Int} (h : Tv K te σ F H xs) (h1 : TvO tl σ H lo) (h2 : TvO th σ H hi) : TvL K (tSl (rSlL K) te tl th) σ F H (cutI xs lo hi) := fun F1 H1 g Q q =>
  h F1 H1 g _ fun F2 H2 v g2 ⟨a, vs, e, hq, hr⟩ => h1 H2 (g.keep.trans g2.keep) _ fun H3 e3 => h2 H3 ((g.keep.trans g2.keep).trans e3) _ fun H4 e4 =>
    ⟨a, vs, e, SqL.of (e4 a _ (e3 a _ (g2.sub a _ hq))), fun p hp => q F2 _ p (g2.trans ((Gr.up g2.sub (e3.trans e4)).trans (Gr.put ((g2.sub.trans e3).trans e4) hp))) (none_of ((g2.keep.trans e3).trans e4) hp) ⟨none_of ((g2.sub.trans e3).trans e4) hp, _, upd_same, rps_cut hr⟩⟩
/-! ### lists: changed -/
/-- the whole grew, and p holds something else -/
structure Md (p : Addr) (F H F1 H1 : Hp) : Prop where
  fr : F1 p = none
  go : exists H', Gr F H F1 H' ∧ exists o, H1 = upd H' p o
theorem Md.ex (m : Md p F H F1 H1) : Same F F1 := let ⟨_, g, _⟩ := m.go; g.ex
theorem Md.sub (m : Md p F H F1 H1) : Same F1 H1 := by
  obtain ⟨f, H', g, o, rfl⟩ := m
  exact same_mut g.sub f
theorem MutL.md [Rep α] {xs : List α} (m : MutL K F H q xs) (n : q ≠ p) (d : Md p F H F1 H1) : MutL K F1 H1 q xs := by
  obtain ⟨f, H', g, o, rfl⟩ := d
  exact (m.go g).past n
theorem GrZ.md (g : GrZ Z F0 H0 F H) (n : H0 p = none) (d : Md p F H F1 H1) : GrZ Z F0 H0 F1 H1 := by
  obtain ⟨f, H', g', o, rfl⟩ := d
  exact (g.then g').mut n f
theorem Md.of [Rep α] {xs : List α} (m : MutL K F H p xs) (g : Gr F H F1 H1) {o : HO} : Md p F H F1 (upd H1 p o) := ⟨(m.go g).fr, H1, g, o, rfl⟩
theorem q_app [Rep α] {β : Type} {P : β -> Prop} {xs : List α} {y : α} {k : List α -> β} (hP : P (lt (xs ++ [y]) k)) (s : Same F H) (m : MutL K F H p xs) (hi : σ[i]? = some (some (.ref p))) (he : Tv K te σ F H y) (hl : xs.length < 100000)
    (nxt : forall zs F1 H1, zs = xs ++ [y] -> Md p F H F1 H1 -> MutL K F1 H1 p zs -> P (k zs) -> u D σ H1) : tSeq (tDrop (tBM K "list" rAppend (tVar i) (tCons te tNil))) u D σ H := by
  obtain ⟨f, vs, e, r⟩ := id m
  refine ⟨.ref p, hi, .inl ⟨rfl, vs, SqL.of e⟩, he F H (Gr.refl s) _ fun F2 H2 v g rv => ?_⟩
  obtain ⟨f2, vs2, e2, r2⟩ := id (m.go g)
  refine ⟨p, vs2, v, rfl, rfl, e2, by rw [wk_len r2]; exact szl hl, nxt _ F2 _ rfl (Md.of m g) ⟨f2, _, upd_same, rps_app r2 (.cons rv .nil)⟩ (p_lt P hP)⟩
theorem q_clear [Rep α] {β : Type} {P : β -> Prop} {xs : List α} {k : List α -> β} (hP : P (lt ([] : List α) k)) (s : Same F H) (m : MutL K F H p xs) (hi : σ[i]? = some (some (.ref p)))
    (nxt : forall F1 H1, Md p F H F1 H1 -> MutL K F1 H1 p ([] : List α) -> P (k []) -> u D σ H1) : tSeq (tDrop (tBM0 K "list" rClear (tVar i))) u D σ H := by
  obtain ⟨f, vs, e, r⟩ := id m
  exact ⟨.ref p, hi, .inl ⟨rfl, vs, SqL.of e⟩, p, vs, rfl, rfl, e, nxt F _ (Md.of m (Gr.refl s)) ⟨f, _, upd_same, .nil⟩ (p_lt P hP)⟩
/-! ### comprehensions -/
def lc {α β : Type} (xs : List α) (c : α -> Bool) (f : α -> β) : List β := (xs.filter c).map f
theorem lc_snoc {α β : Type} (xs : List α) (x : α) (c : α -> Bool) (f : α -> β) : lc (xs ++ [x]) c f = lc xs c f ++ (if c x = true then [f x] else []) := by
  unfold lc
  rw [List.filter_append, List.map_append]
  congr 1
  by_cases h : c x = true
  · rw [if_pos h, List.filter_cons, if_pos h]; rfl
  · rw [if_neg h, List.filter_cons, if_neg h]; rfl
theorem lc_len {α β : Type} (xs : List α) (c : α -> Bool) (f : α -> β) : (lc xs c f).length ≤ xs.length := by
  unfold lc
  rw [List.length_map]
  exact List.length_filter_le _ _
theorem lc_true_len {α β : Type} (xs : List α) (f : α -> β) : (lc xs (fun _ => true) f).length = xs.length := by
  unfold lc
  rw [List.length_map, List.filter_eq_self.mpr (fun _ _ => rfl)]
theorem Gr.mut {o : HO} (g : Gr F H F1 H1) (n : H p = none) (f : F1 p = none) : Gr F H F1 (upd H1 p o) :=
  ⟨g.ex, fun a u e => by rw [upd_ne (ne_of_none e n)]; exact g.keep a u e, same_mut g.sub f, g.new⟩
theorem tl_lc [Rep α] [Rep β] {xs : List α} {wi : TI} {g : TG} {vs : List Nat} {S' : Hp -> Hp -> Prop} (c : α -> Bool) (f : α -> β) (hx : Itr K wi σ F H S' xs) (hS : Stb S') (h0 : S' F H) (hl : xs.length < 100000)
    (hs : forall (i : Nat) x v F' H', xs[i]? = some x -> Gr F H F' H' -> rp K F' x v -> forall R : St -> Hp -> Prop, (forall σ2, wipe σ2 vs = wipe σ vs -> Tt tt σ2 H' (c x) -> (forall H'', Same H' H'' -> c x = true -> Tv K te σ2 F' H'' (f x)) -> R σ2 H') -> g v (wipe σ vs) H' R) :
    TvL K (tLc wi g tt te vs) σ F H (lc xs c f) := fun F1 H1 gr Q q =>
  hx F1 H1 gr _ fun J F2 H2 g2 W => fun Dl hD => by
    refine ⟨fun i m H' => m = xs.length - i ∧ i ≤ xs.length ∧ exists F3, Gr F2 H2 F3 H' ∧ MutL K F3 H' Dl (lc (xs.take i) c f), ⟨xs.length, by simp, Nat.zero_le _, F2, Gr.put g2.sub hD, none_of g2.sub hD, [], upd_same, .nil⟩, ?_⟩
    rintro i m H' ⟨rfl, hi, F3, g3, md⟩
    have hf3 := md.fr
    by_cases hlt : i < xs.length
    · refine .inr ⟨W.go i F3 H' g3.ex g3.sub (hS.go ((gr.trans g2).trans g3) h0) hlt, fun H4 => exists F4, Gr F2 H2 F4 H4 ∧ MutL K F4 H4 Dl (lc (xs.take (i + 1)) c f), fun H4 ⟨F4, a1, a2⟩ => ⟨xs.length - (i + 1), by omega, rfl, hlt, F4, a1, a2⟩, fun v H4 y => ?_⟩
      obtain ⟨F4, g4, hv⟩ := W.yld i H' F3 v H4 g3.ex g3.sub (hS.go ((gr.trans g2).trans g3) h0) y hlt
      have hxi : xs[i]? = some (xs[i]'hlt) := by simp
      have g24 := g3.trans g4
      refine hs i (xs[i]'hlt) v F4 H4 hxi ((gr.trans g2).trans g24) (hv _ hxi) _ fun σ2 hw ht he => ⟨hw, ht H4 (Same.refl H4) _ fun H5 e5 => ?_⟩
      have g25 := g24.trans (Gr.up g24.sub e5)
      have md5 : MutL K F4 H5 Dl (lc (xs.take i) c f) := (md.go g4).grow e5
      rw [take_snoc hxi, lc_snoc]
      cases hc : c (xs[i]'hlt) with
      | false => exact ⟨F4, g25, by simpa using md5⟩
      | true =>
        refine he H5 e5 hc F4 H5 (Gr.refl (g24.sub.trans e5)) _ fun F6 H6 w g6 rw' => ?_
        obtain ⟨f6, ws, e6, r6⟩ := md5.go g6
        refine ⟨ws, e6, ?_, F6, (g25.trans g6).mut hD f6, f6, _, upd_same, ?_⟩
        · rw [wk_len r6]
          exact szl (Nat.lt_of_le_of_lt (lc_len _ _ _) (Nat.lt_of_le_of_lt (List.length_take_le _ _) (by omega)))
        · rw [if_pos rfl]
          exact rps_app r6 (.cons rw' .nil)
    · have e : i = xs.length := by omega
      subst e
      rw [List.take_length] at md
      exact .inl ⟨W.stop _ F3 H' g3.ex g3.sub (hS.go ((gr.trans g2).trans g3) h0) (Nat.le_refl _), q F3 H' Dl (g2.trans g3) (none_of g2.keep hD) md⟩
theorem tt_yes : Tt tYes σ H true := fun H1 e Q q => q H1 (Same.refl H1)
end
end Rf

/-! ### more: unpacking, zip, enumerate, chains, None, isinstance, data -/
namespace Rf
open PySem L2
open Rep (rp)
theorem GrZ.grow {Z : Addr -> Prop} {F0 H0 F H H1 : Hp} (g : GrZ Z F0 H0 F H) (e : Same H H1) : GrZ Z F0 H0 F H1 := g.then (Gr.up g.sub e)
theorem GrZ.newIn {Z : Addr -> Prop} {F0 H0 F H : Hp} {p : Addr} (g : GrZ Z F0 H0 F H) (n : H p = none) : H0 p = none := by
  cases q : H0 p with
  | none => rfl
  | some o =>
    obtain ⟨o', e⟩ := g.dom p o q
    rw [n] at e; cases e
@[irreducible] def ltL2 {α β : Type} [Inhabited α] (xs : List α) (k : α -> α -> β) : β := k (ixI xs 0) (ixI xs 1)
@[irreducible] def ltL3 {α β : Type} [Inhabited α] (xs : List α) (k : α -> α -> α -> β) : β := k (ixI xs 0) (ixI xs 1) (ixI xs 2)
theorem ltL2_eq {α β : Type} [Inhabited α] (xs : List α) (k : α -> α -> β) : ltL2 xs k = k (ixI xs 0) (ixI xs 1) := by unfold ltL2; rfl
theorem ltL3_eq {α β : Type} [Inhabited α] (xs : List α) (k : α -> α -> α -> β) : ltL3 xs k = k (ixI xs 0) (ixI xs 1) (ixI xs 2) := by unfold ltL3; rfl
section
variable {K : Fg} {Z : Addr -> Prop} {σ : St} {F H F0 H0 F1 H1 F2 H2 : Hp} {te ta tb tc : TE} {tt : TT} {t1 t2 u : TS} {D : Ends} {i j l : Nat} {p q : Addr}
theorem tv_neg {n : Int} (h : Tv K te σ H H n) : Tv K (tUn (rU fun i => .int (-i)) te) σ H H (-n) := fun F1 H1 g Q q =>
  h F1 H1 g _ fun F2 H2 v g2 r => ⟨n, r, q F2 H2 _ g2 rfl⟩
theorem tv_chain [Rep α] [Rep β] [Rep γ] {x : α} {y : β} {z : γ} {r r' : R2} {b c : Bool} (ha : Tv K ta σ H H x) (hb : Tv K tb σ H H y) (ho : Op2 K r x y b) (hc : Tv K tc σ H H z) (ho' : Op2 K r' y z c) : Tv K (tChain r r' ta tb tc) σ H H (b && c) := fun F1 H1 g Q q =>
  ha F1 H1 g _ fun F2 H2 v g2 r1 => hb F2 H2 (g.trans g2) _ fun F3 H3 w g3 r2 => ho F3 H3 v w g3.sub (up g3.ex r1) r2 _ fun F4 H4 k g4 rk => ⟨b, rk, by
    cases b with
    | false => exact q F4 H4 _ ((g2.trans g3).trans g4) rfl
    | true => exact hc F4 H4 (((g.trans g2).trans g3).trans g4) _ fun F5 H5 z' g5 r5 => ho' F5 H5 w z' g5.sub (up (g4.ex.trans g5.ex) r2) r5 _ fun F6 H6 k' g6 rk' => q F6 H6 k' ((((g2.trans g3).trans g4).trans g5).trans g6) rk'⟩
/-- x is None -/
class Nn (α : Type) [Rep α] : Prop where
  nn : forall {K : Fg} {F : Hp} {x : α} {v : V}, rp K F x v -> v ≠ .non
instance : Nn Int := ⟨fun h z => by rw [show _ = V.int _ from h] at z; cases z⟩
instance : Nn Bool := ⟨fun h z => by rw [show _ = V.bl _ from h] at z; cases z⟩
instance : Nn PySem.Str := ⟨fun h z => by rw [show _ = V.str _ from h] at z; cases z⟩
instance [Rep α] : Nn (List α) := ⟨fun ⟨_, _, e, _⟩ z => by rw [e] at z; cases z⟩
instance [Rep α] [RepT β] : Nn (α × β) := ⟨fun ⟨_, _, e, _⟩ z => by rw [e] at z; cases z⟩
instance [Rep α] : Nn (Tup α) := ⟨fun ⟨_, _, e, _⟩ z => by rw [e] at z; cases z⟩
theorem op2_isN [Rep α] [Nn α] {x : Option α} : Op2 K rIsN x () x.isNone := fun F H v w s r1 r2 Q q => by
  refine ⟨r2, q F H _ (Gr.refl s) ?_⟩
  cases x with
  | none => rw [show v = V.non from r1]; rfl
  | some y =>
    have n := Nn.nn (α := α) (x := y) r1
    show V.bl _ = V.bl _
    simp [n]
theorem op2_notN [Rep α] [Nn α] {x : Option α} : Op2 K rNotN x () x.isSome := fun F H v w s r1 r2 Q q => by
  refine ⟨r2, q F H _ (Gr.refl s) ?_⟩
  cases x with
  | none => rw [show v = V.non from r1]; rfl
  | some y =>
    have n := Nn.nn (α := α) (x := y) r1
    show V.bl _ = V.bl _
    simp [n]
theorem op2_isNU : Op2 K rIsN () () true := fun F H v w s r1 r2 Q q => ⟨r2, q F H _ (Gr.refl s) (by rw [show v = V.non from r1]; rfl)⟩
theorem op2_notNU : Op2 K rNotN () () false := fun F H v w s r1 r2 Q q => ⟨r2, q F H _ (Gr.refl s) (by rw [show v = V.non from r1]; rfl)⟩
theorem op2_isNF [Rep α] [Nn α] {x : α} : Op2 K rIsN x () false := fun F H v w s r1 r2 Q q => ⟨r2, q F H _ (Gr.refl s) (by show V.bl _ = V.bl _; simp [Nn.nn r1])⟩
theorem op2_notNF [Rep α] [Nn α] {x : α} : Op2 K rNotN x () true := fun F H v w s r1 r2 Q q => ⟨r2, q F H _ (Gr.refl s) (by show V.bl _ = V.bl _; simp [Nn.nn r1])⟩
/-- isinstance of a thing of a known kind -/
class Typ (α : Type) [Rep α] (n : String) : Prop where
  is : forall {K : Fg} {F H : Hp} {x : α} {v : V}, rp K F x v -> Same F H -> TyX K H v (.type n)
instance : Typ Int "int" := ⟨fun h _ => by rw [show _ = V.int _ from h]; exact .base (.int _)⟩
instance : Typ Bool "bool" := ⟨fun h _ => by rw [show _ = V.bl _ from h]; exact .base (.bl _)⟩
instance : Typ PySem.Str "str" := ⟨fun h _ => by rw [show _ = V.str _ from h]; exact .base (.str _)⟩
instance : Typ Unit "NoneType" := ⟨fun h _ => by rw [show _ = V.non from h]; exact .base .non⟩
instance [Rep α] : Typ (List α) "list" := ⟨fun ⟨a, vs, e, q, _⟩ s => by rw [e]; exact .base (.lst (s a _ q))⟩
instance [Rep α] [RepT β] : Typ (α × β) "tuple" := ⟨fun ⟨a, vs, e, q, _⟩ s => by rw [e]; exact .base (.tup (s a _ q))⟩
instance [Rep α] : Typ (Tup α) "tuple" := ⟨fun ⟨a, vs, e, q, _⟩ s => by rw [e]; exact .base (.tup (s a _ q))⟩
theorem tv_isi [Rep α] {x : α} {n c : String} {b : Bool} [Typ α n] (h : Tv K ta σ H H x) (e : kitB n c = some b) : Tv K (tCB (rIsi K) (tCons ta (tCons (tC (.ty c)) tNil))) σ H H b := fun F1 H1 g Q q =>
  h F1 H1 g _ fun F2 H2 v g2 r => ⟨v, .ty c, .type n, .type c, b, rfl, .ty c, Typ.is r g2.sub, kit_ty e, q F2 H2 _ g2 rfl⟩
/-! ### unpacking -/
theorem q_unp2 [Rep α] [Rep β] {γ : Type} {e : α × β} {k : α -> β -> γ} {P : γ -> Prop} (hP : P (lt2 e k)) (s : Same F H) (he : Tv K te σ F H e)
    (nxt : forall a b F1 H1 v w, (a, b) = e -> Gr F H F1 H1 -> rp K F1 a v -> rp K F1 b w -> P (k a b) -> u D ((σ.set i (some v)).set j (some w)) H1) : tSeq (tAsg te (gTup K 2 (gCons (gName i) (gCons (gName j) gNil)))) u D σ H :=
  he F H (Gr.refl s) _ fun F2 H2 v g r => g_tup2 (Q := fun σ' H' => u D σ' H') g.sub r fun a b ra rb => nxt e.1 e.2 F2 H2 a b rfl g ra rb (by rw [lt2_eq] at hP; exact hP)
theorem q_unp3 [Rep α] [Rep β] [Rep γ] {δ : Type} {e : α × β × γ} {k : α -> β -> γ -> δ} {P : δ -> Prop} (hP : P (lt3 e k)) (s : Same F H) (he : Tv K te σ F H e)
    (nxt : forall a b c F1 H1 v w z, (a, b, c) = e -> Gr F H F1 H1 -> rp K F1 a v -> rp K F1 b w -> rp K F1 c z -> P (k a b c) -> u D (((σ.set i (some v)).set j (some w)).set l (some z)) H1) : tSeq (tAsg te (gTup K 3 (gCons (gName i) (gCons (gName j) (gCons (gName l) gNil))))) u D σ H :=
  he F H (Gr.refl s) _ fun F2 H2 v g r => g_tup3 (Q := fun σ' H' => u D σ' H') g.sub r fun a b c ra rb rc => nxt e.1 e.2.1 e.2.2 F2 H2 a b c rfl g ra rb rc (by rw [lt3_eq] at hP; exact hP)
theorem ixI_0 {α : Type} [Inhabited α] (x : α) (r : List α) : ixI (x :: r) 0 = x := rfl
theorem ixI_1 {α : Type} [Inhabited α] (x y : α) (r : List α) : ixI (x :: y :: r) 1 = y := rfl
theorem ixI_2 {α : Type} [Inhabited α] (x y z : α) (r : List α) : ixI (x :: y :: z :: r) 2 = z := rfl
theorem q_unpL2 [Rep α] [Inhabited α] {γ : Type} {e : List α} {k : α -> α -> γ} {P : γ -> Prop} (hP : P (ltL2 e k)) (s : Same F H) (he : Tv K te σ F H e) (hl : e.length = 2)
    (nxt : forall a b F1 H1 v w, e = [a, b] -> Gr F H F1 H1 -> rp K F1 a v -> rp K F1 b w -> P (k a b) -> u D ((σ.set i (some v)).set j (some w)) H1) : tSeq (tAsg te (gLst K 2 (gCons (gName i) (gCons (gName j) gNil)))) u D σ H := by
  refine he F H (Gr.refl s) _ fun F2 H2 v g r => ?_
  obtain ⟨a, vs, rfl, q, rr⟩ := r
  match e, vs, rr, hl with
  | [x, y], _, .cons rx (.cons ry .nil), _ =>
    rw [ltL2_eq] at hP
    exact ⟨a, _, rfl, SqL.of (g.sub a _ q), rfl, _, _, rfl, _, _, rfl, rfl, nxt x y F2 H2 _ _ rfl g rx ry hP⟩
theorem q_unpL3 [Rep α] [Inhabited α] {γ : Type} {e : List α} {k : α -> α -> α -> γ} {P : γ -> Prop} (hP : P (ltL3 e k)) (s : Same F H) (he : Tv K te σ F H e) (hl : e.length = 3)
    (nxt : forall a b c F1 H1 v w z, e = [a, b, c] -> Gr F H F1 H1 -> rp K F1 a v -> rp K F1 b w -> rp K F1 c z -> P (k a b c) -> u D (((σ.set i (some v)).set j (some w)).set l (some z)) H1) : tSeq (tAsg te (gLst K 3 (gCons (gName i) (gCons (gName j) (gCons (gName l) gNil))))) u D σ H := by
  refine he F H (Gr.refl s) _ fun F2 H2 v g r => ?_
  obtain ⟨a, vs, rfl, q, rr⟩ := r
  match e, vs, rr, hl with
  | [x, y, z], _, .cons rx (.cons ry (.cons rz .nil)), _ =>
    rw [ltL3_eq] at hP
    exact ⟨a, _, rfl, SqL.of (g.sub a _ q), rfl, _, _, rfl, _, _, rfl, _, _, rfl, rfl, nxt x y z F2 H2 _ _ _ rfl g rx ry rz hP⟩
theorem tlen [Rep α] [RepT β] {n : Nat} [LenT (α × β) n] {z : α × β} (hn : n ≤ 100000) : forall F vs, RepT.rt K F z vs -> vs.length ≤ 100000 := fun F vs h => by rw [LenT.len (n := n) h]; exact hn
/-! ### zip, enumerate -/
def zipP {α β : Type} (xs : List α) (ys : List β) : List (Pr α β) := (List.zip xs ys).map fun p => ⟨p.1, p.2⟩
theorem zipP_len {α β : Type} (xs : List α) (ys : List β) : (zipP xs ys).length = min xs.length ys.length := by simp [zipP]
theorem zip_at {α β : Type} {xs : List α} {ys : List β} {i : Nat} {p : Pr α β} (h : (zipP xs ys)[i]? = some p) : xs[i]? = some p.1 ∧ ys[i]? = some p.2 := by
  unfold zipP at h
  rw [List.getElem?_map] at h
  cases e : (List.zip xs ys)[i]? with
  | none => rw [e] at h; cases h
  | some q =>
    rw [e] at h
    cases h
    rw [List.getElem?_zip_eq_some] at e
    exact e
theorem wk_zip [Rep α] [Rep β] {a b : Addr} {vs ws : List V} {xs : List α} {ys : List β} (q : F a = some (.lst vs)) (r : Rps K F xs vs) (q' : F b = some (.lst ws)) (r' : Rps K F ys ws) : Wk K (Itz K a b) F ST (zipP xs ys) where
  go := fun i G H s0 s1 _ h => by
    have s := s0.trans s1
    rw [zipP_len] at h
    exact ⟨vs, ws, vs[i]'(by rw [wk_len r]; omega), ws[i]'(by rw [wk_len r']; omega), SqL.of (s a _ q), SqL.of (s b _ q'), by simp, by simp⟩
  stop := fun i G H s0 s1 _ h => by
    have s := s0.trans s1
    rw [zipP_len] at h
    exact ⟨vs, ws, SqL.of (s a _ q), SqL.of (s b _ q'), by rw [wk_len r, wk_len r']; omega⟩
  yld := fun i H F3 v H' s s3 _ y h => by
    obtain ⟨T, x, z, rfl, hT, rfl, h1, h2⟩ := y
    refine ⟨_, Gr.lay s3 hT, fun p hp => ?_⟩
    obtain ⟨e1, e2⟩ := zip_at hp
    obtain ⟨v1, k1, m1⟩ := rps_at r e1
    obtain ⟨v2, k2, m2⟩ := rps_at r' e2
    have z1 := h1 vs (SqL.of (s3 a _ (s a _ q)))
    have z2 := h2 ws (SqL.of (s3 b _ (s b _ q')))
    rw [k1] at z1; rw [k2] at z2
    cases z1; cases z2
    have n := same_new (o := .tup [x, z]) (none_of s3 hT)
    exact ⟨T, x, z, rfl, upd_same, up (s.trans n) m1, up (s.trans n) m2⟩
theorem it_zip [Rep α] [Rep β] {xs : List α} {ys : List β} (h : Tv K ta σ F H xs) (h' : Tv K tb σ F H ys) : Itr K (iZip K (tCons ta (tCons tb tNil))) σ F H ST (zipP xs ys) := fun F1 H1 g R q =>
  h F1 H1 g _ fun F2 H2 v g2 ⟨a, vs, e, hq, hr⟩ => h' F2 H2 (g.trans g2) _ fun F3 H3 w g3 ⟨b, ws, e', hq', hr'⟩ =>
    ⟨a, b, vs, ws, by rw [e, e'], SqL.of (g3.sub a _ (g3.ex a _ hq)), SqL.of (g3.sub b _ hq'), q _ F3 H3 (g2.trans g3) (wk_zip (g3.ex a _ hq) (rps_mono g3.ex hr) hq' hr')⟩
def enumI {α : Type} (xs : List α) : List (Pr Int α) := zipP (rng 0 xs.length) xs
/-- a loop's or a comprehension's one name -/
theorem g_nameF [Rep α] [Flat α] {x : α} {v : V} {Q : St -> Hp -> Prop} (h : rp K F x v) (k : v = Flat.val x -> Q (σ.set i (some (Flat.val x))) H) : gName i v σ H Q := by
  have e := Flat.is h
  subst e
  exact k rfl
/-! ### == of data -/
class Dat (α : Type) [Rep α] where
  dat : α -> PyData
  dp : forall {K : Fg} {F : Hp} {x : α} {v : V}, rp K F x v -> Dp K F v (dat x)
  ok : α -> Prop
  sh : Nat
  can : forall x : α, ok x -> (dat x).canLay0 = true ∧ (dat x).depth ≤ sh
  eqv : forall x y : α, PyData.eqv (dat x) (dat y) = true ↔ x = y
instance : Dat Int := ⟨fun i => .int i, fun h => by rw [show _ = V.int _ from h]; exact .int _, fun _ => True, 0, fun x _ => ⟨by simp [PyData.canLay0], by simp [PyData.depth]⟩, fun x y => by simp [PyData.eqv]⟩
instance : Dat Bool := ⟨fun i => .bool i, fun h => by rw [show _ = V.bl _ from h]; exact .bl _, fun _ => True, 0, fun x _ => ⟨by simp [PyData.canLay0], by simp [PyData.depth]⟩, fun x y => by simp [PyData.eqv]⟩
instance : Dat Unit := ⟨fun _ => .none, fun h => by rw [show _ = V.non from h]; exact .non, fun _ => True, 0, fun x _ => ⟨by simp [PyData.canLay0], by simp [PyData.depth]⟩, fun x y => by simp [PyData.eqv]⟩
instance : Dat PySem.Str := ⟨fun i => .str i, fun h => by rw [show _ = V.str _ from h]; exact .str _, fun x => PyData.strOk x = true, 0, fun x h => ⟨by simpa [PyData.canLay0] using h, by simp [PyData.depth]⟩, fun x y => by simp [PyData.eqv]⟩
theorem dpAll [Rep α] [Dat α] {K : Fg} {F : Hp} : forall {xs : List α} {vs : List V}, Rps K F xs vs -> DpAll K F vs (xs.map Dat.dat)
  | _, _, .nil => .nil
  | _, _, .cons r t => .cons (Dat.dp r) (dpAll t)
theorem canAll [Rep α] [Dat α] : forall (xs : List α), (forall x, x ∈ xs -> Dat.ok x) -> PyData.canLayAll0 (xs.map Dat.dat) = true ∧ PyData.depthAll (xs.map Dat.dat) ≤ Dat.sh α
  | [], _ => ⟨by simp [PyData.canLayAll0], by simp [PyData.depthAll]⟩
  | x :: r, h => by
    obtain ⟨h1, h2⟩ := canAll r fun y hy => h y (List.mem_cons_of_mem _ hy)
    obtain ⟨h3, h4⟩ := Dat.can x (h x (List.mem_cons_self ..))
    constructor
    · simp [PyData.canLayAll0, h3]; simpa using h1
    · simp only [List.map_cons, PyData.depthAll]; omega
theorem eqvAll [Rep α] [Dat α] : forall (xs ys : List α), PyData.eqvAll (xs.map Dat.dat) (ys.map Dat.dat) = true ↔ xs = ys
  | [], [] => by simp [PyData.eqvAll]
  | [], y :: r => by simp [PyData.eqvAll]
  | x :: r, [] => by simp [PyData.eqvAll]
  | x :: r, y :: r' => by
    simp only [List.map_cons, PyData.eqvAll, Bool.and_eq_true, eqvAll r r', Dat.eqv, List.cons.injEq]
instance [Rep α] [Dat α] : Dat (List α) := ⟨fun xs => .list (xs.map Dat.dat), fun ⟨a, vs, e, q, r⟩ => by rw [e]; exact .lst (SqL.of q) (dpAll r), fun xs => forall x, x ∈ xs -> Dat.ok x, Dat.sh α + 1, fun xs h => by
  obtain ⟨h1, h2⟩ := canAll xs h
  exact ⟨by simpa [PyData.canLay0] using h1, by simp only [PyData.depth]; omega⟩, fun x y => by simp only [PyData.eqv]; exact eqvAll x y⟩
instance [Rep α] [Dat α] : Dat (Tup α) := ⟨fun xs => .tuple (xs.l.map Dat.dat), fun ⟨a, vs, e, q, r⟩ => by rw [e]; exact .tup (SqT.of q) (dpAll r), fun xs => forall x, x ∈ xs.l -> Dat.ok x, Dat.sh α + 1, fun xs h => by
  obtain ⟨h1, h2⟩ := canAll xs.l h
  exact ⟨by simpa [PyData.canLay0] using h1, by simp only [PyData.depth]; omega⟩, fun x y => by
  simp only [PyData.eqv]
  rw [eqvAll x.l y.l]
  cases x; cases y; simp⟩
/-- the items of a tuple -/
class DatT (α : Type) [RepT α] where
  ds : α -> List PyData
  dp : forall {K : Fg} {F : Hp} {x : α} {vs : List V}, RepT.rt K F x vs -> DpAll K F vs (ds x)
  ok : α -> Prop
  sh : Nat
  can : forall x : α, ok x -> PyData.canLayAll0 (ds x) = true ∧ PyData.depthAll (ds x) ≤ sh
  eqv : forall x y : α, PyData.eqvAll (ds x) (ds y) = true ↔ x = y
instance (priority := low) [Rep α] [Dat α] : DatT α := ⟨fun x => [Dat.dat x], fun ⟨v, e, r⟩ => by rw [e]; exact .cons (Dat.dp r) .nil, Dat.ok, Dat.sh α, fun x h => by
  obtain ⟨h1, h2⟩ := Dat.can x h
  exact ⟨by simp [PyData.canLayAll0, h1], by simp only [PyData.depthAll]; omega⟩, fun x y => by simp [PyData.eqvAll, Dat.eqv]⟩
instance (priority := high) [Rep α] [RepT β] [Dat α] [DatT β] : DatT (α × β) := ⟨fun x => Dat.dat x.1 :: DatT.ds x.2, fun ⟨v, r, e, h, t⟩ => by rw [e]; exact .cons (Dat.dp h) (DatT.dp t), fun x => Dat.ok x.1 ∧ DatT.ok x.2, max (Dat.sh α) (DatT.sh β), fun x h => by
  obtain ⟨h1, h2⟩ := Dat.can x.1 h.1
  obtain ⟨h3, h4⟩ := DatT.can x.2 h.2
  exact ⟨by simp [PyData.canLayAll0, h1, h3], by simp only [PyData.depthAll]; omega⟩, fun x y => by
  obtain ⟨x1, x2⟩ := x; obtain ⟨y1, y2⟩ := y
  simp [PyData.eqvAll, Dat.eqv, DatT.eqv]⟩
instance [Rep α] [RepT β] [Dat α] [DatT β] : Dat (α × β) := ⟨fun x => .tuple (DatT.ds x), fun ⟨a, vs, e, q, r⟩ => by rw [e]; exact .tup (SqT.of q) (DatT.dp r), fun x => DatT.ok x, DatT.sh (α × β) + 1, fun x h => by
  obtain ⟨h1, h2⟩ := DatT.can x h
  exact ⟨by simpa [PyData.canLay0] using h1, by simp only [PyData.depth]; omega⟩, fun x y => by simp only [PyData.eqv]; exact DatT.eqv x y⟩
theorem shaped_of [Rep α] [Dat α] {x : α} (h : Dat.ok x) (hs : Dat.sh α ≤ 64) : SeqAt.shaped (Dat.dat x) = true := by
  obtain ⟨h1, h2⟩ := Dat.can x h
  unfold SeqAt.shaped
  rw [h1, decide_eq_true (Nat.le_trans h2 hs)]
  rfl
theorem eqv_dec [Rep α] [Dat α] [DecidableEq α] (x y : α) : PyData.eqv (Dat.dat x) (Dat.dat y) = decide (x = y) := by
  rw [Bool.eq_iff_iff, Dat.eqv, decide_eq_true_iff]
theorem op2_eqD [Rep α] [Dat α] [DecidableEq α] {K : Fg} {x y : α} (hx : Dat.ok x) (hy : Dat.ok y) (hs : Dat.sh α ≤ 64) : Op2 K (rEqD K) x y (decide (x = y)) := fun F H v w s r1 r2 Q q =>
  ⟨Dat.dat x, Dat.dat y, Dat.dp (up s r1), Dat.dp (up s r2), shaped_of hx hs, shaped_of hy hs, by rw [eqv_dec]; exact q F H _ (Gr.refl s) rfl⟩
theorem op2_neD [Rep α] [Dat α] [DecidableEq α] {K : Fg} {x y : α} (hx : Dat.ok x) (hy : Dat.ok y) (hs : Dat.sh α ≤ 64) : Op2 K (rNeD K) x y (!decide (x = y)) := fun F H v w s r1 r2 Q q =>
  ⟨Dat.dat x, Dat.dat y, Dat.dp (up s r1), Dat.dp (up s r2), shaped_of hx hs, shaped_of hy hs, by rw [eqv_dec]; exact q F H _ (Gr.refl s) rfl⟩
/-- tuples of ints -/
class Ints (α : Type) [RepT α] where
  ii : α -> List Int
  is : forall {K : Fg} {F : Hp} {x : α} {vs : List V}, RepT.rt K F x vs -> vs = (ii x).map V.int
instance (priority := low) : Ints Int := ⟨fun x => [x], fun ⟨v, e, r⟩ => by rw [e, show v = V.int _ from r]; rfl⟩
instance (priority := high) [RepT β] [Ints β] : Ints (Int × β) := ⟨fun x => x.1 :: Ints.ii x.2, fun ⟨v, r, e, h, t⟩ => by rw [e, show v = V.int _ from h, Ints.is t]; rfl⟩
theorem op2_ltT [RepT β] [Ints β] {K : Fg} {x y : Int × β} : Op2 K (rLtT K) x y (HT.lexLt (Ints.ii x) (Ints.ii y)) := fun F H v w s ⟨a, vs, e, q, r⟩ ⟨b, ws, e', q', r'⟩ Q k => by
  have h1 := Ints.is (α := Int × β) r
  have h2 := Ints.is (α := Int × β) r'
  subst h1 h2
  exact ⟨a, b, _, _, e, e', SqT.of (s a _ q), SqT.of (s b _ q'), k F H _ (Gr.refl s) rfl⟩
end
end Rf

/-! ### defs of the text -/
namespace Rf
open PySem PySem.Spec PyProof.Rows L2
abbrev FnP (K : Fg) (x : PySem.Str) (st : Stmt) (f : Addr) (fd : FuncData) : Prop := FunD K x x (defArgs st) (defBody st) (defScope st) [] [] f fd
/-- the module's def x is there and keeps its promise -/
def Dn (P : Program) (w : World) (K : Fg) (mg : PySem.Str → Option Value) (base : Heap) (CX : CXT) (x : PySem.Str) (k : Nat) (ps : List PySem.Str) (sp : Sp) : Prop :=
  ∃ f fd, FnOk P w K mg base CX k f fd ps sp ∧ mg x = some (.ref f) ∧ PySem.W.keepIn K (.ref f) = true ∧ Binds K fd ps []
end Rf

/-! ### rules whose reading names the written part, K written out (within a comprehension's block the context is a bound one) -/
namespace Rf
open PySem PySem.Spec PyProof.Rows L2
section
variable {X : Cx} {K : Fg}
theorem ix_listK (K : Fg) (h : X.K = K := by rfl) : IxR X (rIxL K) := h ▸ ix_list
theorem ix_tupK (K : Fg) (h : X.K = K := by rfl) : IxR X (rIxT K) := h ▸ ix_tup
theorem len_seqK (K : Fg) (h : X.K = K := by rfl) : CallR X (.builtin "len") (rLen' K) := h ▸ call_len_seq
theorem list_ofK (K : Fg) (h : X.K = K := by rfl) : CallR X (.type "list") (rListOf K) := h ▸ call_list_of
theorem in_seqK (K : Fg) (h : X.K = K := by rfl) : OpR X (compareOp .In) (rIn K false) := h ▸ op_in_seq
theorem notIn_seqK (K : Fg) (h : X.K = K := by rfl) : OpR X (compareOp .NotIn) (rIn K true) := h ▸ op_notIn_seq
theorem sl_listK (K : Fg) (h : X.K = K := by rfl) : SlR X (rSlL K) := h ▸ sl_list
theorem eqDK (K : Fg) (hu : X.A.units + 64 < cLine) (h : X.K = K := by rfl) : OpR X (compareOp .Eq) (rEqD K) := h ▸ op_eqD hu
theorem neDK (K : Fg) (hu : X.A.units + 64 < cLine) (h : X.K = K := by rfl) : OpR X (compareOp .NotEq) (rNeD K) := h ▸ op_neD hu
theorem ltTK (K : Fg) (hu : X.A.units < cLine) (h : X.K = K := by rfl) : OpR X (compareOp .Lt) (rLtT K) := h ▸ op_ltT hu
theorem isiK (K : Fg) (h : X.K = K := by rfl) : CallR X (.builtin "isinstance") (rIsi K) := h ▸ call_isi
theorem pi_listK (K : Fg) {tg l : Expr} {tl : TE} (hl : PE X l tl) (h : X.K = K := by rfl) : PI X tg l (iList K tl) := h ▸ pi_list hl
theorem pi_tupK (K : Fg) {tg l : Expr} {tl : TE} (hl : PE X l tl) (h : X.K = K := by rfl) : PI X tg l (iTup K tl) := h ▸ pi_tup hl
theorem pi_zipK (K : Fg) {e e2 : Expr} {ta : TA} {p pos tpos : Pos} {elts : List Expr} {kk : Nat} (hg : Gl X "zip") (hm : X.mg "zip" = none) (ha : PA X [e, e2] ta) (h : X.K = K := by rfl)
    (hs : starEach [e, e2] X.env = (false, eval e X.env) :: starEach [e2] X.env := by rfl) (hpl : (backTo pos (starEach [e2] X.env)).any (·.1) = false := by rfl) :
    PI X (.Tuple elts kk tpos) (.Call (.Name "zip" p) [e, e2] [] pos) (iZip K ta) := h ▸ pi_zip hg hm ha hs hpl
theorem pg_tupK (K : Fg) {es : List Expr} {k : Nat} {t : TGs} {n : Nat} {pos : Pos} (hc : X.calm = true) (hp : PGs X es t) (h : X.K = K := by rfl)
    (hn : (assignEach es X.env).length = n := by rfl) (hst : (assignEach es X.env).findIdx? (·.1) = none := by rfl) : PG X (.Tuple es k pos) (gTup K n t) := h ▸ pg_tup hc hp hn hst
end
end Rf
namespace Rf
open PySem PySem.Spec PyProof.Rows L2
open Rep (rp)
/-- the items of a tuple whose items are of one kind -/
class ItemsT (τ : Type) (β : outParam Type) [RepT τ] [Rep β] where
  its : τ -> List β
  is : forall {K : Fg} {F : Hp} {x : τ} {vs : List V}, RepT.rt K F x vs -> Rps K F (its x) vs
instance (priority := low) [Rep β] : ItemsT β β := ⟨fun x => [x], fun ⟨v, e, r⟩ => by rw [e]; exact .cons r .nil⟩
instance (priority := high) [Rep β] [RepT τ] [ItemsT τ β] : ItemsT (β × τ) β := ⟨fun x => x.1 :: ItemsT.its x.2, fun ⟨v, r, e, h, t⟩ => by rw [e]; exact .cons h (ItemsT.is t)⟩
theorem it_tupI [Rep β] [RepT τ] [ItemsT τ β] {K : Fg} {te : TE} {σ : St} {F H : Hp} {x : β × τ} (h : Tv K te σ F H x) : Itr K (iTup K te) σ F H ST (ItemsT.its (τ := β × τ) x) := fun F1 H1 g R q =>
  h F1 H1 g _ fun F2 H2 v g2 ⟨a, vs, e, hq, hr⟩ => ⟨a, e, ⟨vs, SqT.of (g2.sub a _ hq)⟩, q _ F2 H2 g2 (wk_tup (SqT.of hq) (ItemsT.is (τ := β × τ) hr))⟩
end Rf
/-! ### copies out of a list that may change still -/
namespace Rf
open PySem PySem.Spec PyProof.Rows L2
open Rep (rp)
section
variable {K : Fg} {σ : St} {F H : Hp} {tb : TE} {i : Nat} {p : Addr}
theorem tl_sliceM [Rep α] {xs : List α} {tl th : TO} {lo hi : Option Int} (e : σ[i]? = some (some (.ref p))) (m : MutL K F H p xs) (h1 : TvO tl σ H lo) (h2 : TvO th σ H hi) : TvL K (tSl (rSlL K) (tVar i) tl th) σ F H (cutI xs lo hi) := fun F1 H1 g Q q => by
  obtain ⟨f, vs, e1, r⟩ := m.go g
  exact ⟨.ref p, e, h1 H1 g.keep _ fun H3 e3 => h2 H3 (g.keep.trans e3) _ fun H4 e4 =>
    ⟨p, vs, rfl, SqL.of (e4 p _ (e3 p _ e1)), fun l hl => q F1 _ l ((Gr.up g.sub (e3.trans e4)).trans (Gr.put ((g.sub.trans e3).trans e4) hl)) (none_of (e3.trans e4) hl) ⟨none_of ((g.sub.trans e3).trans e4) hl, _, upd_same, rps_cut r⟩⟩⟩
theorem tl_listM [Rep α] {xs : List α} (e : σ[i]? = some (some (.ref p))) (m : MutL K F H p xs) : TvL K (tCB (rListOf K) (tCons (tVar i) tNil)) σ F H xs := fun F1 H1 g Q q => by
  obtain ⟨f, vs, e1, r⟩ := m.go g
  exact ⟨.ref p, e, p, vs, rfl, .inl (SqL.of e1), fun l hl => q F1 _ l (Gr.put g.sub hl) hl ⟨none_of g.sub hl, vs, upd_same, r⟩⟩
theorem tv_ixM [Rep α] [Inhabited α] {xs : List α} {n : Int} (e : σ[i]? = some (some (.ref p))) (m : MutL K F H p xs) (hi : Tv K tb σ H H n) (h : InB xs.length n) : Tv K (tOp (rIxL K) (tVar i) tb) σ F H (ixI xs n) := fun F1 H1 g Q q =>
  ⟨.ref p, e, hi H1 H1 (Gr.whole g.keep) _ fun F2 H2 v g2 r2 => by
    obtain ⟨f, vs, e1, r⟩ := m.go g
    obtain ⟨y, hy, ry⟩ := rps_atI r (atI_ix h)
    exact ⟨p, vs, n, y, rfl, r2, SqL.of (g2.keep p _ e1), hy, q F1 H2 y (Gr.up g.sub g2.keep) ry⟩⟩
end
end Rf

/-! ### texts; numbers as texts; sorted; list(range(n)); pop -/
namespace Rf
open PySem PySem.Spec PyProof.Rows L2
open Rep (rp)
abbrev strI (i : Int) : PySem.Str := toString i
def fj (ys : List PySem.Str) : PySem.Str := ys.foldl (· ++ ·) Str.empty
def chI (z : PySem.Str) (i : Int) : PySem.Str := ⟨#[ixI z.cps.toList i]⟩
def signs (z : PySem.Str) : List PySem.Str := z.cps.toList.map fun c => ⟨#[c]⟩
/-- in order -/
def insI (x : Int) : List Int -> List Int
  | [] => [x]
  | y :: r => cond (decide (x ≤ y)) (x :: y :: r) (y :: insI x r)
def sortI (xs : List Int) : List Int := xs.foldr insI []
theorem insI_perm (x : Int) : forall xs : List Int, (insI x xs).Perm (x :: xs)
  | [] => .refl _
  | y :: r => by
    unfold insI
    cases decide (x ≤ y)
    · exact ((insI_perm x r).cons y).trans (.swap x y r)
    · exact .refl _
theorem sortI_perm : forall xs : List Int, (sortI xs).Perm xs
  | [] => .refl _
  | x :: r => (insI_perm x _).trans ((sortI_perm r).cons x)
theorem insI_sorted (x : Int) : forall xs : List Int, xs.Pairwise (· ≤ ·) -> (insI x xs).Pairwise (· ≤ ·)
  | [], _ => .cons (fun _ h => nomatch h) .nil
  | y :: r, h => by
    unfold insI
    cases hd : decide (x ≤ y)
    · have hxy : y ≤ x := by have := of_decide_eq_false hd; omega
      obtain ⟨h1, h2⟩ := List.pairwise_cons.mp h
      refine .cons (fun z hz => ?_) (insI_sorted x r h2)
      rcases List.mem_cons.mp ((insI_perm x r).mem_iff.mp hz) with rfl | hz
      · exact hxy
      · exact h1 z hz
    · have hxy : x ≤ y := of_decide_eq_true hd
      refine .cons (fun z hz => ?_) h
      rcases List.mem_cons.mp hz with rfl | hz
      · exact hxy
      · exact Int.le_trans hxy ((List.pairwise_cons.mp h).1 z hz)
theorem sortI_sorted : forall xs : List Int, (sortI xs).Pairwise (· ≤ ·)
  | [] => .nil
  | x :: r => insI_sorted x _ (sortI_sorted r)
theorem sorted_one : forall {xs ys : List Int}, xs.Perm ys -> xs.Pairwise (· ≤ ·) -> ys.Pairwise (· ≤ ·) -> xs = ys
  | [], ys, p, _, _ => (List.nil_perm.mp p).symm
  | x :: r, [], p, _, _ => nomatch List.perm_nil.mp p
  | x :: r, y :: r', p, hx, hy => by
    obtain ⟨h1, h2⟩ := List.pairwise_cons.mp hx
    obtain ⟨h3, h4⟩ := List.pairwise_cons.mp hy
    have e : x = y := by
      have m1 := p.mem_iff.mp (List.mem_cons_self (a := x) (l := r))
      have m2 := p.mem_iff.mpr (List.mem_cons_self (a := y) (l := r'))
      rcases List.mem_cons.mp m1 with e | m1
      · exact e
      · rcases List.mem_cons.mp m2 with e | m2
        · exact e.symm
        · exact Int.le_antisymm (h1 _ m2) (h3 _ m1)
    subst e
    rw [sorted_one (List.Perm.cons_inv p) h2 h4]
theorem sorted_is {xs ys : List Int} (p : ys.Perm xs) (h : ys.Pairwise (· ≤ ·)) : ys = sortI xs := sorted_one (p.trans (sortI_perm xs).symm) h (sortI_sorted xs)
theorem sortI_len (xs : List Int) : (sortI xs).length = xs.length := (sortI_perm xs).length_eq
section
variable {K : Fg} {Z : Addr -> Prop} {σ : St} {F H F0 H0 F1 H1 F2 H2 : Hp} {te ta tb tc to : TE} {tt : TT} {t1 t2 u : TS} {D : Ends} {i j l : Nat} {p q : Addr}
theorem op2_cats {x y : PySem.Str} (h : x.length + y.length ≤ 100000) : Op2 K rAddS x y (x ++ y) := fun F H v w s r1 r2 Q q =>
  ⟨x, y, r1, r2, sz h, q F H _ (Gr.refl s) rfl⟩
theorem op2_ixS {z : PySem.Str} {i : Int} (hz : z.length ≤ 100000) (h : InB z.length i) : Op2 K rIxS z i (chI z i) := fun F H v w s r1 r2 Q q =>
  ⟨z, i, ixI z.cps.toList i, r1, r2, sz hz, atI_ix (by rw [Array.length_toList]; exact h), q F H _ (Gr.refl s) rfl⟩
abbrev rStrI : List V -> Hp -> VK -> Prop := fun xs H Q => ∃ i, xs = [.int i] ∧ i.natAbs.log2 < 1920 ∧ Q (.str (toString i)) H
theorem cb_strI {n : Int} (h : n.natAbs.log2 < 1920) : CbV K rStrI (fun F vs => exists v r, vs = v :: r ∧ rp K F n v ∧ r = []) (strI n) := fun F H vs Q s ⟨v, r, e, e2, e4⟩ q => by
  subst e e4
  cases e2
  exact ⟨n, rfl, h, q F H _ (Gr.refl s) rfl⟩
theorem log_small {n : Int} (h1 : -(2 ^ 64) ≤ n) (h2 : n ≤ 2 ^ 64) : n.natAbs.log2 < 1920 := by
  by_cases h0 : n.natAbs = 0
  · rw [h0]; decide
  · have h3 : n.natAbs < 2 ^ 1920 := Nat.lt_of_le_of_lt (show n.natAbs ≤ 2 ^ 64 by omega) (Nat.pow_lt_pow_right (by decide) (by decide))
    exact (Nat.log2_lt h0).mpr h3
theorem cb_strS {z : PySem.Str} : CbV K (fun xs H Q => ∃ a, xs = [.str a] ∧ Q (.str a) H) (fun F vs => exists v r, vs = v :: r ∧ rp K F z v ∧ r = []) z := fun F H vs Q s ⟨v, r, e, e2, e4⟩ q => by
  subst e e4
  cases e2
  exact ⟨z, rfl, q F H _ (Gr.refl s) rfl⟩
theorem tv_bits {n : Int} (h : Tv K to σ H H n) : Tv K (tBits to) σ H H ((Builtin.Int.intBits n : Nat) : Int) := fun F1 H1 g Q q =>
  h F1 H1 g _ fun F2 H2 v g2 r => ⟨n, r, q F2 H2 _ g2 rfl⟩
/-- f'..' -/
def TvJ (ts : List TE) (σ : St) (H : Hp) (ys : List PySem.Str) : Prop := forall H1, Same H H1 -> forall (acc : PySem.Str) (Q : PySem.Str -> Hp -> Prop), acc.length + (ys.map (·.length)).sum ≤ 100000 -> (forall H2, Same H1 H2 -> Q (ys.foldl (· ++ ·) acc) H2) -> tJs ts acc σ H1 Q
theorem app_len (a b : PySem.Str) : (a ++ b).length = a.length + b.length := Array.size_append
theorem tj_nil : TvJ [] σ H [] := fun H1 _ acc Q _ q => q H1 (Same.refl H1)
theorem tj_cons {t : TE} {ts : List TE} {y : PySem.Str} {ys : List PySem.Str} (h : Tv K t σ H H y) (hr : TvJ ts σ H ys) : TvJ (t :: ts) σ H (y :: ys) := fun H1 e acc Q hl q =>
  h H1 H1 (Gr.whole e) _ fun F2 H2 v g r => ⟨y, r, by
    rw [List.map_cons, List.sum_cons] at hl
    rw [app_len]
    exact sz (by omega), hr H2 (e.trans g.keep) (acc ++ y) Q (by rw [List.map_cons, List.sum_cons] at hl; rw [app_len]; omega) fun H3 e3 => q H3 (g.keep.trans e3)⟩
theorem tv_fmtI {n : Int} (h : Tv K te σ H H n) (hn : n.natAbs.log2 < 1920) : Tv K (tFmt te) σ H H (strI n) := fun F1 H1 g Q q =>
  h F1 H1 g _ fun F2 H2 v g2 r => .inr ⟨n, r, hn, q F2 H2 _ g2 rfl⟩
theorem tv_fmtS {z : PySem.Str} (h : Tv K te σ H H z) (hz : z.length ≤ 100000) : Tv K (tFmt te) σ H H z := fun F1 H1 g Q q =>
  h F1 H1 g _ fun F2 H2 v g2 r => .inl ⟨z, r, sz hz, q F2 H2 _ g2 rfl⟩
theorem tv_joined {ts : List TE} {ys : List PySem.Str} (h : TvJ ts σ H ys) (hl : (ys.map (·.length)).sum ≤ 100000) : Tv K (fun σ H Q => tJs ts Str.empty σ H fun out H1 => Q (.str out) H1) σ H H (fj ys) := fun F1 H1 g Q q =>
  h H1 g.keep Str.empty _ (by show 0 + _ ≤ _; omega) fun H2 e => q F1 H2 _ (Gr.up g.sub e) rfl
/-- sep.join(xs) -/
abbrev rJoin (K : Fg) : V -> List V -> Hp -> VK -> Prop := fun x xs H Q => ∃ a p, ∃ ys : List PySem.Str, x = .str a ∧ xs = [.ref p] ∧ (SqL K H p (ys.map V.str) ∨ SqT K H p (ys.map V.str)) ∧
    (ys.map (·.length)).sum + ys.length * a.length ≤ 16777216 ∧ Q (.str (Txt.join a ys)) H
theorem tv_join {a : PySem.Str} {ys : List PySem.Str} (ha : Tv K ta σ H H a) (hb : Tv K tb σ H H ys) (hl : (ys.map (·.length)).sum + ys.length * a.length ≤ 16777216) : Tv K (tM1 (rJoin K) ta tb) σ H H (Txt.join a ys) := fun F1 H1 g Q q =>
  ha F1 H1 g _ fun F2 H2 v g2 r1 => ⟨⟨a, r1⟩, hb F2 H2 (g.trans g2) _ fun F3 H3 w g3 ⟨b, vs, e, e2, rr⟩ => by
    have ev := rps_flat rr
    subst ev
    subst e
    exact ⟨a, b, ys, r1, rfl, .inl (SqL.of (g3.sub b _ e2)), hl, q F3 H3 _ (g2.trans g3) rfl⟩⟩
theorem join_mK {X : Cx} (K : Fg) (h : X.K = K := by rfl) : MtR X "str.join" (rJoin K) := h ▸ mt_join
/-- list(range(n)) -/
theorem tl_listRg {n : Int} (h : Tv K ta σ H H n) (h0 : -(2 ^ 62) ≤ n) (hn : n ≤ 100000) : TvL K (tLstRg (tRg1 ta)) σ F H (rng 0 n.toNat) := fun F1 H1 g Q q =>
  h H1 H1 (Gr.whole g.keep) _ fun F2 H2 v g2 r => ⟨n, r, ⟨by omega, by omega, by omega, by omega, by omega⟩, fun p hp => q F1 _ p ((Gr.up g.sub g2.keep).trans (Gr.put (g.sub.trans g2.keep) hp)) (none_of g2.keep hp)
    ⟨none_of (g.sub.trans g2.keep) hp, _, upd_same, by
      have e : rgV 0 n = (rng 0 n.toNat).map (Flat.val (α := Int)) := by
        unfold rgV rng
        rw [List.map_map, Int.sub_zero]
        rfl
      rw [e]
      exact rps_of _⟩⟩
/-- sorted, ints -/
theorem sortedK {X : Cx} (K : Fg) (h : X.K = K := by rfl) : CallR X (.builtin "sorted") (rSortedI K) := h ▸ cr_sortedI
theorem cl_sorted {xs : List Int} : CbL K (rSortedI K) (fun F vs => exists v r, vs = v :: r ∧ rp K F xs v ∧ r = []) (sortI xs) := fun F H vs Q s ⟨v, r, e, ⟨a, ws, e2, e3, r2⟩, e4⟩ q => by
  subst e e2 e4
  have ev := rps_flat r2
  subst ev
  refine ⟨a, xs, rfl, SqL.of (s a _ e3), fun ns' p hp hs hn => ?_⟩
  rw [sorted_is hp hs]
  exact q F _ p (Gr.put s hn) hn ⟨none_of s hn, _, upd_same, rps_of _⟩
theorem tl_sortedM {xs : List Int} (e : σ[i]? = some (some (.ref p))) (m : MutL K F H p xs) : TvL K (tCB (rSortedI K) (tCons (tVar i) tNil)) σ F H (sortI xs) := fun F1 H1 g Q q => by
  obtain ⟨f, vs, e1, r⟩ := m.go g
  have ev := rps_flat r
  subst ev
  refine ⟨.ref p, e, p, xs, rfl, SqL.of e1, fun ns' l hp hs hn => ?_⟩
  rw [sorted_is hp hs]
  exact q F1 _ l (Gr.put g.sub hn) hn ⟨none_of g.sub hn, _, upd_same, rps_of _⟩
/-- xs.append(ys.pop(n)) -/
def popI {α : Type} (xs : List α) (n : Int) : List α := xs.eraseIdx (if n < 0 then n + xs.length else n).toNat
theorem popI_len {α : Type} {xs : List α} {n : Int} (h : InB xs.length n) : (popI xs n).length + 1 = xs.length := by
  obtain ⟨h1, h2⟩ := h
  unfold popI
  rw [List.length_eraseIdx_of_lt]
  · omega
  · split <;> omega
theorem rps_erase [Rep α] : forall (n : Nat) {xs : List α} {vs : List V}, Rps K F xs vs -> Rps K F (xs.eraseIdx n) (vs.eraseIdx n)
  | _, _, _, .nil => .nil
  | 0, _, _, .cons _ t => t
  | n + 1, _, _, .cons r t => .cons r (rps_erase n t)
theorem pop_at {n : Int} {m : Nat} (h : InB m n) : seqIndex? n m = some (if n < 0 then n + m else n).toNat := by
  obtain ⟨h1, h2⟩ := h
  unfold seqIndex?
  by_cases h0 : n < 0
  · simp only [h0, if_true]
    rw [decide_eq_true (show 0 ≤ n + (m : Int) by omega), decide_eq_true (show n + (m : Int) < m by omega)]
    rfl
  · simp only [h0, if_false]
    rw [decide_eq_true (show 0 ≤ n by omega), decide_eq_true (show n < (m : Int) by omega)]
    rfl
theorem ix_pop {α : Type} [Inhabited α] {xs : List α} {n : Int} (h : InB xs.length n) : xs[(if n < 0 then n + xs.length else n).toNat]? = some (ixI xs n) := by
  have h1 := atI_ix h
  obtain ⟨h2, h3⟩ := h
  unfold atI ixN at h1
  by_cases h0 : 0 ≤ n
  · rw [if_pos h0, if_pos h3] at h1
    rw [if_neg (by omega)]
    exact h1
  · rw [if_neg h0, if_pos h2] at h1
    rw [if_pos (by omega)]
    exact h1
theorem q_appPop [Rep α] [Inhabited α] {β : Type} {P : β -> Prop} {xs ys : List α} {n : Int} {k : List α -> List α -> β} (hP : P (lt2 (xs ++ [ixI ys n], popI ys n) k)) (s : Same F H) (m : MutL K F H p xs) (m2 : MutL K F H q ys) (hpq : q ≠ p)
    (hi : σ[i]? = some (some (.ref p))) (hj : σ[j]? = some (some (.ref q))) (hn : Tv K te σ H H n) (hl : xs.length < 100000) (h1 : InB ys.length n) (h2 : ys.length ≤ 100000)
    (nxt : forall zs ws F1 H1 H2, zs = xs ++ [ixI ys n] -> ws = popI ys n -> Md q F H F1 H1 -> Md p F1 H1 F1 H2 -> MutL K F1 H2 p zs -> MutL K F1 H2 q ws -> P (k zs ws) -> u D σ H2) :
    tSeq (tDrop (tBM K "list" rAppend (tVar i) (tCons (tBM K "list" rPopAt (tVar j) (tCons te tNil)) tNil))) u D σ H := by
  obtain ⟨f, vs, e, r⟩ := id m
  obtain ⟨f', vs', e', r'⟩ := id m2
  refine ⟨.ref p, hi, .inl ⟨rfl, vs, SqL.of e⟩, .ref q, hj, .inl ⟨rfl, vs', SqL.of e'⟩, hn H H (Gr.self H) _ fun F2 H2 v g rv => ?_⟩
  have g' : Gr F H F H2 := Gr.up s g.keep
  obtain ⟨f3, vs3, e3, r3⟩ := id (m2.go g')
  obtain ⟨y, hy, ry⟩ := rps_at r3 (ix_pop h1)
  have hm1 : Md q F H F (upd H2 q (.lst (vs3.eraseIdx (if n < 0 then n + (ys.length : Int) else n).toNat))) := Md.of m2 g'
  obtain ⟨f4, vs4, e4, r4⟩ := id (m.md (fun z => hpq z.symm) hm1)
  have hb := h1
  obtain ⟨hb1, hb2⟩ := hb
  refine ⟨q, vs3, n, _, y, rfl, by rw [show v = V.int n from rv], e3, by omega, by omega, by rw [wk_len r3]; exact pop_at h1, hy, p, vs4, y, rfl, rfl, e4, by rw [wk_len r4]; exact szl hl, ?_⟩
  have hm2 : Md p F (upd H2 q (.lst (vs3.eraseIdx (if n < 0 then n + (ys.length : Int) else n).toNat))) F (upd (upd H2 q (.lst (vs3.eraseIdx (if n < 0 then n + (ys.length : Int) else n).toNat))) p (.lst (vs4 ++ [y]))) :=
    Md.of (m.md (fun z => hpq z.symm) hm1) (Gr.refl hm1.sub)
  refine nxt _ _ F _ _ rfl rfl hm1 hm2 ⟨f4, _, upd_same, rps_app r4 (.cons ry .nil)⟩ ⟨f3, _, by rw [upd_ne hpq]; exact upd_same, rps_erase _ r3⟩ ?_
  rw [lt2_eq] at hP
  exact hP
/-! ### lengths, codes -/
theorem strI_len {n : Int} (h : n.natAbs.log2 < 1920) : (strI n).length ≤ 1921 := int_text_len_1921 h
theorem ok_char (d : Char) : d.toNat < 0x110000 := by
  have h := d.valid
  unfold UInt32.isValidChar Nat.isValidChar at h
  show d.val.toNat < _
  omega
theorem ok_str (s : String) : PyData.strOk (Str.ofString s) = true := by
  rw [Str.ofString_eq_toList]
  unfold PyData.strOk
  rw [← Array.all_toList, List.all_eq_true]
  intro c hc
  obtain ⟨d, _, rfl⟩ := List.mem_map.mp hc
  exact decide_eq_true (ok_char d)
theorem ok_app {a b : PySem.Str} (h1 : PyData.strOk a = true) (h2 : PyData.strOk b = true) : PyData.strOk (a ++ b) = true := by
  obtain ⟨⟨a⟩⟩ := a
  obtain ⟨⟨b⟩⟩ := b
  show (Array.all (⟨a⟩ ++ ⟨b⟩) _) = true
  rw [Array.all_append]
  exact Bool.and_eq_true_iff.mpr ⟨h1, h2⟩
/-! ### a text's signs -/
theorem signs_at {z : PySem.Str} {i c : Nat} (h : z.cps[i]? = some c) : (signs z)[i]? = some ⟨#[c]⟩ := by
  unfold signs
  rw [List.getElem?_map, Array.getElem?_toList, h]
  rfl
theorem signs_len (z : PySem.Str) : (signs z).length = z.cps.size := by simp [signs]
theorem wk_str {z : PySem.Str} : Wk K (Its z) F ST (signs z) where
  go := fun i G H s s1 _ h => by rw [signs_len] at h; exact h
  stop := fun i G H s s1 _ h => by rw [signs_len] at h; exact h
  yld := fun i H F3 v H' s s3 _ y h => by
    obtain ⟨rfl, c, hc, rfl⟩ := y
    exact ⟨F3, Gr.refl s3, fun x hx => by rw [signs_at hc] at hx; cases hx; rfl⟩
theorem it_str {z : PySem.Str} (h : Tv K te σ H H z) : Itr K (iStr te) σ F H ST (signs z) := fun F1 H1 g R q =>
  h H1 H1 (Gr.whole g.keep) _ fun F2 H2 v g2 r => ⟨z, r, q _ F1 H2 (Gr.up g.sub g2.keep) wk_str⟩
/-- x in z, x one sign -/
def inS (x z : PySem.Str) : Bool := decide (ixI x.cps.toList 0 ∈ z.cps.toList)
theorem op2_inS {x z : PySem.Str} (h : x.length = 1) : Op2 K (fun x y H Q => ∃ (c : Nat) (z : PySem.Str), x = .str ⟨#[c]⟩ ∧ y = .str z ∧ Q (.bl (decide (c ∈ z.cps.toList))) H) x z (inS x z) := fun F H v w s r1 r2 Q q => by
  obtain ⟨⟨l⟩⟩ := x
  match l, h with
  | [c], _ => exact ⟨c, z, r1, r2, q F H _ (Gr.refl s) rfl⟩
end
end Rf

/-! ### an error that the clause hands on: tracked behind the suite -/
namespace Rf
open PySem PySem.Spec PyProof.Rows L2
open Rep (rp)
/-- the error at a: of the class cls, its dict d -/
def Cgt (cls : Value) (d : Option Addr) (a : Addr) : HO := .ext fun h => ∃ (oe : Obj) (fl : Array Value), h.get? a = some oe ∧ Zc cls d oe ∧ oe.data = .fields fl
section
variable {X : Cx} {pins : List (Addr × Obj)} {σ : L2.St} {H : Hp} {s : Shared} {a : Addr}
theorem cgt_ok {P : Program} {w : World} {G : Hp} {h : Heap} {cls : Value} {d : Option Addr} {oe : Obj} {fl : Array Value} (e : h.get? a = some oe) (z : Zc cls d oe) (hd : oe.data = .fields fl) : ObjOk P w G h a (Cgt cls d a) :=
  ⟨⟨oe, fl, e, z, hd⟩, ⟨oe, e⟩, fun _ _ ⟨o, v, q, r⟩ k => ⟨o, v, k o q, r⟩⟩
/-- an object that stands already is looked at from now on -/
theorem track {o : HO} (I : Inv X pins σ H s) (hn : H a = none) (h0 : X.s_0.heap.get? a = none) (hL : a ≠ X.env.locals) (hc : ∀ x c, X.env.cells.lookup x = some c → c ≠ a) (hp : ∀ p ∈ X.pn ++ pins, p.1 ≠ a) (ob : ObjOk X.prog X.w (upd H a o) s.heap a o) :
    Inv X pins σ (upd H a o) s := by
  have old : ∀ {b : Addr} {u : HO}, H b = some u → upd H a o b = some u := fun {b u} e => by rw [upd_ne (ne_of_none e hn)]; exact e
  have un : Un X.fs X.ex X.H_0 (upd H a o) X.s_0.heap s.heap :=
    { keep := I.base.keep, slot := I.base.slot, there := I.base.there
      free := fun b u e n x => by
        have : b ≠ a := fun z => by rw [z, h0] at e; cases e
        rw [upd_ne this]
        exact I.base.free b u e n x
      tups := fun b xs e => old (I.base.tups b xs e)
      frzs := fun b u xs e => old (I.base.frzs b u xs e)
      tbls := fun b ps e => let ⟨m, q⟩ := I.base.tbls b ps e; ⟨m, old q⟩ }
  exact
    { ok := I.ok, os := I.os, bare := I.bare, base := un, loc := I.loc, cell := I.cell, len := I.len
      free := by rw [upd_ne (Ne.symm hL)]; exact I.free
      freeC := fun x c e => by rw [upd_ne (hc x c e)]; exact I.freeC x c e
      pin := fun p hm => let ⟨h1, h2, h3⟩ := I.pin p hm; ⟨h1, by rw [upd_ne (hp p hm)]; exact h2, h3⟩
      hok := HOk.laidN I.hok (fun _ _ e => e) hn ob }
/-- what the clause 'except c as n' wishes, the error tracked behind its suite -/
def wTrk (K : Fg) (c : Value) (i : Nat) (ts : Addr → Value → Option Addr → TS) (Wout : WX) (D : Ends) : WX := fun cls d σ H =>
  ∃ b, PySem.W.exmOne K cls c = some b ∧ (b = true → ∀ a, H a = none → ts a cls d { nx := fun σ1 H1 => D.nx (σ1.set i none) (upd H1 a (Cgt cls d a)), rt := fun v H1 => D.rt v (upd H1 a (Cgt cls d a)), bk := fun σ1 H1 => D.bk (σ1.set i none) (upd H1 a (Cgt cls d a)), ct := fun σ1 H1 => D.ct (σ1.set i none) (upd H1 a (Cgt cls d a)) } (σ.set i (some (.ref a))) H) ∧
    (b = false → Wout cls d σ H)
end
section
variable {X : Cx} {pins : List (Addr × Obj)} {σ : L2.St} {H : Hp} {sI s : Shared} {a : Addr} {B : Heap} {cls c : Value} {d : Option Addr} {x n : PySem.Str} {i : Nat} {body suite : List Stmt} {b₀ : Stmt} {np pos pos' : Pos} {tb : WX → TS} {ts : Addr → Value → Option Addr → TS} {Wout : WX}
/-- an error in our air was not there at the entry, is no pin and no frame -/
theorem air_new (J : Inv X pins σ H sI) (hex : X.ex = []) (nb : ∀ b o, sI.heap.get? b = some o → b ∉ frs X.stack → B.get? b = some o) (nB : B.get? a = none) (nf : a ∉ frs X.stack) (nL : a ≠ X.env.locals) (nF : a ∉ X.fs) :
    X.s_0.heap.get? a = none ∧ ∀ p ∈ X.pn ++ pins, p.1 ≠ a := by
  constructor
  · cases e : X.s_0.heap.get? a with
    | none => rfl
    | some o =>
      obtain ⟨o', e'⟩ := J.base.there a o e (by rw [hex]; exact fun z => nomatch z)
      have := nb a o' e' nf
      rw [nB] at this; cases this
  · intro p hm z
    obtain ⟨e, _, h1, h2, _⟩ := J.pin p hm
    have := nb p.1 p.2 e (by rw [z]; exact nf)
    rw [z, nB] at this; cases this
theorem no_frame {h : Heap} {o : Obj} {fl : Array Value} {l : List Env} (ff : h.FunFrames B l) (e : h.get? a = some o) (hd : o.data = .fields fl) : a ∉ frs l := fun hm => by
  obtain ⟨_, o', e', hn⟩ := ff.mem hm
  rw [e] at e'; cases e'
  exact hn _ hd
/-- behind the suite: the name gone, the error tracked -/
theorem suite_end {oe : Obj} {fl : Array Value} {σ6 : L2.St} {H6 : Hp} {s6 : Shared} {Q : Unit → Shared → Prop} {M : Model} {A : Around} {E : Value → Shared → Prop} (S : Inv (X.suite a ((a, oe) :: (X.pn ++ pins))) [] σ6 H6 s6) (ok : X.Ok) (z : Zc cls d oe) (hd : oe.data = .fields fl)
    (h0 : X.s_0.heap.get? a = none) (hL : a ≠ X.env.locals) (hp : ∀ p ∈ X.pn ++ pins, p.1 ≠ a) (hN : X.N.Nodup) (hi : X.N[i]? = some n) (hln : X.env.kindOf n = some .local)
    (k : ∀ s7, Inv X pins (σ6.set i none) (upd H6 a (Cgt cls d a)) s7 → Q () s7) : wpAny M A (do bindName X.env n .none; unbindBehindTheSuite X.env n pos) Q E s6 := by
  obtain ⟨he, hn, _, _, hcl⟩ := S.pin (a, oe) (List.mem_append_left _ (List.mem_cons_self ..))
  have U := S.unsuite ok
  refine gone_ok (track (o := Cgt cls d a) U hn h0 hL (fun y c e z2 => ?_) hp (cgt_ok he z hd)) hN hi hln k
  obtain ⟨v, q⟩ := U.cell y c e
  rw [z2] at q
  obtain ⟨o, e1, e2⟩ := q
  rw [he] at e1; cases e1
  exact hcl _ e2
/-- the clause takes it -/
theorem clause_takes (hs : X.stack = X.env :: X.outer) (hf : X.env.frame = some X.env.locals) (hN : X.N.Nodup) (hi : X.N[i]? = some n) (hln : X.env.kindOf n = some .local) (hc : Names X x c) (tk : Takes X Wout) (hex : X.ex = [])
    (hsu : ∀ (a : Addr) (oe : Obj) (cls : Value) (d : Option Addr) (pn : List (Addr × Obj)), Zc cls d oe → (∃ vs, oe.data = .fields vs) → PSs (X.suite a ((a, oe) :: pn)) (b₀ :: suite) (ts a cls d))
    {D : Ends} (ok : X.Ok) {u : Value} (xx : XE (X.tr (X.pn ++ pins) fun _ _ => True) (wTrk X.K c i ts Wout D) u s) :
    wpAny (model X.prog X.w) X.A (noteFrame u X.env) (fun _ s₂ => wpAny (model X.prog X.w) X.A (setFlight u none) (fun _ s₃ =>
      wpAny (model X.prog X.w) X.A (handleBy u X.env [.ExceptHandler (some (.Name x np)) (some n) (b₀ :: suite) pos']) (SP X pins D) X.xe s₃) X.xe s₂) X.xe s := by
  have hfr : X.A.frames = some (X.env :: X.outer) := by rw [ok.frames, hs]
  obtain ⟨a, B, sI, pins1, σ1, H1, cls, d, rfl, J0, nb, up, sky, na, os, ag, b, hb, yes, no⟩ := xx
  have J : Inv X pins σ1 H1 sI := J0.ofTry ok
  refine Sky.land Zc.steady hfr hf (by rw [← hs]; exact sky) fun h3 fl3 up3 => ?_
  have L3 : Inv X pins σ1 H1 { s with heap := h3 } := J.landed nb fl3.1 (up.trans up3) os ag
  obtain ⟨o3, v3, e3, z3, d3⟩ := fl3.there
  have nfr : a ∉ frs (X.env :: X.outer) := no_frame fl3.2.2.1 e3 d3
  have nL : a ≠ X.env.locals := fun z => nfr (List.mem_filterMap.mpr ⟨X.env, List.mem_cons_self, by rw [hf, z]⟩)
  have nF : a ∉ X.fs := fun hm => let ⟨e, he, q⟩ := List.mem_filterMap.mp hm; nfr (List.mem_filterMap.mpr ⟨e, List.mem_cons_of_mem _ he, q⟩)
  obtain ⟨n0, np1⟩ := air_new J hex nb fl3.2.1 (by rw [hs]; exact nfr) nL nF
  have T3 := L3.suite e3 d3 na nL nF
  refine wpAny_handleBy_cons (codeAny_handlers_test ?_) (by intro q; cases q)
  have lt3 : PySem.W.Looks (model X.prog X.w) h3 (typeOf (.ref a)) cls := fun _ _ _ _ k q => wpAny_typeOf_ref (k _ _ e3) (by rw [z3.1]; exact q)
  have m3 := PySem.W.exm_one (M := model X.prog X.w) L3.kIn lt3 hb
  have nm : ∀ {Q : Value → Shared → Prop} {E : Value → Shared → Prop}, Q c { s with heap := h3 } → wpAny (model X.prog X.w) (X.A.mark (some (.ref a))) (eval (.Name x np) X.env) Q E { s with heap := h3 } := fun q => by
    obtain ⟨g1, g2, g3 | ⟨g3, g4, g5⟩⟩ := hc
    · exact ld_glob (X := X.suite a ((a, o3) :: (X.pn ++ pins))) T3 g1 g3 q g2
    · exact ld_blt (X := X.suite a ((a, o3) :: (X.pn ++ pins))) T3 g1 g3 g4 q g5 g2
  refine nm (m3.here ?_)
  cases b with
  | true =>
    refine codeAny_handlers_suite_as (HandSPX.lands_againZ fl3 fun h4 fl4 up4 => ?_)
    have L4 : Inv X pins σ1 H1 { s with heap := h4 } := J.landed nb fl4.1 ((up.trans up3).trans up4) os ag
    obtain ⟨o4, v4, e4, z4, d4⟩ := fl4.there
    refine store_ok (X := X.suite a ((a, o4) :: (X.pn ++ pins))) (v := .ref a) (L4.suite e4 d4 na nL nF) hN hi (.inl hln) rfl (fun s5 T5 => ?_) (.inr hln)
    refine wpAny_mono ((hsu a o4 cls d (X.pn ++ pins) z4 ⟨_, d4⟩).run [] s5 _ H1 _ T5 (yes rfl a na)) (fun f s6 sp => ?_) fun _ _ z => z.elim
    cases f with
    | next =>
      obtain ⟨_, _, T6, q⟩ := sp
      exact suite_end T6 ok z4 d4 n0 nL np1 hN hi hln fun s7 T7 => ⟨_, _, T7, q⟩
    | brk =>
      obtain ⟨_, _, T6, q⟩ := sp
      exact suite_end T6 ok z4 d4 n0 nL np1 hN hi hln fun s7 T7 => ⟨_, _, T7, q⟩
    | cont =>
      obtain ⟨_, _, T6, q⟩ := sp
      exact suite_end T6 ok z4 d4 n0 nL np1 hN hi hln fun s7 T7 => ⟨_, _, T7, q⟩
    | ret w =>
      obtain ⟨_, _, _, T6, r6, q⟩ := sp
      exact suite_end T6 ok z4 d4 n0 nL np1 hN hi hln fun s7 T7 => ⟨_, _, _, T7, r6, q⟩
  | false =>
    show wpAny _ X.A (handleBy (.ref a) X.env []) _ _ _
    refine wpAny_handleBy_nil ?_
    obtain ⟨_, _, _, oe, fv, T, oT, tsx, he, hz, hd, h1, hr⟩ := id fl3
    unfold PySem.passOn
    refine wpAny_bind (wpAny_field he hd h1 ?_)
    rw [if_neg (by simp)]
    have goes : wpAny (model X.prog X.w) X.A (setFlight (.ref a) X.env.frame) (fun _ s4 => wpAny (model X.prog X.w) X.A (throw (.ref a) : Sem Flow) (SP X pins D) X.xe s4) X.xe { s with heap := h3 } := by
      rw [hf]
      exact HandSPX.setFlight_upZ fl3 fun h4 held up4 => wpAny_throw (tk _ _ ⟨a, B, sI, pins, σ1, H1, cls, d, rfl, J, nb, (up.trans up3).trans up4, .inr (.inr (by rw [hs]; exact held)), na, os, ag, no rfl⟩)
    first
      | exact wpAny_bind (wpAny_pure (wpAny_bind goes))
      | exact wpAny_bind goes
/-- try: body / except x as n: suite, the error tracked behind it -/
theorem ps_tryT (hs : X.stack = X.env :: X.outer) (hf : X.env.frame = some X.env.locals) (hN : X.N.Nodup) (hi : X.N[i]? = some n) (hln : X.env.kindOf n = some .local) (hc : Names X x c) (tk : Takes X Wout) (hex : X.ex = [])
    (hb : ∀ (W : WX) (pn : List (Addr × Obj)) (xe : Value → Shared → Prop), Takes (X.tr pn xe) W → PassesOwn (model X.prog X.w) X.A X.env xe → PSs (X.tr pn xe) body (tb W))
    (hsu : ∀ (a : Addr) (oe : Obj) (cls : Value) (d : Option Addr) (pn : List (Addr × Obj)), Zc cls d oe → (∃ vs, oe.data = .fields vs) → PSs (X.suite a ((a, oe) :: pn)) (b₀ :: suite) (ts a cls d)) :
    PS X (.Try body [.ExceptHandler (some (.Name x np)) (some n) (b₀ :: suite) pos'] [] [] pos) (fun D σ H => tb (wTrk X.K c i ts Wout D) D σ H) := by
  refine ⟨fun pins s σ H D I h => wpAny_Try_except ?_⟩
  have ok := I.ok
  have xe : Value → Shared → Prop := X.xe
  refine wpAny_mono ((hb (wTrk X.K c i ts Wout D) (X.pn ++ pins) (fun e s₁ => wpAny (model X.prog X.w) X.A (noteFrame e X.env) (fun _ s₂ => wpAny (model X.prog X.w) X.A (setFlight e none) (fun _ s₃ =>
    wpAny (model X.prog X.w) X.A (handleBy e X.env [.ExceptHandler (some (.Name x np)) (some n) (b₀ :: suite) pos']) (SP X pins D) X.xe s₃) X.xe s₂) X.xe s₁) (fun u s' xx => clause_takes hs hf hN hi hln hc tk hex hsu ok ?_) PassesOwn.looking).run [] s σ H D (I.toTry _) h) (fun f s1 sp => ?_) fun _ _ q => q
  · obtain ⟨a, B, sI, p1, σ1, H1, cls, d, r1, J0, rest⟩ := xx
    exact ⟨a, B, sI, p1, σ1, H1, cls, d, r1, ⟨J0.ok.ofTry.toTry _ _, J0.os, J0.bare, J0.base, J0.loc, J0.cell, J0.free, J0.freeC, J0.pin, J0.hok, J0.len⟩, rest⟩
  · cases f with
    | next => exact let ⟨σ1, H1, J1, q⟩ := sp; wpAny_execs_nil ⟨σ1, H1, J1.ofTry ok, q⟩
    | brk => exact let ⟨σ1, H1, J1, q⟩ := sp; ⟨σ1, H1, J1.ofTry ok, q⟩
    | cont => exact let ⟨σ1, H1, J1, q⟩ := sp; ⟨σ1, H1, J1.ofTry ok, q⟩
    | ret w => exact let ⟨v, σ1, H1, J1, r, q⟩ := sp; ⟨v, σ1, H1, J1.ofTry ok, r, q⟩
/-- .. the reading by its name -/
def tTryT (K : Fg) (c : Value) (i j : Nat) (tb : WX → TS) : TS := fun D σ H => tb (wTrk K c i (fun _ _ _ => tAsg (tVar i) (gName j)) (fun _ _ _ _ => False) D) D σ H
theorem ps_tryK (K : Fg) {j : Nat} (hK : X.K = K) (hs : X.stack = X.env :: X.outer) (hf : X.env.frame = some X.env.locals) (hN : X.N.Nodup) (hi : X.N[i]? = some n) (hln : X.env.kindOf n = some .local) (hc : Names X x c) (tk : Takes X (fun _ _ _ _ => False)) (hex : X.ex = [])
    (hb : ∀ (W : WX) (pn : List (Addr × Obj)) (xe : Value → Shared → Prop), Takes (X.tr pn xe) W → PassesOwn (model X.prog X.w) X.A X.env xe → PSs (X.tr pn xe) body (tb W))
    (hsu : ∀ (a : Addr) (oe : Obj) (cls : Value) (d : Option Addr) (pn : List (Addr × Obj)), Zc cls d oe → (∃ vs, oe.data = .fields vs) → PSs (X.suite a ((a, oe) :: pn)) (b₀ :: suite) (tAsg (tVar i) (gName j))) :
    PS X (.Try body [.ExceptHandler (some (.Name x np)) (some n) (b₀ :: suite) pos'] [] [] pos) (tTryT K c i j tb) := by
  subst hK
  exact ps_tryT (ts := fun _ _ _ => tAsg (tVar i) (gName j)) (Wout := fun _ _ _ _ => False) hs hf hN hi hln hc tk hex hb hsu
end
end Rf

/-! ### errors: mirrors in Except -/
namespace Rf
open PySem PySem.Spec PyProof.Rows L2
open Rep (rp)
/-- an error: its class's name, its fields -/
structure Exn where
  c : PySem.Str
  fs : List (PySem.Str × V)
instance : Inhabited Exn := ⟨⟨default, []⟩⟩
/-- the class and the dict of an error that stands for e -/
def XOk (K : Fg) (F : Hp) (e : Exn) (cls : Value) (d : Option Addr) : Prop := cls = .ref (He.ga K e.c) ∧ ((e.fs = [] ∧ d = none) ∨ ∃ dd, d = some dd ∧ F dd = some (.xd e.fs) ∧ e.fs ≠ [])
theorem XOk.le {K : Fg} {F F' : Hp} {e : Exn} {cls : Value} {d : Option Addr} (l : Le F F') (h : XOk K F e cls d) : XOk K F' e cls d :=
  ⟨h.1, h.2.imp id fun ⟨dd, e1, e2, e3⟩ => ⟨dd, e1, l.at_ e2 (fun _ z => nomatch z) (fun _ _ z => nomatch z), e3⟩⟩
instance : Rep Exn := ⟨fun K F e v => exists a cls d, v = .ref a ∧ F a = some (Cgt cls d a) ∧ XOk K F e cls d, fun l ⟨a, cls, d, h1, h2, h3⟩ => ⟨a, cls, d, h1, l.ext h2, h3.le l⟩⟩
instance : Nn Exn := ⟨fun ⟨_, _, _, e, _⟩ z => by rw [e] at z; cases z⟩
theorem nf_ {T : TS} {D : Ends} {σ σ' : St} {H : Hp} (e : σ = σ') (h : T D σ' H) : T D σ H := e ▸ h
@[irreducible] def lx {α β : Type} (r : Except Exn α) (k : α -> Except Exn β) : Except Exn β := match r with
  | .ok y => k y
  | .error e => .error e
theorem lx_ok {α β : Type} (y : α) (k : α -> Except Exn β) : lx (.ok y) k = k y := by unfold lx; rfl
theorem lx_er {α β : Type} (e : Exn) (k : α -> Except Exn β) : lx (.error e) k = .error e := by unfold lx; rfl
theorem q_lx {α β : Type} {P : Except Exn β -> Prop} {r : Except Exn α} {k : α -> Except Exn β} {G : Prop} (hP : P (lx r k)) (ok : forall y, r = .ok y -> P (k y) -> G) (er : forall e, r = .error e -> P (.error e) -> G) : G := by
  cases h : r with
  | ok y => rw [h, lx_ok] at hP; exact ok y h hP
  | error e => rw [h, lx_er] at hP; exact er e h hP
def RetX [Rep β] (K : Fg) (Z : Addr -> Prop) (F0 H0 : Hp) (Q : VK) (E : XK) : Except Exn β -> Prop
  | .ok y => Ret K Z F0 H0 Q y
  | .error e => forall F' H' cls d, GrZ Z F0 H0 F' H' -> XOk K F' e cls d -> E cls d H'
def RetXL [Rep β] (K : Fg) (Z : Addr -> Prop) (F0 H0 : Hp) (Q : VK) (E : XK) : Except Exn (List β) -> Prop
  | .ok y => RetL K Z F0 H0 Q y
  | .error e => forall F' H' cls d, GrZ Z F0 H0 F' H' -> XOk K F' e cls d -> E cls d H'
theorem retx_ok [Rep β] {K : Fg} {Z : Addr -> Prop} {F0 H0 : Hp} {Q : VK} {E : XK} {y : β} (h : RetX K Z F0 H0 Q E (.ok y)) : Ret K Z F0 H0 Q y := h
theorem retxL_ok [Rep β] {K : Fg} {Z : Addr -> Prop} {F0 H0 : Hp} {Q : VK} {E : XK} {y : List β} (h : RetXL K Z F0 H0 Q E (.ok y)) : RetL K Z F0 H0 Q y := h
/-- what the top says of an error's class without an __init__ of its own -/
structure Xc (K : Fg) (mg : PySem.Str → Option Value) (c : PySem.Str) : Prop where
  q : PySem.W.excIn K (He.ga K c) He.veBase "ValueError.__new__" = true
  g : mg c = some (.ref (He.ga K c))
  k : PySem.W.keepIn K (.ref (He.ga K c)) = true
  r1 : PySem.W.subIn K (.ref (He.ga K c)) (.type "BaseException") = some true
  r2 : PySem.W.typeIn K (.ref (He.ga K c)) = some (.type "type")
/-- .. of a class in an except clause or in isinstance -/
structure Xg (K : Fg) (mg : PySem.Str → Option Value) (c : PySem.Str) : Prop where
  g : mg c = some (.ref (He.ga K c))
/-- a Bool that tells ExcC -/
def excC (K : Fg) (D : Addr) : Bool := decide (PySem.W.findIn K (.ref D) "__getattribute__" = some (some (.builtin "BaseException.__getattribute__"))) && (decide (PySem.W.findIn K (.ref D) "__getattr__" = some none) && (decide (PySem.W.subIn K (.ref D) (.type "BaseException") = some true) && (PySem.W.hasDictIn K D && (decide (PySem.W.findIn K (.ref D) "__class__" = some (some (.builtin "object.__class__"))) &&
  (decide (PySem.W.specialIn K (.builtin "object.__class__") "__get__" = some (some (.builtin "getset_descriptor.__get__"))) && (decide (PySem.W.takesIn K (.builtin "object.__class__") = some true) && decide (PySem.W.mroIn K D (.type "object") = some true)))))))
theorem excC_ok {K : Fg} {D : Addr} (h : excC K D = true) : ExcC K D := by
  unfold excC at h
  simp only [Bool.and_eq_true, decide_eq_true_eq] at h
  obtain ⟨h1, h2, h3, h4, h5, h6, h7, h8⟩ := h
  exact ⟨h1, h2, h3, h4, h5, h6, h7, h8⟩
section
variable {K : Fg} {Z : Addr -> Prop} {σ : St} {F H F0 H0 F1 H1 F2 H2 : Hp} {te ta tb tc : TE} {tt : TT} {t1 t2 u : TS} {D : Ends} {i j l : Nat} {p q : Addr} {W : WX} {e : Exn}
/-- a promise that may end in an error -/
def SpVX [Rep β] (K : Fg) (sp : Sp) (P : Hp -> List V -> Prop) (r : Except Exn β) : Prop := forall F H vs Q E, Same F H -> P F vs -> (forall y, r = .ok y -> forall F' H' v, Gr F H F' H' -> rp K F' y v -> Q v H') -> (forall e, r = .error e -> forall F' H' cls d, Gr F H F' H' -> XOk K F' e cls d -> E cls d H') -> sp vs H Q E
def SpLX [Rep β] (K : Fg) (sp : Sp) (P : Hp -> List V -> Prop) (r : Except Exn (List β)) : Prop := forall F H vs Q E, Same F H -> P F vs -> (forall y, r = .ok y -> forall F' H' p, Gr F H F' H' -> H p = none -> MutL K F' H' p y -> Q (.ref p) H') -> (forall e, r = .error e -> forall F' H' cls d, Gr F H F' H' -> XOk K F' e cls d -> E cls d H') -> sp vs H Q E
/-- a reading that ends in the error e -/
def TvE (K : Fg) (te : TE) (σ : St) (F H : Hp) (e : Exn) (W : WX) : Prop := forall F1 H1, Gr F H F1 H1 -> (forall F2 H2 cls d, Gr F1 H1 F2 H2 -> XOk K F2 e cls d -> W cls d σ H2) -> forall Q, te σ H1 Q
theorem tv_callX [Rep β] {y : β} {r : Except Exn β} {t : TA} {sp : Sp} {E : St -> XK} {P : Hp -> List V -> Prop} (h : TvA t σ F H P) (hs : SpVX K sp P r) (hr : r = .ok y) : Tv K (tCallS sp E t) σ F H y := fun F1 H1 g Q q =>
  h F1 H1 g _ fun F2 H2 vs g2 p => hs F2 H2 vs Q _ g2.sub p (fun z hz F3 H3 v g3 rv => by rw [hr] at hz; cases hz; exact q F3 H3 v (g2.trans g3) rv) fun e he => by rw [hr] at he; cases he
theorem tl_callX [Rep β] {ys : List β} {r : Except Exn (List β)} {t : TA} {sp : Sp} {E : St -> XK} {P : Hp -> List V -> Prop} (h : TvA t σ F H P) (hs : SpLX K sp P r) (hr : r = .ok ys) : TvL K (tCallS sp E t) σ F H ys := fun F1 H1 g Q q =>
  h F1 H1 g _ fun F2 H2 vs g2 p => hs F2 H2 vs Q _ g2.sub p (fun z hz F3 H3 v g3 n m => by rw [hr] at hz; cases hz; exact q F3 H3 v (g2.trans g3) (none_of g2.keep n) m) fun e he => by rw [hr] at he; cases he
theorem te_call [Rep β] {r : Except Exn β} {t : TA} {sp : Sp} {P : Hp -> List V -> Prop} (h : TvA t σ F H P) (hs : SpVX K sp P r) (hr : r = .error e) : TvE K (tCallS sp (WE W) t) σ F H e W := fun F1 H1 g k Q =>
  h F1 H1 g _ fun F2 H2 vs g2 p => hs F2 H2 vs Q _ g2.sub p (fun z hz => by rw [hr] at hz; cases hz) fun e' he F3 H3 cls d g3 x => by rw [hr] at he; cases he; exact k F3 H3 cls d (g2.trans g3) x
theorem te_callL [Rep β] {r : Except Exn (List β)} {t : TA} {sp : Sp} {P : Hp -> List V -> Prop} (h : TvA t σ F H P) (hs : SpLX K sp P r) (hr : r = .error e) : TvE K (tCallS sp (WE W) t) σ F H e W := fun F1 H1 g k Q =>
  h F1 H1 g _ fun F2 H2 vs g2 p => hs F2 H2 vs Q _ g2.sub p (fun z hz => by rw [hr] at hz; cases hz) fun e' he F3 H3 cls d g3 x => by rw [hr] at he; cases he; exact k F3 H3 cls d (g2.trans g3) x
/-- the error goes on outwards -/
theorem te_lc {g : TG} {vs : List Nat} (h : TvE K ta σ F H e W) : TvE K (tLc (iList K ta) g tt te vs) σ F H e W := fun F1 H1 gr k Q => h F1 H1 gr k _
theorem q_setE {g : TG} (s : Same F H) (h : TvE K te σ F H e W) (k : forall F2 H2 cls d, Gr F H F2 H2 -> XOk K F2 e cls d -> W cls d σ H2) : tSeq (tAsg te g) u D σ H := h F H (Gr.refl s) k _
theorem q_dropE (s : Same F H) (h : TvE K te σ F H e W) (k : forall F2 H2 cls d, Gr F H F2 H2 -> XOk K F2 e cls d -> W cls d σ H2) : tSeq (tDrop te) u D σ H := h F H (Gr.refl s) k _
theorem q_retE (s : Same F H) (h : TvE K te σ F H e W) (k : forall F2 H2 cls d, Gr F H F2 H2 -> XOk K F2 e cls d -> W cls d σ H2) : tSeq (tRet te) u D σ H := h F H (Gr.refl s) k _
theorem q_forE {g : TG} {t : TS} (s : Same F H) (h : TvE K te σ F H e W) (k : forall F2 H2 cls d, Gr F H F2 H2 -> XOk K F2 e cls d -> W cls d σ H2) : tSeq (tFor (iList K te) g t) u D σ H := h F H (Gr.refl s) k _
/-- raise C('..'), C without an __init__ of its own -/
theorem q_raise {c : PySem.Str} (s : Same F H) (k : forall F2 H2 cls d, Gr F H F2 H2 -> XOk K F2 ⟨c, []⟩ cls d -> W cls d σ H2) : tSeq (fun _ σ H => (fun _ H Q => Q (.ref (He.ga K c)) none H : St -> Hp -> XK -> Prop) σ H fun cls d H' => W cls d σ H') u D σ H :=
  k F H _ _ (Gr.refl s) ⟨rfl, .inl ⟨rfl, rfl⟩⟩
/-- try: .. except c as n: x = n -/
def tryC {S : Type} (rb : Except Exn S) (s0 : S) : Option Exn × S := match rb with
  | .ok s => (none, s)
  | .error e => (some e, s0)
theorem q_tryC {S β : Type} {P : β -> Prop} {rb : Except Exn S} {s0 : S} {k : Option Exn × S -> β} {c : Value} {tb : WX -> TS} (hP : P (lt (tryC rb s0) k)) (M : Hp -> Hp -> St -> Option Exn × S -> Prop) (ME : Hp -> Hp -> St -> Prop)
    (hx : forall e, rb = .error e -> PySem.W.exmOne K (.ref (He.ga K e.c)) c = some true)
    (hb : forall (N : St -> Hp -> Prop) (W : WX) (P' : Except Exn S -> Prop), P' rb -> (forall s, P' (.ok s) -> forall F2 H2 σ2, Same F F2 -> M F2 H2 σ2 (none, s) -> N σ2 H2) -> (forall e, P' (.error e) -> forall F2 H2 σ2 cls d, Same F F2 -> XOk K F2 e cls d -> ME F2 H2 σ2 -> W cls d σ2 H2) -> tb W { D with nx := N } σ H)
    (hw : forall e F2 H2 σ2 cls d, rb = .error e -> Same F F2 -> XOk K F2 e cls d -> ME F2 H2 σ2 -> i < σ2.length ∧ Same F2 H2 ∧ forall a, H2 a = none -> M (upd F2 a (Cgt cls d a)) (upd H2 a (Cgt cls d a)) (((σ2.set i (some (.ref a))).set j (some (.ref a))).set i none) (some e, s0))
    (nxt : forall st F2 H2 σ2, st = tryC rb s0 -> Same F F2 -> M F2 H2 σ2 st -> P (k st) -> u D σ2 H2) :
    tSeq (tTryT K c i j tb) u D σ H := by
  have hk := p_lt P hP
  refine hb (u D) _ (fun r => r = rb) rfl (fun s hs F2 H2 σ2 q m => ?_) (fun e he F2 H2 σ2 cls d q x m => ?_)
  · have e1 : tryC rb s0 = (none, s) := by rw [← hs]; rfl
    rw [e1] at hk
    exact nxt _ F2 H2 σ2 e1.symm q m hk
  · have e1 : tryC rb s0 = (some e, s0) := by rw [← he]; rfl
    obtain ⟨h1, h2, h3⟩ := hw e F2 H2 σ2 cls d he.symm q x m
    refine ⟨true, by rw [x.1]; exact hx e he.symm, fun _ a ha => ⟨.ref a, List.getElem?_set_self h1, ?_⟩, fun z => nomatch z⟩
    rw [e1] at hk
    exact nxt _ _ _ _ e1.symm (q.trans (same_new (none_of h2 ha))) (h3 a ha) hk
end
/-! ### isinstance of an error -/
/-- isinstance(e, c), e a tracked error without a dict -/
def rIsC (K : Fg) : List V -> Hp -> VK -> Prop := fun xs H Q => ∃ (a D : Addr) (c : V) (cv : Value) (b : Bool), xs = [.ref a, c] ∧ H a = some (Cgt (.ref D) none a) ∧ ExcC K D ∧ ClsV c cv ∧ PySem.W.kitOne K (.ref D) cv = some b ∧ Q (.bl b) H
theorem call_isC {X : Cx} (K : Fg) (h : X.K = K := by rfl) : CallR X (.builtin "isinstance") (rIsC K) := by
  subst h
  intro pins s σ H xs us Q I r h
  obtain ⟨a, D, c, cv, b, rfl, ha, C, hc, e, q⟩ := h
  obtain ⟨u1, u2, rfl, r1, r2⟩ := vals2 r
  cases (show u1 = Value.ref a from r1)
  have e2 := hc.eq r2
  subst e2
  obtain ⟨⟨oe, fl, hget, hz, hv⟩, _, _⟩ := (show ObjOk X.prog X.w H s.heap a (Cgt (.ref D) none a) from I.hok a _ ha)
  have J : PySem.W.InstAt s.heap a oe D none := by
    obtain ⟨oc, od, oda, osl⟩ := oe
    obtain ⟨h1, h2⟩ := hz
    dsimp only at h1 h2 hv
    subst h1 h2 hv
    exact ⟨hget, rfl, rfl, trivial⟩
  exact PySem.W.kia_one (PySem.W.handS_kitx_exc C.hg C.hk C.hs C.hd C.ha C.hn C.ht C.hm) I.kIn J e (fun z => nomatch z) fun tk => ⟨.bl b, H, I.kept (t' := tk) fun _ _ z => z, rfl, q⟩
section
variable {K : Fg} {σ : St} {F H : Hp} {ta tb : TE}
theorem tv_isC {e : Exn} {n : PySem.Str} {c : V} {cv : Value} {b : Bool} (h : Tv K ta σ H H e) (he : e = ⟨n, []⟩) (hc : ClsV c cv) (hC : ExcC K (He.ga K n)) (hk : PySem.W.kitOne K (.ref (He.ga K n)) cv = some b) : Tv K (tCB (rIsC K) (tCons ta (tCons (tC c) tNil))) σ H H b := by
  subst he
  exact fun F1 H1 g Q q =>
  h F1 H1 g _ fun F2 H2 v g2 ⟨a, cls, d, e1, e2, e3, e4⟩ => by
    rcases e4 with ⟨_, e4⟩ | ⟨dd, e4, e5, e6⟩
    · subst e1 e3 e4
      exact ⟨a, _, c, cv, b, rfl, g2.sub a _ e2, hC, hc, hk, q F2 H2 _ g2 rfl⟩
    · exact (e6 rfl).elim
end
end Rf

/-! ### values of many kinds; x is True; xs[i] = v; narrowing -/
namespace Rf
open PySem PySem.Spec PyProof.Rows L2
open Rep (rp)
inductive Dy where
  | non | bl (b : Bool) | int (i : Int) | str (z : PySem.Str) | lst (xs : List Int)
  deriving DecidableEq
instance : Inhabited Dy := ⟨.non⟩
instance : Rep Dy := ⟨fun K F x v => match x with
  | .non => v = .non
  | .bl b => v = .bl b
  | .int i => v = .int i
  | .str z => v = .str z
  | .lst xs => rp K F xs v, fun {K F F' x v} l h => by
  cases x with
  | lst xs => exact Rep.mono (x := xs) l h
  | _ => exact h⟩
def Dy.ty : Dy → String
  | .non => "NoneType"
  | .bl _ => "bool"
  | .int _ => "int"
  | .str _ => "str"
  | .lst _ => "list"
/-- isinstance(x, c) -/
def dyIsT (c t : String) : Bool := decide (c = t) || (decide (t = "bool") && decide (c = "int"))
def dyIs (c : String) (x : Dy) : Bool := dyIsT c x.ty
def dI : Dy → Int
  | .int i => i
  | _ => 0
def isI : Dy → Bool
  | .int _ => true
  | _ => false
section
variable {K : Fg} {Z : Addr -> Prop} {σ : St} {F H F0 H0 F1 H1 F2 H2 : Hp} {te ta tb tc to : TE} {tt : TT} {t1 t2 u : TS} {D : Ends} {i j l : Nat} {p q : Addr} {v : V}
theorem tv_dyI {n : Int} (h : Tv K te σ F H n) : Tv K te σ F H (Dy.int n) := fun F1 H1 g Q q => h F1 H1 g Q fun F2 H2 v g2 r => q F2 H2 v g2 r
theorem tv_dyB {b : Bool} (h : Tv K te σ F H b) : Tv K te σ F H (Dy.bl b) := fun F1 H1 g Q q => h F1 H1 g Q fun F2 H2 v g2 r => q F2 H2 v g2 r
theorem tv_dyN {x : Unit} (h : Tv K te σ F H x) : Tv K te σ F H Dy.non := fun F1 H1 g Q q => h F1 H1 g Q fun F2 H2 v g2 r => q F2 H2 v g2 r
theorem tv_dyS {z : PySem.Str} (h : Tv K te σ F H z) : Tv K te σ F H (Dy.str z) := fun F1 H1 g Q q => h F1 H1 g Q fun F2 H2 v g2 r => q F2 H2 v g2 r
theorem tv_dyLs {xs : List Int} (h : Tv K te σ F H xs) : Tv K te σ F H (Dy.lst xs) := fun F1 H1 g Q q => h F1 H1 g Q fun F2 H2 v g2 r => q F2 H2 v g2 r
theorem rps_dy {F : Hp} : forall {xs : List Int} {vs : List V}, Rps K F xs vs -> Rps K F (xs.map Dy.int) vs
  | _, _, .nil => .nil
  | _, _, .cons r t => .cons r (rps_dy t)
theorem rp_dyL {xs : List Int} (h : rp K F xs v) : rp K F (xs.map Dy.int) v := let ⟨a, vs, e, q, r⟩ := h; ⟨a, vs, e, q, rps_dy r⟩
theorem tv_dyL {xs : List Int} (h : Tv K te σ F H xs) : Tv K te σ F H (xs.map Dy.int) := fun F1 H1 g Q q => h F1 H1 g Q fun F2 H2 v g2 r => q F2 H2 v g2 (rp_dyL r)
theorem tl_dyM {xs : List Int} (h : TvL K te σ F H xs) : TvL K te σ F H (xs.map Dy.int) := fun F1 H1 g Q q => h F1 H1 g Q fun F2 H2 p g2 n m => q F2 H2 p g2 n (let ⟨f, vs, e, r⟩ := m; ⟨f, vs, e, rps_dy r⟩)
theorem rp_dI {x : Dy} (hi : isI x = true) (h : rp K F x v) : v = .int (dI x) := by
  cases x with
  | int n => exact h
  | _ => cases hi
theorem tv_dI {x : Dy} (hi : isI x = true) (h : Tv K te σ H H x) : Tv K te σ H H (dI x) := fun F1 H1 g Q q => h F1 H1 g Q fun F2 H2 v g2 r => q F2 H2 v g2 (rp_dI hi r)
theorem dyTy {x : Dy} (h : rp K F x v) (s : Same F H) : TyX K H v (.type x.ty) := by
  cases x with
  | non => exact Typ.is (n := "NoneType") (α := Unit) (x := ()) h s
  | bl b => exact Typ.is (n := "bool") (x := b) h s
  | int n => exact Typ.is (n := "int") (x := n) h s
  | str z => exact Typ.is (n := "str") (x := z) h s
  | lst xs => exact Typ.is (n := "list") (x := xs) h s
theorem tv_isiDy {x : Dy} {c : String} (h : Tv K ta σ H H x) (e : kitB x.ty c = some (dyIs c x)) : Tv K (tCB (rIsi K) (tCons ta (tCons (tC (.ty c)) tNil))) σ H H (dyIs c x) := fun F1 H1 g Q q =>
  h F1 H1 g _ fun F2 H2 v g2 r => ⟨v, .ty c, .type x.ty, .type c, dyIs c x, rfl, .ty c, dyTy r g2.sub, kit_ty e, q F2 H2 _ g2 rfl⟩
theorem kit_dy (c : String) (h : ∀ t ∈ ["NoneType", "bool", "int", "str", "list"], kitB t c = some (dyIsT c t)) (x : Dy) : kitB x.ty c = some (dyIs c x) := by
  refine h x.ty ?_
  cases x <;> simp [Dy.ty]
theorem kit_int (x : Dy) : kitB x.ty "int" = some (dyIs "int" x) := kit_dy "int" (by decide +kernel) x
theorem kit_bool (x : Dy) : kitB x.ty "bool" = some (dyIs "bool" x) := kit_dy "bool" (by decide +kernel) x
theorem kit_str (x : Dy) : kitB x.ty "str" = some (dyIs "str" x) := kit_dy "str" (by decide +kernel) x
theorem kit_list (x : Dy) : kitB x.ty "list" = some (dyIs "list" x) := kit_dy "list" (by decide +kernel) x
theorem dyI_is {x : Dy} (h1 : dyIs "int" x = true) (h2 : dyIs "bool" x = false) : isI x = true := by
  cases x with
  | int n => rfl
  | non => exact absurd (show dyIsT "int" "NoneType" = true from h1) (by decide)
  | bl b => exact absurd (show dyIsT "bool" "bool" = false from h2) (by decide)
  | str z => exact absurd (show dyIsT "int" "str" = true from h1) (by decide)
  | lst xs => exact absurd (show dyIsT "int" "list" = true from h1) (by decide)
/-- x is True, x None or a truth -/
def rIsB (neg : Bool) : R2 := fun x y H Q => ∃ d : Bool, y = .bl d ∧ (x = .non ∨ ∃ c : Bool, x = .bl c) ∧ Q (.bl (if neg then !decide (x = y) else decide (x = y))) H
theorem op_isB {X : Cx} : OpR X (compareOp .Is) (rIsB false) := by
  intro pins s σ H x y v w Q I rx ry h
  obtain ⟨d, rfl, hx, q⟩ := h
  cases ry
  rcases hx with rfl | ⟨c, rfl⟩
  · cases rx
    exact wpAny_pure (fin_bl I q (by cases d <;> rfl))
  · cases rx
    exact is_bool (fin_bl I q (by cases c <;> cases d <;> rfl))
theorem op_notB {X : Cx} : OpR X (compareOp .IsNot) (rIsB true) := by
  intro pins s σ H x y v w Q I rx ry h
  obtain ⟨d, rfl, hx, q⟩ := h
  cases ry
  rcases hx with rfl | ⟨c, rfl⟩
  · cases rx
    exact wpAny_pure (fin_bl I q (by cases d <;> rfl))
  · cases rx
    exact isnot_bool (fin_bl I q (by cases c <;> cases d <;> rfl))
theorem op2_isB {x : Option Bool} {d : Bool} : Op2 K (rIsB false) x d (decide (x = some d)) := fun F H v w s r1 r2 Q q => by
  cases x with
  | none => cases (show v = .non from r1); cases (show w = .bl d from r2); exact ⟨d, rfl, .inl rfl, q F H _ (Gr.refl s) (by cases d <;> rfl)⟩
  | some c => cases (show v = .bl c from r1); cases (show w = .bl d from r2); exact ⟨d, rfl, .inr ⟨c, rfl⟩, q F H _ (Gr.refl s) (by cases c <;> cases d <;> rfl)⟩
theorem op2_notB {x : Option Bool} {d : Bool} : Op2 K (rIsB true) x d (!decide (x = some d)) := fun F H v w s r1 r2 Q q => by
  cases x with
  | none => cases (show v = .non from r1); cases (show w = .bl d from r2); exact ⟨d, rfl, .inl rfl, q F H _ (Gr.refl s) (by cases d <;> rfl)⟩
  | some c => cases (show v = .bl c from r1); cases (show w = .bl d from r2); exact ⟨d, rfl, .inr ⟨c, rfl⟩, q F H _ (Gr.refl s) (by cases c <;> cases d <;> rfl)⟩
/-- xs[n] = y -/
def setI {α : Type} (xs : List α) (n : Int) (y : α) : List α := xs.set (if 0 ≤ n then n else n + xs.length).toNat y
theorem ixN_of {m : Nat} {n : Int} (h : InB m n) : ixN m n = some (if 0 ≤ n then n else n + m).toNat := by
  obtain ⟨h1, h2⟩ := h
  unfold ixN
  by_cases h0 : 0 ≤ n
  · simp only [h0, h2, if_true]
  · simp only [h0, if_false]; rw [if_pos h1]
theorem rps_set [Rep α] {y : α} : forall (n : Nat) {xs : List α} {vs : List V}, Rps K F xs vs -> rp K F y v -> Rps K F (xs.set n y) (vs.set n v)
  | _, _, _, .nil, _ => .nil
  | 0, _, _, .cons _ t, h => .cons h t
  | n + 1, _, _, .cons r t, h => .cons r (rps_set n t h)
theorem q_setIx [Rep α] {β : Type} {P : β -> Prop} {xs : List α} {y : α} {n : Int} {k : List α -> β} (hP : P (lt (setI xs n y) k)) (s : Same F H) (m : MutL K F H p xs) (hi : σ[i]? = some (some (.ref p))) (he : Tv K te σ F H y) (hn : Tv K ta σ H H n) (h1 : InB xs.length n)
    (nxt : forall zs F1 H1, zs = setI xs n y -> Md p F H F1 H1 -> MutL K F1 H1 p zs -> P (k zs) -> u D σ H1) : tSeq (tAsg te (gSub (tVar i) ta rSetL)) u D σ H :=
  he F H (Gr.refl s) _ fun F2 H2 v g rv => ⟨.ref p, hi, hn H2 H2 (Gr.whole g.keep) _ fun F3 H3 w g3 rw' => by
    have g' : Gr F H F2 H3 := g.trans (Gr.up g.sub g3.keep)
    obtain ⟨f3, vs3, e3, r3⟩ := id (m.go g')
    refine ⟨p, vs3, n, _, rfl, by rw [show w = V.int n from rw'], e3, by rw [wk_len r3]; exact ixN_of h1, nxt _ F2 _ rfl (Md.of m g') ⟨f3, _, upd_same, rps_set _ r3 rv⟩ (p_lt P hP)⟩⟩
theorem setI_len {α : Type} (xs : List α) (n : Int) (y : α) : (setI xs n y).length = xs.length := by unfold setI; exact List.length_set ..
/-- the thing that is there -/
def gt {α : Type} [Inhabited α] (x : Option α) : α := x.getD default
theorem gt_some {α : Type} [Inhabited α] {x : Option α} (h : x.isNone = false) : x = some (gt x) := by cases x with | none => cases h | some y => rfl
theorem rp_gt [Rep α] [Inhabited α] {x : Option α} (h : x.isNone = false) (r : rp K F x v) : rp K F (gt x) v := by
  rw [gt_some h] at r
  exact r
theorem rp_eq [Rep α] {x y : α} (e : x = y) (r : rp K F x v) : rp K F y v := e ▸ r
theorem tryC_er {S : Type} {rb : Except Exn S} {s0 : S} {c : Option Exn} {u : S} {n : Exn} (h : (c, u) = tryC rb s0) (er : ∀ e, rb = .error e → e = n) (hc : c.isNone = false) : gt c = n := by
  cases rb with
  | ok y => cases h; cases hc
  | error e => cases h; exact er e rfl
end
end Rf

set_option Elab.async false
set_option linter.all false
set_option maxRecDepth 100000
set_option maxHeartbeats 400000000
namespace Th
open PySem PySem.Spec PyProof.Rows L2 Rf
open Rep (rp)
def top (i : Nat) : Stmt := PySem.Challenge.pw_threeroofs_k73_no_counts.main.body.getD i (.Pass ⟨0, 0, 0, 0⟩)
structure Bs (K : Fg) (mg : PySem.Str → Option Value) : Prop where
  b_int : mg "int" = none
  b_isinstance : mg "isinstance" = none
  b_bool : mg "bool" = none
  b_len : mg "len" = none
  b_range : mg "range" = none
  b_str : mg "str" = none
  b_ValueError : mg "ValueError" = none
  b_list : mg "list" = none
  c_NAMES : ∃ t, mg "NAMES" = some (Value.str "abcde" t)
  x_NoCounts : Xc K mg "NoCounts"
  x_RoofError : Xc K mg "RoofError"
  x_NoThing : Xg K mg "NoThing"
  m_NoCounts_RoofError : PySem.W.exmOne K (.ref (He.ga K "NoCounts")) (.ref (He.ga K "RoofError")) = some true
  y_NoCounts : ExcC K (He.ga K "NoCounts")
  k_NoCounts_NoCounts : PySem.W.kitOne K (.ref (He.ga K "NoCounts")) (.ref (He.ga K "NoCounts")) = some true
  k_NoCounts_ValueError : PySem.W.kitOne K (.ref (He.ga K "NoCounts")) (.type "ValueError") = some true
  k_NoCounts_NoThing : PySem.W.kitOne K (.ref (He.ga K "NoCounts")) (.ref (He.ga K "NoThing")) = some false
def m_is_whole (thing : Dy) : Bool := ((dyIs "int" thing) && (!(dyIs "bool" thing)))
theorem whole_isI {x : Dy} (h : m_is_whole x = true) : isI x = true := by
  unfold m_is_whole at h
  rw [Bool.and_eq_true, Bool.not_eq_true'] at h
  exact dyI_is h.1 h.2
theorem run_anyX {α R : Type} {b : α → Bool} {r : R} : ∀ {xs : List α}, Rf.run (fun (_ : Unit) x => cond (b x) (Fl.rt r) (Fl.nx ())) () xs = cond (xs.any b) (Fl.rt r) (Fl.nx ())
  | [] => rfl
  | x :: xs => by
    simp only [Rf.run, List.any_cons]
    cases b x
    · simp only [cond_false, Bool.false_or]; exact run_anyX
    · rfl
theorem run_none {α R : Type} {b : α → Bool} {r : R} {xs : List α} {P : Prop} (h : (Rf.run (fun (_ : Unit) x => cond (b x) (Fl.rt r) (Fl.nx ())) () xs = .nx () ∧ P) ∨ Rf.run (fun (_ : Unit) x => cond (b x) (Fl.rt r) (Fl.nx ())) () xs = .bk ()) : ∀ x ∈ xs, b x = false := by
  rw [run_anyX] at h
  cases e : xs.any b with
  | false => intro x hx; have := List.any_eq_false.mp e x hx; simpa using this
  | true => rw [e] at h; rcases h with ⟨h, _⟩ | h <;> cases h
theorem whole_one {x : Dy} (h : ((!(m_is_whole x)) || (decide ((dI x) < (1 : Int)))) = false) : isI x = true ∧ 1 ≤ dI x := by
  rw [Bool.or_eq_false_iff, Bool.not_eq_false', decide_eq_false_iff_not] at h
  exact ⟨whole_isI h.1, by omega⟩
abbrev s_is_whole : Stmt := top 5
def sp_is_whole (K : Fg) : Sp := fun vs H Q E => ∃ (F : Hp) (thing : Dy) (w0 : V), vs = [w0] ∧ Same F H ∧ rp K F thing w0 ∧ Ret K Z0 F H Q (m_is_whole thing)
theorem sv_is_whole {K : Fg} {thing : Dy} : SpV K (sp_is_whole K) (fun (F : Hp) (vs : List V) => ∃ v r, vs = v :: r ∧ rp K F thing v ∧ (fun (_ : Hp) (vs : List V) => vs = []) F r) (m_is_whole thing) := by
  intro F H vs Q E s h hQ
  obtain ⟨v0, r0, e0, h0, h⟩ := h
  subst h
  subst e0
  exact ⟨F, thing, v0, rfl, s, h0, fun F' H' p g r => hQ F' H' p g.gr r⟩
theorem sc_is_whole : FnScope ["thing"] ["thing"] (defScope s_is_whole) := ⟨rfl, rfl, rfl, by decide +kernel, rfl, by decide +kernel, by decide +kernel⟩
theorem ok_is_whole {P : Program} {w : World} {K : Fg} {mg : PySem.Str → Option Value} {base : Heap} (B : Bs K mg) {f : Addr} {fd : FuncData} (F : FnP K "is_whole" s_is_whole f fd) : FnOk P w K mg base CX0 1 f fd ["thing"] (sp_is_whole K) := by
  have nd : (["thing"] : List PySem.Str).Nodup := sc_is_whole.nd
  refine F.ok sc_is_whole (fun vs H Q E h => ?_) (fun cdv A outer s H0 vs Q E hr h => ?_)
  · obtain ⟨F0, thing, vp_0, rfl, s, hp_0, hP⟩ := h
    rfl
  · obtain ⟨F0, thing, vp_0, rfl, s, hp_0, hP⟩ := h
    have g : GrZ Z0 F0 H0 F0 H0 := GrZ.refl s
    refine ⟨_, PSs.nox (by exact (pss_cons (ps_ret (pe_and (pe_callB (isiK K) (by rfl) B.b_isinstance (by decide +kernel) (pa_cons (pv 0) (pa_cons (pe_bltn (v := .ty "int") (by rfl) B.b_int (by decide +kernel) rfl) pa_nil))) (pe_one (pe_not (pe_callB (isiK K) (by rfl) B.b_isinstance (by decide +kernel) (pa_cons (pv 0) (pa_cons (pe_bltn (v := .ty "bool") (by rfl) B.b_bool (by decide +kernel) rfl) pa_nil))))))) pss_nil)), ?_⟩
    refine nf_ (σ' := [some vp_0]) rfl ?_
    exact q_retF hP g (tv_and (tv_isiDy (tv_var rfl (up s hp_0)) (kit_int _)) (fun hq1 => (tv_not (tv_isiDy (tv_var rfl (up s hp_0)) (kit_bool _)))))
def m_need_counts (copies : Dy) (reads : Dy) (writes : Dy) : (Except Exn Unit) := (fin (run (R := (Except Exn Unit)) (fun (st : Unit) (count : Dy) => (cond ((!(m_is_whole count)) || (decide ((dI count) < (1 : Int)))) (Fl.rt (.error (⟨"NoCounts", []⟩ : Exn))) (Fl.nx ()))) () ([copies, reads, writes] : List Dy)) (fun r => r) (fun (_ : Unit) => (cond ((decide ((dI copies) > (("abcde" : PySem.Str).length : Int))) || ((decide ((dI reads) > (dI copies))) || (decide ((dI writes) > (dI copies))))) (.error (⟨"NoCounts", []⟩ : Exn)) (.ok ()))))
abbrev nc : Exn := ⟨"NoCounts", []⟩
theorem nlen : ((("abcde" : PySem.Str).length : Nat) : Int) = 5 := by decide +kernel
/-- the counts that are taken -/
def okC (a b c : Dy) : Bool := (m_is_whole a && decide (1 ≤ dI a) && m_is_whole b && decide (1 ≤ dI b) && m_is_whole c && decide (1 ≤ dI c)) && (decide (dI a ≤ 5) && decide (dI b ≤ dI a) && decide (dI c ≤ dI a))
theorem need_eq (a b c : Dy) : m_need_counts a b c = cond (okC a b c) (.ok ()) (.error nc) := by
  unfold m_need_counts okC
  rw [run_anyX, nlen]
  simp only [List.any_cons, List.any_nil, Bool.or_false]
  have e : ∀ x : Dy, ((!(m_is_whole x)) || (decide ((dI x) < (1 : Int)))) = !(m_is_whole x && decide (1 ≤ dI x)) := by
    intro x
    rw [Bool.not_and]
    congr 1
    rw [Bool.eq_iff_iff]; simp
  have e2 : ((decide ((dI a) > 5)) || ((decide ((dI b) > (dI a))) || (decide ((dI c) > (dI a))))) = !(decide (dI a ≤ 5) && decide (dI b ≤ dI a) && decide (dI c ≤ dI a)) := by
    rw [Bool.eq_iff_iff]; simp; omega
  rw [e a, e b, e c, e2]
  cases (m_is_whole a && decide (1 ≤ dI a)) <;> cases (m_is_whole b) <;> cases (decide (1 ≤ dI b)) <;> cases (m_is_whole c) <;> cases (decide (1 ≤ dI c)) <;> (try simp [fin_rt, fin_nx])
  cases (decide (dI a ≤ 5)) <;> cases (decide (dI b ≤ dI a)) <;> cases (decide (dI c ≤ dI a)) <;> simp
theorem need_er {a b c : Dy} {e : Exn} (h : m_need_counts a b c = .error e) : e = nc := by
  rw [need_eq] at h
  cases q : okC a b c <;> rw [q] at h
  · cases h; rfl
  · cases h
theorem need_ok {a b c : Dy} {y : Unit} (h : m_need_counts a b c = .ok y) : isI a = true ∧ isI b = true ∧ isI c = true ∧ 1 ≤ dI a ∧ dI a ≤ 5 ∧ 1 ≤ dI b ∧ dI b ≤ dI a ∧ 1 ≤ dI c ∧ dI c ≤ dI a := by
  rw [need_eq] at h
  cases q : okC a b c with
  | false => rw [q] at h; cases h
  | true =>
    unfold okC at q
    simp only [Bool.and_eq_true, decide_eq_true_eq] at q
    obtain ⟨⟨⟨⟨⟨⟨q1, q2⟩, q3⟩, q4⟩, q5⟩, q6⟩, ⟨q7, q8⟩, q9⟩ := q
    exact ⟨whole_isI q1, whole_isI q3, whole_isI q5, q2, q7, q4, q8, q6, q9⟩
abbrev s_need_counts : Stmt := top 8
def sp_need_counts (K : Fg) : Sp := fun vs H Q E => ∃ (F : Hp) (copies : Dy) (reads : Dy) (writes : Dy) (w0 : V) (w1 : V) (w2 : V), vs = [w0, w1, w2] ∧ Same F H ∧ rp K F copies w0 ∧ rp K F reads w1 ∧ rp K F writes w2 ∧ RetX K Z0 F H Q E (m_need_counts copies reads writes)
theorem sv_need_counts {K : Fg} {copies : Dy} {reads : Dy} {writes : Dy} : SpVX K (sp_need_counts K) (fun (F : Hp) (vs : List V) => ∃ v r, vs = v :: r ∧ rp K F copies v ∧ (fun (F : Hp) (vs : List V) => ∃ v r, vs = v :: r ∧ rp K F reads v ∧ (fun (F : Hp) (vs : List V) => ∃ v r, vs = v :: r ∧ rp K F writes v ∧ (fun (_ : Hp) (vs : List V) => vs = []) F r) F r) F r) (m_need_counts copies reads writes) := by
  intro F H vs Q E s h hQ hE
  obtain ⟨v0, r0, e0, h0, h⟩ := h
  obtain ⟨v1, r1, e1, h1, h⟩ := h
  obtain ⟨v2, r2, e2, h2, h⟩ := h
  subst h
  subst e2
  subst e1
  subst e0
  refine ⟨F, copies, reads, writes, v0, v1, v2, rfl, s, h0, h1, h2, ?_⟩
  cases hr_ : m_need_counts copies reads writes with
  | ok y_ => exact fun F' H' p g r => hQ y_ hr_ F' H' p g.gr r
  | error e_ => exact fun F' H' cls d g x => hE e_ hr_ F' H' cls d g.gr x
theorem sc_need_counts : FnScope ["copies", "reads", "writes", "count"] ["copies", "reads", "writes"] (defScope s_need_counts) := ⟨rfl, rfl, rfl, by decide +kernel, rfl, by decide +kernel, by decide +kernel⟩
theorem ok_need_counts {P : Program} {w : World} {K : Fg} {mg : PySem.Str → Option Value} {base : Heap} (B : Bs K mg) (D_is_whole : Dn P w K mg base CX0 "is_whole" 1 ["thing"] (sp_is_whole K)) {f : Addr} {fd : FuncData} (F : FnP K "need_counts" s_need_counts f fd) : FnOk P w K mg base (L2.CX P w) 2 f fd ["copies", "reads", "writes"] (sp_need_counts K) := by
  obtain ⟨f_is_whole, d_is_whole, G_is_whole, g_is_whole, k_is_whole, b_is_whole⟩ := D_is_whole
  obtain ⟨t_NAMES, c_NAMES⟩ := B.c_NAMES
  have nd : (["copies", "reads", "writes", "count"] : List PySem.Str).Nodup := sc_need_counts.nd
  refine F.ok sc_need_counts (fun vs H Q E h => ?_) (fun cdv A outer s H0 vs Q E hr h => ?_)
  · obtain ⟨F0, copies, reads, writes, vp_0, vp_1, vp_2, rfl, s, hp_0, hp_1, hp_2, hP⟩ := h
    rfl
  · obtain ⟨F0, copies, reads, writes, vp_0, vp_1, vp_2, rfl, s, hp_0, hp_1, hp_2, hP⟩ := h
    have g : GrZ Z0 F0 H0 F0 H0 := GrZ.refl s
    refine ⟨_, (by exact (pss_cons (ps_for (passes_of rfl) rfl (pi_listK K (pe_lst (pa_cons (pv 0) (pa_cons (pv 1) (pa_cons (pv 2) pa_nil))))) (pg_name (i := 3) nd rfl (Or.inl rfl)) (pss_cons (ps_if (PW.pt (pw_or (pt_not (pt_val (pe_call G_is_whole (hr.mono (by omega)) rfl g_is_whole k_is_whole b_is_whole .nil pass0 (pa_cons (pv 3) pa_nil)))) (pw_or1 (pt_cmpR op_lt (pv 3) pe_int (nomark _))))) (pss_cons (ps_raise rfl (takes_of rfl rfl rfl rfl) (pmk_own PySem.F.excBase_ValueError B.x_NoCounts.q B.x_NoCounts.g B.x_NoCounts.k (raises_own B.x_NoCounts.r1 B.x_NoCounts.r2) rfl)) pss_nil) pss_nil) pss_nil)) (pss_cons (ps_if (PW.pt (pw_or (pt_cmpR op_gt (pv 0) (pe_callB call_len_str (by rfl) B.b_len (by decide +kernel) (pa_cons (pe_glob (v := .str "abcde") rfl c_NAMES ⟨_, rfl⟩) pa_nil)) (nomark _)) (pw_or (pt_cmpR op_gt (pv 1) (pv 0) (nomark _)) (pw_or1 (pt_cmpR op_gt (pv 2) (pv 0) (nomark _)))))) (pss_cons (ps_raise rfl (takes_of rfl rfl rfl rfl) (pmk_own PySem.F.excBase_ValueError B.x_NoCounts.q B.x_NoCounts.g B.x_NoCounts.k (raises_own B.x_NoCounts.r1 B.x_NoCounts.r2) rfl)) pss_nil) pss_nil) pss_nil))), ?_⟩
    refine nf_ (σ' := [some vp_0, some vp_1, some vp_2, none]) rfl ?_
    refine q_for (K := K) (P := (RetX K Z0 F0 H0 Q E)) (fun (i : Nat) F H σ st => ∃ (ew_count : Option V), σ = [some vp_0, some vp_1, some vp_2, ew_count] ∧ GrZ Z0 F0 H0 F H) hP s (it_list (K := K) (TvL.tv (tl_lst (ta_rcons (tv_var rfl hp_0) (ta_rcons (tv_var rfl hp_1) (ta_rcons (tv_var rfl hp_2) ta_rnil))) (by show 3 ≤ 100000; decide)))) stb_t ⟨_, rfl, g⟩ (fun i F1 H1 σ1 st h => (by obtain ⟨_, _, gq⟩ := h; exact ⟨gq.sub, trivial⟩)) ?_ ?_
    · rintro i1 count ⟨⟩ Fa1 Ha1 Fl1 Hl1 σ1 vt1 Nl1 Bl1 Pl1 hx1 hr1 fa1 ⟨wj1_3, rfl, g⟩ gl1 hv1 hP hN1 hB1 hR1
      have s := gl1.sub
      have g := g.then gl1
      have sml1 := Same.refl Fl1
      have hp_0 := up (fa1.trans gl1.ex) hp_0
      have hp_1 := up (fa1.trans gl1.ex) hp_1
      have hp_2 := up (fa1.trans gl1.ex) hp_2
      have hil1 := (List.getElem?_eq_some_iff.mp hx1).1
      refine g_name ?_
      refine nf_ (σ' := [some vp_0, some vp_1, some vp_2, some vt1]) rfl ?_
      refine q_if (P := Pl1) hP (tt_or (tt_not (tt_B (K := K) (tv_call (ta_cons (tv_var rfl (up s hv1)) ta_nil) (sv_is_whole )))) (fun hq2 => (tt_test (K := K) (tv_op (tv_dI (by /- 1 isI -/ exact whole_isI (by simpa using hq2)) (tv_var rfl (up s hv1))) tv_int op2_lt)))) ?_ ?_
      · intro hc4 H4 e4 hP
        have s := s.trans e4
        have g := g.grow e4
        refine nf_ (σ' := [some vp_0, some vp_1, some vp_2, some vt1]) rfl ?_
        replace hP := hR1 _ hP
        exact q_raise (K := K) (W := (fun cls d _ H => E cls d H)) s (fun F2 H2 cls d g2 x => hP F2 H2 cls d (g.then g2) x)
      · intro hc4 H4 e4 hP
        first | refine q_endS ?_ | refine q_endC ?_ | refine q_end ?_
        have s := s.trans e4
        have g := g.grow e4
        first | refine q_endS ?_ | refine q_endC ?_ | refine q_end ?_
        exact hN1 _ hP _ _ _ sml1 ⟨_, rfl, g⟩
    · rintro i5 Fa5 Ha5 Fe5 He5 σ5 ⟨⟩ hi5 hrun5 fa5 ⟨wj5_3, rfl, g⟩ gl5 hP
      have s := gl5.sub
      have g := g.then gl5
      have hp_0 := up (fa5.trans gl5.ex) hp_0
      have hp_1 := up (fa5.trans gl5.ex) hp_1
      have hp_2 := up (fa5.trans gl5.ex) hp_2
      have hall := run_none hrun5
      have hw1 := whole_one (hall copies (by simp))
      have hw2 := whole_one (hall reads (by simp))
      have hw3 := whole_one (hall writes (by simp))
      refine nf_ (σ' := [some vp_0, some vp_1, some vp_2, wj5_3]) rfl ?_
      refine q_if (P := (RetX K Z0 F0 H0 Q E)) hP (tt_or (tt_test (K := K) (tv_op (tv_dI (by /- 3 isI -/ exact hw1.1) (tv_var rfl (up s hp_0))) (tv_cb (ta_cons tv_str ta_nil) (cb_lenS (by /- 2 strlen1 -/ first | decide +kernel | omega))) op2_gt)) (fun hq6 => (tt_or (tt_test (K := K) (tv_op (tv_dI (by /- 4 isI -/ exact hw2.1) (tv_var rfl (up s hp_1))) (tv_dI (by /- 5 isI -/ exact hw1.1) (tv_var rfl (up s hp_0))) op2_gt)) (fun hq7 => (tt_test (K := K) (tv_op (tv_dI (by /- 6 isI -/ exact hw3.1) (tv_var rfl (up s hp_2))) (tv_dI (by /- 7 isI -/ exact hw1.1) (tv_var rfl (up s hp_0))) op2_gt)))))) ?_ ?_
      · intro hc9 H9 e9 hP
        have s := s.trans e9
        have g := g.grow e9
        refine nf_ (σ' := [some vp_0, some vp_1, some vp_2, wj5_3]) rfl ?_
        exact q_raise (K := K) (W := (fun cls d _ H => E cls d H)) s (fun F2 H2 cls d g2 x => hP F2 H2 cls d (g.then g2) x)
      · intro hc9 H9 e9 hP
        first | refine q_endS ?_ | refine q_endC ?_ | refine q_end ?_
        have s := s.trans e9
        have g := g.grow e9
        first | refine q_endS ?_ | refine q_endC ?_ | refine q_end ?_
        replace hP := retx_ok hP
        exact hP _ _ _ g rfl
def mr_sets_of : Nat → Int → Int → (List Int)
  | 0, _, _ => default
  | n + 1, many, some' => (cond (decide (some' = (0 : Int))) ([(0 : Int)] : List Int) (cond (decide (some' > many)) ([] : List Int) (lt ((1 : Int) * 2 ^ ((many - (1 : Int))).toNat) fun (last : Int) => ((mr_sets_of n (many - (1 : Int)) some') ++ (lc (mr_sets_of n (many - (1 : Int)) (some' - (1 : Int))) (fun (rest : Int) => true) (fun (rest : Int) => (Builtin.bitOr rest last)))))))
abbrev m_sets_of (many : Int) (some' : Int) : (List Int) := mr_sets_of 6 many some'
theorem len_sets : ∀ (n : Nat) (many some' : Int), (mr_sets_of n many some').length ≤ 2 ^ (n - 1)
  | 0, _, _ => Nat.zero_le _
  | n + 1, many, some' => by
    have h1 := len_sets n (many - 1) some'
    have h2 := len_sets n (many - 1) (some' - 1)
    have h0 : 1 ≤ 2 ^ n := Nat.one_le_two_pow
    rw [mr_sets_of]
    cases decide (some' = 0)
    · cases decide (some' > many)
      · rw [cond_false, cond_false, lt_eq, List.length_append, lc_true_len]
        cases n with
        | zero => exact Nat.zero_le _
        | succ n =>
          show _ ≤ 2 ^ (n + 1)
          rw [Nat.pow_succ]
          have e : n + 1 - 1 = n := rfl
          rw [e] at h1 h2
          omega
      · exact Nat.zero_le _
    · exact h0
theorem pow_small (c : Int) (h1 : 1 ≤ c) (h2 : c ≤ 5) : (1 : Int) * 2 ^ c.toNat ≤ 32 ∧ 2 ≤ (1 : Int) * 2 ^ c.toNat := by
  have h : c = 1 ∨ c = 2 ∨ c = 3 ∨ c = 4 ∨ c = 5 := by omega
  rcases h with rfl | rfl | rfl | rfl | rfl <;> decide
abbrev s_sets_of : Stmt := top 9
def sp_sets_of (K : Fg) (n : Nat) : Sp := fun vs H Q E => ∃ (F : Hp) (many : Int) (some' : Int) (w0 : V) (w1 : V), vs = [w0, w1] ∧ Same F H ∧ rp K F many w0 ∧ rp K F some' w1 ∧ (0 ≤ many ∧ many < n ∧ 0 ≤ some' ∧ n ≤ 6) ∧ RetL K Z0 F H Q (mr_sets_of n many some')
theorem sv_sets_of {K : Fg} {n : Nat} {many : Int} {some' : Int} (hpre : 0 ≤ many ∧ many < n ∧ 0 ≤ some' ∧ n ≤ 6) : SpL K (sp_sets_of K n) (fun (F : Hp) (vs : List V) => ∃ v r, vs = v :: r ∧ rp K F many v ∧ (fun (F : Hp) (vs : List V) => ∃ v r, vs = v :: r ∧ rp K F some' v ∧ (fun (_ : Hp) (vs : List V) => vs = []) F r) F r) (mr_sets_of n many some') := by
  intro F H vs Q E s h hQ
  obtain ⟨v0, r0, e0, h0, h⟩ := h
  obtain ⟨v1, r1, e1, h1, h⟩ := h
  subst h
  subst e1
  subst e0
  exact ⟨F, many, some', v0, v1, rfl, s, h0, h1, hpre, fun F' H' p g n m => hQ F' H' p g.gr n m⟩
theorem sc_sets_of : FnScope ["many", "some", "last", "rest"] ["many", "some"] (defScope s_sets_of) := ⟨rfl, rfl, rfl, by decide +kernel, rfl, by decide +kernel, by decide +kernel⟩
theorem ok_sets_of {P : Program} {w : World} {K : Fg} {mg : PySem.Str → Option Value} {base : Heap} (B : Bs K mg) {f : Addr} {fd : FuncData} (F : FnP K "sets_of" s_sets_of f fd) (gf : mg "sets_of" = some (.ref f)) : ∀ n : Nat, FnOk P w K mg base CX0 (n + 1) f fd ["many", "some"] (sp_sets_of K n) := by
  have nd : (["many", "some", "last", "rest"] : List PySem.Str).Nodup := sc_sets_of.nd
  have g_sets_of := gf
  have k_sets_of := F.kp
  have b_sets_of : Binds K fd ["many", "some"] [] := F.bindsN fun _ _ _ _ _ _ us hl => match us, hl with | [_, _], _ => rfl
  intro n
  induction n with
  | zero =>
    refine F.ok sc_sets_of (fun vs H Q E h => ?_) (fun cdv A outer s H0 vs Q E hr h => ?_)
    · obtain ⟨F0, many, some', w0, w1, rfl, s, hw0, hw1, hpre, hP⟩ := h
      rfl
    · obtain ⟨F0, many, some', w0, w1, rfl, s, hw0, hw1, hpre, hP⟩ := h
      omega
  | succ n ih =>
  have G_sets_of := ih
  refine F.ok sc_sets_of (fun vs H Q E h => ?_) (fun cdv A outer s H0 vs Q E hr h => ?_)
  · obtain ⟨F0, many, some', w0, w1, rfl, s, hw0, hw1, hpre, hP⟩ := h
    rfl
  · obtain ⟨F0, many, some', w0, w1, rfl, s, hw0, hw1, hpre, hP⟩ := h
    obtain rfl := Flat.is hw0
    obtain rfl := Flat.is hw1
    rw [mr_sets_of] at hP
    have hs1 := len_sets n (many - 1) some'
    have hs2 := len_sets n (many - 1) (some' - 1)
    have hn : n ≤ 5 := by omega
    have hp : 2 ^ (n - 1) ≤ 2 ^ 4 := Nat.pow_le_pow_right (by decide) (by omega)
    have g : GrZ Z0 F0 H0 F0 H0 := GrZ.refl s
    refine ⟨_, PSs.nox (by exact (pss_cons (ps_if (pt_cmpR op_eq (pv 1) pe_int (nomark _)) (pss_cons (ps_ret (pe_lst (pa_cons pe_int pa_nil))) pss_nil) pss_nil) (pss_cons (ps_if (pt_cmpR op_gt (pv 1) (pv 0) (nomark _)) (pss_cons (ps_ret (pe_lst pa_nil)) pss_nil) pss_nil) (pss_cons (ps_set (i := 2) nd rfl (Or.inr rfl) (pe_op op_shl pe_int (pe_op op_sub (pv 0) pe_int))) (pss_cons (ps_ret (pe_op op_cat (pe_call G_sets_of (hr.mono (by omega)) rfl g_sets_of k_sets_of b_sets_of .nil pass0 (pa_cons (pe_op op_sub (pv 0) pe_int) (pa_cons (pv 1) pa_nil))) (pe_lc (own := [("rest", 3)]) (g := gName 3) (tt := _) rfl nd (pi_listK K (pe_call G_sets_of (hr.mono (by omega)) rfl g_sets_of k_sets_of b_sets_of .nil pass0 (pa_cons (pe_op op_sub (pv 0) pe_int) (pa_cons (pe_op op_sub (pv 1) pe_int) pa_nil)))) (blkOk_by (own := [("rest", 3)]) (N := ["many", "some", "last", "rest"]) (sc := defScope s_sets_of) (by decide +kernel)) (fun _ _ _ _ _ => pg_name (i := 3) nd rfl (Or.inl rfl)) (fun _ _ _ _ _ => pts_nil) (fun _ _ _ _ _ => (pe_op op_or (pv 3) (pv 2)))))) pss_nil))))), ?_⟩
    refine nf_ (σ' := [some (Flat.val many), some (Flat.val some'), none, none]) rfl ?_
    refine q_if (P := (RetL K Z0 F0 H0 Q)) hP (tt_test (K := K) (tv_op (tv_var rfl (Flat.of _)) tv_int op2_eqI)) ?_ ?_
    · intro hc1 H1 e1 hP
      have s := s.trans e1
      have g := g.grow e1
      refine nf_ (σ' := [some (Flat.val many), some (Flat.val some'), none, none]) rfl ?_
      exact q_retL hP g (tl_lst (ta_rcons (tv_flat tv_int) ta_rnil) (by show 1 ≤ 100000; decide))
    · intro hc1 H1 e1 hP
      first | refine q_endS ?_ | refine q_endC ?_ | refine q_end ?_
      have s := s.trans e1
      have g := g.grow e1
      refine nf_ (σ' := [some (Flat.val many), some (Flat.val some'), none, none]) rfl ?_
      refine q_if (P := (RetL K Z0 F0 H0 Q)) hP (tt_test (K := K) (tv_op (tv_var rfl (Flat.of _)) (tv_var rfl (Flat.of _)) op2_gt)) ?_ ?_
      · intro hc2 H2 e2 hP
        have s := s.trans e2
        have g := g.grow e2
        refine nf_ (σ' := [some (Flat.val many), some (Flat.val some'), none, none]) rfl ?_
        exact q_retL hP g (tl_lst ta_rnil (by decide))
      · intro hc2 H2 e2 hP
        first | refine q_endS ?_ | refine q_endC ?_ | refine q_end ?_
        have s := s.trans e2
        have g := g.grow e2
        refine nf_ (σ' := [some (Flat.val many), some (Flat.val some'), none, none]) rfl ?_
        refine q_setF (K := K) (P := (RetL K Z0 F0 H0 Q)) hP (tv_op tv_int (tv_op (tv_var rfl (Flat.of _)) tv_int op2_sub) (op2_shl (by /- 1 CPow -/ first | (first | exact ⟨by decide, by decide, by decide⟩ | exact ⟨by omega, by omega, by omega⟩) | ((try simp only [decide_eq_true_eq, decide_eq_false_iff_not, Bool.not_eq_true', Bool.not_eq_false', Bool.and_eq_true, Bool.and_eq_false_iff, Bool.or_eq_true, Bool.or_eq_false_iff] at hc1); (try simp only [decide_eq_true_eq, decide_eq_false_iff_not, Bool.not_eq_true', Bool.not_eq_false', Bool.and_eq_true, Bool.and_eq_false_iff, Bool.or_eq_true, Bool.or_eq_false_iff] at hc2); (first | exact ⟨by decide, by decide, by decide⟩ | exact ⟨by omega, by omega, by omega⟩))))) ?_
        intro last H3 hlast e3 hP
        have s := s.trans e3
        have g := g.grow e3
        refine nf_ (σ' := [some (Flat.val many), some (Flat.val some'), some (Flat.val last), none]) rfl ?_
        exact q_retL hP g (tl_op (TvL.tv (tl_call (ta_cons (tv_flat (tv_op (tv_var rfl (Flat.of _)) tv_int op2_sub)) (ta_cons (tv_flat (tv_var rfl (Flat.of _))) ta_nil)) (sv_sets_of (by /- 2 pre:sets_of -/ first | (first | decide | assumption | omega) | ((try simp only [decide_eq_true_eq, decide_eq_false_iff_not, Bool.not_eq_true', Bool.not_eq_false', Bool.and_eq_true, Bool.and_eq_false_iff, Bool.or_eq_true, Bool.or_eq_false_iff] at hc1); (try simp only [decide_eq_true_eq, decide_eq_false_iff_not, Bool.not_eq_true', Bool.not_eq_false', Bool.and_eq_true, Bool.and_eq_false_iff, Bool.or_eq_true, Bool.or_eq_false_iff] at hc2); (first | decide | assumption | omega)))))) (TvL.tv (tl_lc (fun (rest : Int) => true) (fun (rest : Int) => (Builtin.bitOr rest last)) (it_list (K := K) (TvL.tv (tl_call (ta_cons (tv_flat (tv_op (tv_var rfl (Flat.of _)) tv_int op2_sub)) (ta_cons (tv_flat (tv_op (tv_var rfl (Flat.of _)) tv_int op2_sub)) ta_nil)) (sv_sets_of (by /- 3 pre:sets_of -/ first | (first | decide | assumption | omega) | ((try simp only [decide_eq_true_eq, decide_eq_false_iff_not, Bool.not_eq_true', Bool.not_eq_false', Bool.and_eq_true, Bool.and_eq_false_iff, Bool.or_eq_true, Bool.or_eq_false_iff] at hc1); (try simp only [decide_eq_true_eq, decide_eq_false_iff_not, Bool.not_eq_true', Bool.not_eq_false', Bool.and_eq_true, Bool.and_eq_false_iff, Bool.or_eq_true, Bool.or_eq_false_iff] at hc2); (first | decide | assumption | omega))))))) stb_t trivial (by /- 4 lclen -/ first | (first | (simp only [rng_len]; omega) | omega) | ((try simp only [decide_eq_true_eq, decide_eq_false_iff_not, Bool.not_eq_true', Bool.not_eq_false', Bool.and_eq_true, Bool.and_eq_false_iff, Bool.or_eq_true, Bool.or_eq_false_iff] at hc1); (try simp only [decide_eq_true_eq, decide_eq_false_iff_not, Bool.not_eq_true', Bool.not_eq_false', Bool.and_eq_true, Bool.and_eq_false_iff, Bool.or_eq_true, Bool.or_eq_false_iff] at hc2); (first | (simp only [rng_len]; omega) | omega))) (fun i4 rest v4 F4 H4 hx4 gr4 hv4 R4 k4 => g_nameF hv4 fun _ =>  (k4 _ rfl (tt_yes) (fun H4' e4 hcl4 => (tv_flat (tv_op (tv_var rfl (Flat.of _)) (tv_var rfl (Flat.of _)) op2_bor))))))) (opL_cat (by /- 5 len -/ first | (first | (simp only [List.length_append, List.length_cons, List.length_nil, lc_true_len, rng_len]; omega) | omega) | ((try simp only [decide_eq_true_eq, decide_eq_false_iff_not, Bool.not_eq_true', Bool.not_eq_false', Bool.and_eq_true, Bool.and_eq_false_iff, Bool.or_eq_true, Bool.or_eq_false_iff] at hc1); (try simp only [decide_eq_true_eq, decide_eq_false_iff_not, Bool.not_eq_true', Bool.not_eq_false', Bool.and_eq_true, Bool.and_eq_false_iff, Bool.or_eq_true, Bool.or_eq_false_iff] at hc2); (first | (simp only [List.length_append, List.length_cons, List.length_nil, lc_true_len, rng_len]; omega) | omega)))))
def m_weavings (copies : Dy) (reads : Dy) (writes : Dy) : (Except Exn (List (Int × Int × Int))) := (lx (m_need_counts copies reads writes) fun (y1 : Unit) => (lt ([] : List (Int × Int × Int)) fun (found : (List (Int × Int × Int))) => (lt (List.foldl (fun (found : ((List (Int × Int × Int)))) (had : Int) => (lt (List.foldl (fun (found : ((List (Int × Int × Int)))) (late : Int) => (lt (cond (decide ((Builtin.bitAnd late had) = (0 : Int))) (lt (List.foldl (fun (found : ((List (Int × Int × Int)))) (heard : Int) => (lt (found ++ [((had, late, heard) : (Int × Int × Int))]) fun (found : (List (Int × Int × Int))) => (found))) (found) (m_sets_of (dI copies) (dI reads))) (fun (found : (List (Int × Int × Int))) => (found))) (found)) (fun (found : (List (Int × Int × Int))) => (found)))) (found) (rng 0 (((1 : Int) * 2 ^ ((dI copies)).toNat)).toNat)) (fun (found : (List (Int × Int × Int))) => (found)))) (found) (m_sets_of (dI copies) (dI writes))) (fun (found : (List (Int × Int × Int))) => (.ok found)))))
theorem foldl_cat {α β : Type} {step : List β → α → List β} {g : α → List β} (h : ∀ acc x, step acc x = acc ++ g x) : ∀ (xs : List α) (acc : List β), List.foldl step acc xs = acc ++ xs.flatMap g
  | [], acc => by simp
  | x :: xs, acc => by
    rw [List.foldl_cons, h, foldl_cat h xs, List.flatMap_cons, List.append_assoc]
def wv (c r w : Int) : List (Int × Int × Int) := (m_sets_of c w).flatMap fun h => (rng 0 ((1 : Int) * 2 ^ c.toNat).toNat).flatMap fun l => cond (decide (Builtin.bitAnd l h = 0)) ((m_sets_of c r).map fun x => (h, l, x)) []
theorem weav_eq (a b d : Dy) : m_weavings a b d = lx (m_need_counts a b d) fun _ => .ok (wv (dI a) (dI b) (dI d)) := by
  unfold m_weavings wv
  congr 1
  funext _
  congr 1
  simp only [lt_eq]
  rw [foldl_cat (g := fun h => (rng 0 ((1 : Int) * 2 ^ (dI a).toNat).toNat).flatMap fun l => cond (decide (Builtin.bitAnd l h = 0)) ((m_sets_of (dI a) (dI b)).map fun x => (h, l, x)) [])]
  · rfl
  · intro acc h
    rw [foldl_cat (g := fun l => cond (decide (Builtin.bitAnd l h = 0)) ((m_sets_of (dI a) (dI b)).map fun x => (h, l, x)) [])]
    intro acc l
    cases decide (Builtin.bitAnd l h = 0)
    · simp
    · simp only [cond_true]
      rw [foldl_cat (g := fun x => [(h, l, x)])]
      · congr 1
        induction m_sets_of (dI a) (dI b) with
        | nil => rfl
        | cons a t ih => simp [ih]
      · intro acc x; rfl
theorem flat_le {α β : Type} {g : α → List β} {n : Nat} : ∀ {xs : List α}, (∀ x ∈ xs, (g x).length ≤ n) → (xs.flatMap g).length ≤ xs.length * n
  | [], _ => Nat.zero_le _
  | x :: xs, h => by
    rw [List.flatMap_cons, List.length_append, List.length_cons, Nat.succ_mul]
    have h1 := h x (List.mem_cons_self ..)
    have h2 := flat_le (xs := xs) fun y hy => h y (List.mem_cons_of_mem _ hy)
    omega
theorem rng_len (n : Nat) : (rng 0 n).length = n := by
  simp [rng]
theorem wv_small {c r w : Int} (h : 1 ≤ c ∧ c ≤ 5) : (wv c r w).length ≤ 32768 := by
  have hs : ∀ w, (m_sets_of c w).length ≤ 32 := fun w => len_sets 6 c w
  have hp := pow_small c h.1 h.2
  have hr : (rng 0 ((1 : Int) * 2 ^ c.toNat).toNat).length ≤ 32 := by rw [rng_len]; omega
  unfold wv
  refine Nat.le_trans (flat_le (n := 32 * 32) fun a _ => Nat.le_trans (flat_le (n := 32) fun l _ => ?_) (Nat.mul_le_mul_right _ hr)) (Nat.mul_le_mul_right _ (hs w))
  cases decide (Builtin.bitAnd l a = 0)
  · exact Nat.zero_le _
  · rw [cond_true, List.length_map]; exact hs r
theorem weav_small {a b d : Dy} {y : List (Int × Int × Int)} (h : m_weavings a b d = .ok y) : y.length ≤ 32768 := by
  rw [weav_eq] at h
  cases e : m_need_counts a b d with
  | error x => rw [e, lx_er] at h; cases h
  | ok u =>
    rw [e, lx_ok] at h
    cases h
    have := need_ok e
    exact wv_small ⟨by omega, by omega⟩
theorem weav_er {a b d : Dy} {e : Exn} (h : m_weavings a b d = .error e) : e = nc := by
  rw [weav_eq] at h
  cases e2 : m_need_counts a b d with
  | error x => rw [e2, lx_er] at h; cases h; exact need_er e2
  | ok u => rw [e2, lx_ok] at h; cases h
abbrev s_weavings : Stmt := top 10
def sp_weavings (K : Fg) : Sp := fun vs H Q E => ∃ (F : Hp) (copies : Dy) (reads : Dy) (writes : Dy) (w0 : V) (w1 : V) (w2 : V), vs = [w0, w1, w2] ∧ Same F H ∧ rp K F copies w0 ∧ rp K F reads w1 ∧ rp K F writes w2 ∧ RetXL K Z0 F H Q E (m_weavings copies reads writes)
theorem sv_weavings {K : Fg} {copies : Dy} {reads : Dy} {writes : Dy} : SpLX K (sp_weavings K) (fun (F : Hp) (vs : List V) => ∃ v r, vs = v :: r ∧ rp K F copies v ∧ (fun (F : Hp) (vs : List V) => ∃ v r, vs = v :: r ∧ rp K F reads v ∧ (fun (F : Hp) (vs : List V) => ∃ v r, vs = v :: r ∧ rp K F writes v ∧ (fun (_ : Hp) (vs : List V) => vs = []) F r) F r) F r) (m_weavings copies reads writes) := by
  intro F H vs Q E s h hQ hE
  obtain ⟨v0, r0, e0, h0, h⟩ := h
  obtain ⟨v1, r1, e1, h1, h⟩ := h
  obtain ⟨v2, r2, e2, h2, h⟩ := h
  subst h
  subst e2
  subst e1
  subst e0
  refine ⟨F, copies, reads, writes, v0, v1, v2, rfl, s, h0, h1, h2, ?_⟩
  cases hr_ : m_weavings copies reads writes with
  | ok y_ => exact fun F' H' p g n m => hQ y_ hr_ F' H' p g.gr n m
  | error e_ => exact fun F' H' cls d g x => hE e_ hr_ F' H' cls d g.gr x
theorem sc_weavings : FnScope ["copies", "reads", "writes", "found", "had", "late", "heard"] ["copies", "reads", "writes"] (defScope s_weavings) := ⟨rfl, rfl, rfl, by decide +kernel, rfl, by decide +kernel, by decide +kernel⟩
theorem ok_weavings {P : Program} {w : World} {K : Fg} {mg : PySem.Str → Option Value} {base : Heap} (B : Bs K mg) (D_need_counts : Dn P w K mg base (L2.CX P w) "need_counts" 2 ["copies", "reads", "writes"] (sp_need_counts K)) (D_sets_of : Dn P w K mg base CX0 "sets_of" 7 ["many", "some"] (sp_sets_of K 6)) {f : Addr} {fd : FuncData} (F : FnP K "weavings" s_weavings f fd) : FnOk P w K mg base (L2.CX P w) 8 f fd ["copies", "reads", "writes"] (sp_weavings K) := by
  obtain ⟨f_need_counts, d_need_counts, G_need_counts, g_need_counts, k_need_counts, b_need_counts⟩ := D_need_counts
  obtain ⟨f_sets_of, d_sets_of, G_sets_of, g_sets_of, k_sets_of, b_sets_of⟩ := D_sets_of
  have nd : (["copies", "reads", "writes", "found", "had", "late", "heard"] : List PySem.Str).Nodup := sc_weavings.nd
  refine F.ok sc_weavings (fun vs H Q E h => ?_) (fun cdv A outer s H0 vs Q E hr h => ?_)
  · obtain ⟨F0, copies, reads, writes, vp_0, vp_1, vp_2, rfl, s, hp_0, hp_1, hp_2, hP⟩ := h
    rfl
  · obtain ⟨F0, copies, reads, writes, vp_0, vp_1, vp_2, rfl, s, hp_0, hp_1, hp_2, hP⟩ := h
    have g : GrZ Z0 F0 H0 F0 H0 := GrZ.refl s
    refine ⟨_, (by exact (pss_cons (ps_expr (pe_callS G_need_counts (hr.mono (by omega)) rfl g_need_counts k_need_counts b_need_counts (fun σ => passAt (takes_of rfl rfl rfl rfl) σ) (pa_cons (pv 0) (pa_cons (pv 1) (pa_cons (pv 2) pa_nil))))) (pss_cons (ps_set (i := 3) nd rfl (Or.inl rfl) (pe_lst pa_nil)) (pss_cons (ps_for (passes_of rfl) rfl (pi_listK K (pe_call G_sets_of (hr.mono (by omega)) rfl g_sets_of k_sets_of b_sets_of .nil pass0 (pa_cons (pv 0) (pa_cons (pv 2) pa_nil)))) (pg_name (i := 4) nd rfl (Or.inl rfl)) (pss_cons (ps_for (passes_of rfl) rfl (pi_range1 rfl B.b_range (pa_cons (pe_op op_shl pe_int (pv 0)) pa_nil)) (pg_name (i := 5) nd rfl (Or.inl rfl)) (Evl.pss_cut (ps_if (pt_cmpR op_eq (pe_op op_and (pv 5) (pv 4)) pe_int (nomark _)) (pss_cons (ps_for (passes_of rfl) rfl (pi_listK K (pe_call G_sets_of (hr.mono (by omega)) rfl g_sets_of k_sets_of b_sets_of .nil pass0 (pa_cons (pv 0) (pa_cons (pv 1) pa_nil)))) (pg_name (i := 6) nd rfl (Or.inl rfl)) (pss_cons (ps_expr (pe_bm PySem.F.plainAttrs_list PySem.F.slot_list_append PySem.F.type_list_append mt_append (pv 3) (pa_cons (pe_tup (pa_cons (pv 4) (pa_cons (pv 5) (pa_cons (pv 6) pa_nil)))) pa_nil))) pss_nil)) pss_nil) pss_nil) pss_nil)) pss_nil)) (pss_cons (ps_ret (pv 3)) pss_nil))))), ?_⟩
    refine q_lx (P := (RetXL K Z0 F0 H0 Q E)) hP (fun y1 hy1 hP => ?_) (fun e1 he1 hP => ?_)
    · refine nf_ (σ' := [some vp_0, some vp_1, some vp_2, none, none, none, none]) rfl ?_
      refine q_drop s (tv_flat (tv_callX (ta_cons (tv_var rfl (up s hp_0)) (ta_cons (tv_var rfl (up s hp_1)) (ta_cons (tv_var rfl (up s hp_2)) ta_nil))) (sv_need_counts ) hy1)) ?_
      intro F2 H3 gr4
      have s := gr4.sub
      have g := g.then gr4
      have hp_0 := up gr4.ex hp_0
      have hp_1 := up gr4.ex hp_1
      have hp_2 := up gr4.ex hp_2
      obtain ⟨hn_copies, hn_reads, hn_writes, hb1, hb2, hb3, hb4, hb5, hb6⟩ := need_ok hy1
      have hs1 : (m_sets_of (dI copies) (dI writes)).length ≤ 32 := len_sets 6 (dI copies) (dI writes)
      have hs2 : (m_sets_of (dI copies) (dI reads)).length ≤ 32 := len_sets 6 (dI copies) (dI reads)
      have hb := pow_small (dI copies) hb1 hb2
      obtain rfl := rp_dI hn_copies hp_0
      obtain rfl := rp_dI hn_reads hp_1
      obtain rfl := rp_dI hn_writes hp_2
      refine nf_ (σ' := [some (Flat.val (dI copies)), some (Flat.val (dI reads)), some (Flat.val (dI writes)), none, none, none, none]) rfl ?_
      refine q_setM (K := K) (P := (RetXL K Z0 F0 H0 Q E)) hP s (tl_lst ta_rnil (by decide)) ?_
      intro found F5 H6 p8 hfound gr7 nw8 m_8 hP
      have n_8 := g.newIn nw8
      have s := gr7.sub
      have g := g.then gr7
      refine nf_ (σ' := [some (Flat.val (dI copies)), some (Flat.val (dI reads)), some (Flat.val (dI writes)), some (.ref p8), none, none, none]) rfl ?_
      refine q_fold (K := K) (P := (RetXL K Z0 F0 H0 Q E)) (fun (i : Nat) F H σ st => ∃ (ew_late : Option V) (ew_heard : Option V) (ew_had : Option V), σ = [some (Flat.val (dI copies)), some (Flat.val (dI reads)), some (Flat.val (dI writes)), some (.ref p8), ew_had, ew_late, ew_heard] ∧ GrZ Z0 F0 H0 F H ∧ MutL K F H p8 st ∧ st.length ≤ i * 1024) hP s (it_list (K := K) (TvL.tv (tl_call (ta_cons (tv_flat (tv_var rfl (Flat.of _))) (ta_cons (tv_flat (tv_var rfl (Flat.of _))) ta_nil)) (sv_sets_of (by /- 1 pre:sets_of -/ first | decide | assumption | omega))))) stb_t ⟨_, _, _, rfl, g, m_8, (by /- 14 inv0 -/ first | omega | ((try simp only [hfound, List.length_append, List.length_cons, List.length_nil, lc_true_len, rng_len]); omega) | rfl | (subst_vars; first | omega | (simp; done) | (simp; omega)))⟩ (fun i F1 H1 σ1 st h => (by obtain ⟨_, _, _, _, gq, _⟩ := h; exact ⟨gq.sub, trivial⟩)) ?_ ?_
      · rintro i9 had found Fa9 Ha9 Fl9 Hl9 σ9 vt9 Nl9 Pl9 hx9 hr9 fa9 ⟨wj9_5, wj9_6, wj9_4, rfl, g, m_8, hx_9⟩ gl9 hv9 hP hN9
        have s := gl9.sub
        have g := g.then gl9
        have sml9 := Same.refl Fl9
        try dsimp only at hx_9
        have m_8 := m_8.go gl9
        have hil9 := (List.getElem?_eq_some_iff.mp hx9).1
        obtain rfl := Flat.is hv9
        refine g_name ?_
        refine nf_ (σ' := [some (Flat.val (dI copies)), some (Flat.val (dI reads)), some (Flat.val (dI writes)), some (.ref p8), some (Flat.val had), wj9_5, wj9_6]) rfl ?_
        refine q_fold (K := K) (P := Pl9) (fun (i : Nat) F H σ st => ∃ (ew_heard : Option V) (ew_late : Option V), σ = [some (Flat.val (dI copies)), some (Flat.val (dI reads)), some (Flat.val (dI writes)), some (.ref p8), some (Flat.val had), ew_late, ew_heard] ∧ GrZ Z0 F0 H0 F H ∧ MutL K F H p8 st ∧ st.length ≤ found.length + i * 32) hP s (it_range1 (K := K) (tv_op tv_int (tv_var rfl (Flat.of _)) (op2_shl (by /- 2 CPow -/ first | exact ⟨by decide, by decide, by decide⟩ | exact ⟨by omega, by omega, by omega⟩))) (by /- 3 rlo -/ omega) (by /- 4 rhi -/ omega)) stb_t ⟨_, _, rfl, g, m_8, (by /- 12 inv0 -/ first | omega | ((try simp only [hfound, List.length_append, List.length_cons, List.length_nil, lc_true_len, rng_len]); omega) | rfl | (subst_vars; first | omega | (simp; done) | (simp; omega)))⟩ (fun i F1 H1 σ1 st h => (by obtain ⟨_, _, _, gq, _⟩ := h; exact ⟨gq.sub, trivial⟩)) ?_ ?_
        · rintro i10 late found Fa10 Ha10 Fl10 Hl10 σ10 vt10 Nl10 Pl10 hx10 hr10 fa10 ⟨wj10_6, wj10_5, rfl, g, m_8, hx_10⟩ gl10 hv10 hP hN10
          have s := gl10.sub
          have g := g.then gl10
          have sml10 := Same.refl Fl10
          try dsimp only at hx_10
          have m_8 := m_8.go gl10
          have hil10 := (List.getElem?_eq_some_iff.mp hx10).1
          simp only [rng_len] at hil10
          obtain rfl := Flat.is hv10
          refine g_name ?_
          refine nf_ (σ' := [some (Flat.val (dI copies)), some (Flat.val (dI reads)), some (Flat.val (dI writes)), some (.ref p8), some (Flat.val had), some (Flat.val late), wj10_6]) rfl ?_
          refine q_ifJ (F := Fl10) (P := Pl10) hP (tt_test (K := K) (tv_op (tv_op (tv_var rfl (Flat.of _)) (tv_var rfl (Flat.of _)) op2_band) tv_int op2_eqI)) (fun F H σ st => ∃ (ew_heard : Option V), σ = [some (Flat.val (dI copies)), some (Flat.val (dI reads)), some (Flat.val (dI writes)), some (.ref p8), some (Flat.val had), some (Flat.val late), ew_heard] ∧ GrZ Z0 F0 H0 F H ∧ MutL K F H p8 st ∧ st.length ≤ found.length + 32) ?_ ?_ ?_
          · intro hc11 Hc11 Nj11 ec11 Pj11 hP hN11
            have smj11 := Same.refl Fl10
            have s := s.trans ec11
            have g := g.grow ec11
            have m_8 := m_8.grow ec11
            refine nf_ (σ' := [some (Flat.val (dI copies)), some (Flat.val (dI reads)), some (Flat.val (dI writes)), some (.ref p8), some (Flat.val had), some (Flat.val late), wj10_6]) rfl ?_
            refine q_fold (K := K) (P := Pj11) (fun (i : Nat) F H σ st => ∃ (ew_heard : Option V), σ = [some (Flat.val (dI copies)), some (Flat.val (dI reads)), some (Flat.val (dI writes)), some (.ref p8), some (Flat.val had), some (Flat.val late), ew_heard] ∧ GrZ Z0 F0 H0 F H ∧ MutL K F H p8 st ∧ st.length ≤ found.length + i) hP s (it_list (K := K) (TvL.tv (tl_call (ta_cons (tv_flat (tv_var rfl (Flat.of _))) (ta_cons (tv_flat (tv_var rfl (Flat.of _))) ta_nil)) (sv_sets_of (by /- 5 pre:sets_of -/ first | (first | decide | assumption | omega) | (have hr_hx10 := rng_at hx10; (try simp only [decide_eq_true_eq, decide_eq_false_iff_not, Bool.not_eq_true', Bool.not_eq_false', Bool.and_eq_true, Bool.and_eq_false_iff, Bool.or_eq_true, Bool.or_eq_false_iff] at hc11); (first | decide | assumption | omega))))))) stb_t ⟨_, rfl, g, m_8, (by /- 8 inv0 -/ first | (first | omega | ((try simp only [hfound, List.length_append, List.length_cons, List.length_nil, lc_true_len, rng_len]); omega) | rfl | (subst_vars; first | omega | (simp; done) | (simp; omega))) | (have hr_hx10 := rng_at hx10; (try simp only [decide_eq_true_eq, decide_eq_false_iff_not, Bool.not_eq_true', Bool.not_eq_false', Bool.and_eq_true, Bool.and_eq_false_iff, Bool.or_eq_true, Bool.or_eq_false_iff] at hc11); (first | omega | ((try simp only [hfound, List.length_append, List.length_cons, List.length_nil, lc_true_len, rng_len]); omega) | rfl | (subst_vars; first | omega | (simp; done) | (simp; omega)))))⟩ (fun i F1 H1 σ1 st h => (by obtain ⟨_, _, gq, _⟩ := h; exact ⟨gq.sub, trivial⟩)) ?_ ?_
            · rintro i12 heard found Fa12 Ha12 Fl12 Hl12 σ12 vt12 Nl12 Pl12 hx12 hr12 fa12 ⟨wj12_6, rfl, g, m_8, hx_12⟩ gl12 hv12 hP hN12
              have s := gl12.sub
              have g := g.then gl12
              have sml12 := Same.refl Fl12
              try dsimp only at hx_12
              have m_8 := m_8.go gl12
              have hil12 := (List.getElem?_eq_some_iff.mp hx12).1
              obtain rfl := Flat.is hv12
              refine g_name ?_
              refine nf_ (σ' := [some (Flat.val (dI copies)), some (Flat.val (dI reads)), some (Flat.val (dI writes)), some (.ref p8), some (Flat.val had), some (Flat.val late), some (Flat.val heard)]) rfl ?_
              refine q_app (K := K) (P := Pl12) hP s m_8 rfl (tv_tup (ta_tc (tv_flat (tv_var rfl (Flat.of _))) (ta_tc (tv_flat (tv_var rfl (Flat.of _))) (ta_t1 (tv_flat (tv_var rfl (Flat.of _)))))) (tlen (n := 3) (by decide))) (by /- 6 app -/ first | (first | decide | assumption | omega) | (have hr_hx10 := rng_at hx10; (try simp only [decide_eq_true_eq, decide_eq_false_iff_not, Bool.not_eq_true', Bool.not_eq_false', Bool.and_eq_true, Bool.and_eq_false_iff, Bool.or_eq_true, Bool.or_eq_false_iff] at hc11); (first | decide | assumption | omega))) ?_
              intro found F14 H13 hfound md15 m_8 hP
              have s := md15.sub
              have g := g.md n_8 md15
              have sml12 := sml12.trans md15.ex
              first | refine q_endS ?_ | refine q_endC ?_ | refine q_end ?_
              exact hN12 _ hP _ _ _ sml12 ⟨_, rfl, g, m_8, (by /- 7 inv -/ first | (first | omega | ((try simp only [hfound, List.length_append, List.length_cons, List.length_nil, lc_true_len, rng_len]); omega) | rfl | (subst_vars; first | omega | (simp; done) | (simp; omega))) | (have hr_hx10 := rng_at hx10; (try simp only [decide_eq_true_eq, decide_eq_false_iff_not, Bool.not_eq_true', Bool.not_eq_false', Bool.and_eq_true, Bool.and_eq_false_iff, Bool.or_eq_true, Bool.or_eq_false_iff] at hc11); (first | omega | ((try simp only [hfound, List.length_append, List.length_cons, List.length_nil, lc_true_len, rng_len]); omega) | rfl | (subst_vars; first | omega | (simp; done) | (simp; omega)))))⟩
            · rintro Fa16 Ha16 Fe16 He16 σ16 found hst16 fa16 ⟨wj16_6, rfl, g, m_8, hx_16⟩ gl16 hP
              have s := gl16.sub
              have g := g.then gl16
              try dsimp only at hx_16
              try simp only [rng_len] at hx_16
              have sml10 := sml10.trans (fa16.trans gl16.ex)
              have smj11 := smj11.trans (fa16.trans gl16.ex)
              have m_8 := m_8.go gl16
              first | refine q_endS ?_ | refine q_endC ?_ | refine q_end ?_
              exact hN11 _ hP _ _ _ smj11 ⟨_, rfl, g, m_8, (by /- 9 inv -/ first | (first | omega | ((try simp only [hfound, List.length_append, List.length_cons, List.length_nil, lc_true_len, rng_len]); omega) | rfl | (subst_vars; first | omega | (simp; done) | (simp; omega))) | (have hr_hx10 := rng_at hx10; (try simp only [decide_eq_true_eq, decide_eq_false_iff_not, Bool.not_eq_true', Bool.not_eq_false', Bool.and_eq_true, Bool.and_eq_false_iff, Bool.or_eq_true, Bool.or_eq_false_iff] at hc11); (first | omega | ((try simp only [hfound, List.length_append, List.length_cons, List.length_nil, lc_true_len, rng_len]); omega) | rfl | (subst_vars; first | omega | (simp; done) | (simp; omega)))))⟩
          · intro hc11 Hc11 Nj11 ec11 Pj11 hP hN11
            have smj11 := Same.refl Fl10
            have s := s.trans ec11
            have g := g.grow ec11
            have m_8 := m_8.grow ec11
            first | refine q_endS ?_ | refine q_endC ?_ | refine q_end ?_
            exact hN11 _ hP _ _ _ smj11 ⟨_, rfl, g, m_8, (by /- 10 inv -/ first | (first | omega | ((try simp only [hfound, List.length_append, List.length_cons, List.length_nil, lc_true_len, rng_len]); omega) | rfl | (subst_vars; first | omega | (simp; done) | (simp; omega))) | (have hr_hx10 := rng_at hx10; (try simp only [decide_eq_true_eq, decide_eq_false_iff_not, Bool.not_eq_true', Bool.not_eq_false', Bool.and_eq_true, Bool.and_eq_false_iff, Bool.or_eq_true, Bool.or_eq_false_iff] at hc11); (first | omega | ((try simp only [hfound, List.length_append, List.length_cons, List.length_nil, lc_true_len, rng_len]); omega) | rfl | (subst_vars; first | omega | (simp; done) | (simp; omega)))))⟩
          · rintro found Fj11 Hj11 σ11 hst11 fj11 ⟨wj11_6, rfl, g, m_8, hx_11⟩ hP
            have s := g.sub
            try dsimp only at hx_11
            have sml10 := sml10.trans fj11
            first | refine q_endS ?_ | refine q_endC ?_ | refine q_end ?_
            exact hN10 _ hP _ _ _ sml10 ⟨_, _, rfl, g, m_8, (by /- 11 inv -/ first | (first | omega | ((try simp only [hfound, List.length_append, List.length_cons, List.length_nil, lc_true_len, rng_len]); omega) | rfl | (subst_vars; first | omega | (simp; done) | (simp; omega))) | (have hr_hx10 := rng_at hx10; (first | omega | ((try simp only [hfound, List.length_append, List.length_cons, List.length_nil, lc_true_len, rng_len]); omega) | rfl | (subst_vars; first | omega | (simp; done) | (simp; omega)))))⟩
        · rintro Fa17 Ha17 Fe17 He17 σ17 found hst17 fa17 ⟨wj17_6, wj17_5, rfl, g, m_8, hx_17⟩ gl17 hP
          have s := gl17.sub
          have g := g.then gl17
          try dsimp only at hx_17
          try simp only [rng_len] at hx_17
          have sml9 := sml9.trans (fa17.trans gl17.ex)
          have m_8 := m_8.go gl17
          first | refine q_endS ?_ | refine q_endC ?_ | refine q_end ?_
          exact hN9 _ hP _ _ _ sml9 ⟨_, _, _, rfl, g, m_8, (by /- 13 inv -/ first | omega | ((try simp only [hfound, List.length_append, List.length_cons, List.length_nil, lc_true_len, rng_len]); omega) | rfl | (subst_vars; first | omega | (simp; done) | (simp; omega)))⟩
      · rintro Fa18 Ha18 Fe18 He18 σ18 found hst18 fa18 ⟨wj18_5, wj18_6, wj18_4, rfl, g, m_8, hx_18⟩ gl18 hP
        have s := gl18.sub
        have g := g.then gl18
        try dsimp only at hx_18
        try simp only [rng_len] at hx_18
        have m_8 := m_8.go gl18
        refine nf_ (σ' := [some (Flat.val (dI copies)), some (Flat.val (dI reads)), some (Flat.val (dI writes)), some (.ref p8), wj18_4, wj18_5, wj18_6]) rfl ?_
        replace hP := retxL_ok hP
        exact q_retM hP g rfl n_8 m_8
    · exact q_dropE (K := K) (W := (fun cls d _ H => E cls d H)) s (te_call (ta_cons (tv_var rfl hp_0) (ta_cons (tv_var rfl hp_1) (ta_cons (tv_var rfl hp_2) ta_nil))) (sv_need_counts ) he1) (fun F2 H2 cls d g2 x => hP F2 H2 cls d (g.then g2) x)
def m_misses (weaving : (Int × Int × Int)) : Bool := (lt3 weaving fun (had : Int) (late : Int) (heard : Int) => (decide ((Builtin.bitAnd (Builtin.bitOr had late) heard) = (0 : Int))))
abbrev s_misses : Stmt := top 11
def sp_misses (K : Fg) : Sp := fun vs H Q E => ∃ (F : Hp) (weaving : (Int × Int × Int)) (w0 : V), vs = [w0] ∧ Same F H ∧ rp K F weaving w0 ∧ Ret K Z0 F H Q (m_misses weaving)
theorem sv_misses {K : Fg} {weaving : (Int × Int × Int)} : SpV K (sp_misses K) (fun (F : Hp) (vs : List V) => ∃ v r, vs = v :: r ∧ rp K F weaving v ∧ (fun (_ : Hp) (vs : List V) => vs = []) F r) (m_misses weaving) := by
  intro F H vs Q E s h hQ
  obtain ⟨v0, r0, e0, h0, h⟩ := h
  subst h
  subst e0
  exact ⟨F, weaving, v0, rfl, s, h0, fun F' H' p g r => hQ F' H' p g.gr r⟩
theorem sc_misses : FnScope ["weaving", "had", "late", "heard"] ["weaving"] (defScope s_misses) := ⟨rfl, rfl, rfl, by decide +kernel, rfl, by decide +kernel, by decide +kernel⟩
theorem ok_misses {P : Program} {w : World} {K : Fg} {mg : PySem.Str → Option Value} {base : Heap} (B : Bs K mg) {f : Addr} {fd : FuncData} (F : FnP K "misses" s_misses f fd) : FnOk P w K mg base CX0 1 f fd ["weaving"] (sp_misses K) := by
  have nd : (["weaving", "had", "late", "heard"] : List PySem.Str).Nodup := sc_misses.nd
  refine F.ok sc_misses (fun vs H Q E h => ?_) (fun cdv A outer s H0 vs Q E hr h => ?_)
  · obtain ⟨F0, weaving, vp_0, rfl, s, hp_0, hP⟩ := h
    rfl
  · obtain ⟨F0, weaving, vp_0, rfl, s, hp_0, hP⟩ := h
    have g : GrZ Z0 F0 H0 F0 H0 := GrZ.refl s
    refine ⟨_, PSs.nox (by exact (pss_cons (ps_asg (pv 0) (pg_tupK K (by rfl) (pgs_cons (pg_name (i := 1) nd rfl (Or.inl rfl)) (pgs_cons (pg_name (i := 2) nd rfl (Or.inl rfl)) (pgs_cons (pg_name (i := 3) nd rfl (Or.inl rfl)) pgs_nil))))) (pss_cons (ps_ret (pe_cmpR op_eq (pe_op op_and (pe_op op_or (pv 1) (pv 2)) (pv 3)) pe_int (nomark _))) pss_nil))), ?_⟩
    refine nf_ (σ' := [some vp_0, none, none, none]) rfl ?_
    refine q_unp3 (K := K) (P := (Ret K Z0 F0 H0 Q)) hP s (tv_var rfl hp_0) ?_
    intro had late heard F1 H2 v3_0 v3_1 v3_2 hu_had gr3 h3_0 h3_1 h3_2 hP
    have s := gr3.sub
    have g := g.then gr3
    have hp_0 := up gr3.ex hp_0
    obtain rfl := Flat.is h3_0
    obtain rfl := Flat.is h3_1
    obtain rfl := Flat.is h3_2
    refine nf_ (σ' := [some vp_0, some (Flat.val had), some (Flat.val late), some (Flat.val heard)]) rfl ?_
    exact q_retF hP g (tv_op (tv_op (tv_op (tv_var rfl (Flat.of _)) (tv_var rfl (Flat.of _)) op2_bor) (tv_var rfl (Flat.of _)) op2_band) tv_int op2_eqI)
def m_missed (copies : Dy) (reads : Dy) (writes : Dy) : (Except Exn (List (Int × Int × Int))) := (lx (m_weavings copies reads writes) fun (y1 : (List (Int × Int × Int))) => (.ok (lc y1 (fun (weaving : (Int × Int × Int)) => (m_misses weaving)) (fun (weaving : (Int × Int × Int)) => weaving))))
abbrev s_missed : Stmt := top 12
def sp_missed (K : Fg) : Sp := fun vs H Q E => ∃ (F : Hp) (copies : Dy) (reads : Dy) (writes : Dy) (w0 : V) (w1 : V) (w2 : V), vs = [w0, w1, w2] ∧ Same F H ∧ rp K F copies w0 ∧ rp K F reads w1 ∧ rp K F writes w2 ∧ RetXL K Z0 F H Q E (m_missed copies reads writes)
theorem sv_missed {K : Fg} {copies : Dy} {reads : Dy} {writes : Dy} : SpLX K (sp_missed K) (fun (F : Hp) (vs : List V) => ∃ v r, vs = v :: r ∧ rp K F copies v ∧ (fun (F : Hp) (vs : List V) => ∃ v r, vs = v :: r ∧ rp K F reads v ∧ (fun (F : Hp) (vs : List V) => ∃ v r, vs = v :: r ∧ rp K F writes v ∧ (fun (_ : Hp) (vs : List V) => vs = []) F r) F r) F r) (m_missed copies reads writes) := by
  intro F H vs Q E s h hQ hE
  obtain ⟨v0, r0, e0, h0, h⟩ := h
  obtain ⟨v1, r1, e1, h1, h⟩ := h
  obtain ⟨v2, r2, e2, h2, h⟩ := h
  subst h
  subst e2
  subst e1
  subst e0
  refine ⟨F, copies, reads, writes, v0, v1, v2, rfl, s, h0, h1, h2, ?_⟩
  cases hr_ : m_missed copies reads writes with
  | ok y_ => exact fun F' H' p g n m => hQ y_ hr_ F' H' p g.gr n m
  | error e_ => exact fun F' H' cls d g x => hE e_ hr_ F' H' cls d g.gr x
theorem sc_missed : FnScope ["copies", "reads", "writes", "weaving"] ["copies", "reads", "writes"] (defScope s_missed) := ⟨rfl, rfl, rfl, by decide +kernel, rfl, by decide +kernel, by decide +kernel⟩
theorem ok_missed {P : Program} {w : World} {K : Fg} {mg : PySem.Str → Option Value} {base : Heap} (B : Bs K mg) (D_weavings : Dn P w K mg base (L2.CX P w) "weavings" 8 ["copies", "reads", "writes"] (sp_weavings K)) (D_misses : Dn P w K mg base CX0 "misses" 1 ["weaving"] (sp_misses K)) {f : Addr} {fd : FuncData} (F : FnP K "missed" s_missed f fd) : FnOk P w K mg base (L2.CX P w) 9 f fd ["copies", "reads", "writes"] (sp_missed K) := by
  obtain ⟨f_weavings, d_weavings, G_weavings, g_weavings, k_weavings, b_weavings⟩ := D_weavings
  obtain ⟨f_misses, d_misses, G_misses, g_misses, k_misses, b_misses⟩ := D_misses
  have nd : (["copies", "reads", "writes", "weaving"] : List PySem.Str).Nodup := sc_missed.nd
  refine F.ok sc_missed (fun vs H Q E h => ?_) (fun cdv A outer s H0 vs Q E hr h => ?_)
  · obtain ⟨F0, copies, reads, writes, vp_0, vp_1, vp_2, rfl, s, hp_0, hp_1, hp_2, hP⟩ := h
    rfl
  · obtain ⟨F0, copies, reads, writes, vp_0, vp_1, vp_2, rfl, s, hp_0, hp_1, hp_2, hP⟩ := h
    have g : GrZ Z0 F0 H0 F0 H0 := GrZ.refl s
    refine ⟨_, (by exact (pss_cons (ps_ret (pe_lc (own := [("weaving", 3)]) (g := gName 3) (tt := _) rfl nd (pi_listK K (pe_callS G_weavings (hr.mono (by omega)) rfl g_weavings k_weavings b_weavings (fun σ => passAt (takes_of rfl rfl rfl rfl) σ) (pa_cons (pv 0) (pa_cons (pv 1) (pa_cons (pv 2) pa_nil))))) (blkOk_by (own := [("weaving", 3)]) (N := ["copies", "reads", "writes", "weaving"]) (sc := defScope s_missed) (by decide +kernel)) (fun _ _ _ _ _ => pg_name (i := 3) nd rfl (Or.inl rfl)) (fun _ _ _ _ _ => (pts_one (pt_val (pe_call G_misses (hr.mono (by omega)) rfl g_misses k_misses b_misses .nil pass0 (pa_cons (pv 3) pa_nil))))) (fun _ _ _ _ _ => (pv 3)))) pss_nil)), ?_⟩
    refine q_lx (P := (RetXL K Z0 F0 H0 Q E)) hP (fun y1 hy1 hP => ?_) (fun e1 he1 hP => ?_)
    · refine nf_ (σ' := [some vp_0, some vp_1, some vp_2, none]) rfl ?_
      replace hP := retxL_ok hP
      exact q_retL hP g (tl_lc (fun (weaving : (Int × Int × Int)) => (m_misses weaving)) (fun (weaving : (Int × Int × Int)) => weaving) (it_list (K := K) (TvL.tv (tl_callX (ta_cons (tv_var rfl hp_0) (ta_cons (tv_var rfl hp_1) (ta_cons (tv_var rfl hp_2) ta_nil))) (sv_weavings ) hy1))) stb_t trivial (by /- 1 lclen -/ (have := weav_small hy1); omega) (fun i2 weaving v2 F2 H2 hx2 gr2 hv2 R2 k2 => g_name <|  (k2 _ rfl ((tt_B (K := K) (tv_call (ta_cons (tv_var rfl (up gr2.sub hv2)) ta_nil) (sv_misses )))) (fun H2' e2 hcl2 => (tv_var rfl hv2)))))
    · exact q_retE (K := K) (W := (fun cls d _ H => E cls d H)) s (te_lc (te_callL (ta_cons (tv_var rfl hp_0) (ta_cons (tv_var rfl hp_1) (ta_cons (tv_var rfl hp_2) ta_nil))) (sv_weavings ) he1)) (fun F2 H2 cls d g2 x => hP F2 H2 cls d (g.then g2) x)
theorem bits_small : ∀ n : _root_.Fin 32, Builtin.Int.intBits (n.val : Int) ≤ 5 := by decide +kernel
theorem bits_ok {n : Int} (h : 0 ≤ n ∧ n < 32) : Builtin.Int.intBits n ≤ 5 := by
  have := bits_small ⟨n.toNat, by omega⟩
  have e : ((n.toNat : Nat) : Int) = n := by omega
  rw [← e]; exact this
def m_homes_in (some' : Int) : (List Int) := (lc (rng 0 (((Builtin.Int.intBits some' : Nat) : Int)).toNat) (fun (at' : Int) => (decide ((Builtin.bitAnd (some' / 2 ^ (at').toNat) (1 : Int)) = (1 : Int)))) (fun (at' : Int) => at'))
theorem hin_small : ∀ n : _root_.Fin 32, (m_homes_in (n.val : Int)).length ≤ 5 ∧ ∀ x ∈ m_homes_in (n.val : Int), 0 ≤ x ∧ x ≤ 4 := by decide +kernel
theorem hin_ok {n : Int} (h : 0 ≤ n ∧ n < 32) : (m_homes_in n).length ≤ 5 ∧ ∀ x ∈ m_homes_in n, 0 ≤ x ∧ x ≤ 4 := by
  have := hin_small ⟨n.toNat, by omega⟩
  have e : ((n.toNat : Nat) : Int) = n := by omega
  rw [← e]; exact this
abbrev s_homes_in : Stmt := top 13
def sp_homes_in (K : Fg) : Sp := fun vs H Q E => ∃ (F : Hp) (some' : Int) (w0 : V), vs = [w0] ∧ Same F H ∧ rp K F some' w0 ∧ (0 ≤ some' ∧ some' < 32) ∧ RetL K Z0 F H Q (m_homes_in some')
theorem sv_homes_in {K : Fg} {some' : Int} (hpre : 0 ≤ some' ∧ some' < 32) : SpL K (sp_homes_in K) (fun (F : Hp) (vs : List V) => ∃ v r, vs = v :: r ∧ rp K F some' v ∧ (fun (_ : Hp) (vs : List V) => vs = []) F r) (m_homes_in some') := by
  intro F H vs Q E s h hQ
  obtain ⟨v0, r0, e0, h0, h⟩ := h
  subst h
  subst e0
  exact ⟨F, some', v0, rfl, s, h0, hpre, fun F' H' p g n m => hQ F' H' p g.gr n m⟩
theorem sc_homes_in : FnScope ["some", "at"] ["some"] (defScope s_homes_in) := ⟨rfl, rfl, rfl, by decide +kernel, rfl, by decide +kernel, by decide +kernel⟩
theorem ok_homes_in {P : Program} {w : World} {K : Fg} {mg : PySem.Str → Option Value} {base : Heap} (B : Bs K mg) {f : Addr} {fd : FuncData} (F : FnP K "homes_in" s_homes_in f fd) : FnOk P w K mg base CX0 1 f fd ["some"] (sp_homes_in K) := by
  have nd : (["some", "at"] : List PySem.Str).Nodup := sc_homes_in.nd
  refine F.ok sc_homes_in (fun vs H Q E h => ?_) (fun cdv A outer s H0 vs Q E hr h => ?_)
  · obtain ⟨F0, some', w0, rfl, s, hw0, hpre, hP⟩ := h
    rfl
  · obtain ⟨F0, some', w0, rfl, s, hw0, hpre, hP⟩ := h
    obtain rfl := Flat.is hw0
    have hb := bits_ok hpre
    have g : GrZ Z0 F0 H0 F0 H0 := GrZ.refl s
    refine ⟨_, PSs.nox (by exact (pss_cons (ps_ret (pe_lc (own := [("at", 1)]) (g := gName 1) (tt := _) rfl nd (pi_range1 rfl B.b_range (pa_cons (pe_bits (pv 0)) pa_nil)) (blkOk_by (own := [("at", 1)]) (N := ["some", "at"]) (sc := defScope s_homes_in) (by decide +kernel)) (fun _ _ _ _ _ => pg_name (i := 1) nd rfl (Or.inl rfl)) (fun _ _ _ _ _ => (pts_one (pt_cmpR op_eq (pe_op op_and (pe_op op_shr (pv 0) (pv 1)) pe_int) pe_int (nomark _)))) (fun _ _ _ _ _ => (pv 1)))) pss_nil)), ?_⟩
    refine nf_ (σ' := [some (Flat.val some'), none]) rfl ?_
    exact q_retL hP g (tl_lc (fun (at' : Int) => (decide ((Builtin.bitAnd (some' / 2 ^ (at').toNat) (1 : Int)) = (1 : Int)))) (fun (at' : Int) => at') (it_range1 (K := K) (tv_bits (tv_var rfl (Flat.of _))) (by /- 1 rlo -/ omega) (by /- 2 rhi -/ omega)) stb_t trivial (by /- 4 lclen -/ first | (simp only [rng_len]; omega) | omega) (fun i1 at' v1 F1 H1 hx1 gr1 hv1 R1 k1 => g_nameF hv1 fun _ =>  (k1 _ rfl ((tt_test (K := K) (tv_op (tv_op (tv_op (tv_var rfl (Flat.of _)) (tv_var rfl (Flat.of _)) (op2_shr (by /- 3 nn -/ first | (first | decide | omega) | (have hr_hx1 := rng_at hx1; (first | decide | omega))))) tv_int op2_band) tv_int op2_eqI))) (fun H1' e1 hcl1 => (tv_flat (tv_var rfl (Flat.of _)))))))
def m_bring_rows (numbers : (List Int)) : (List PySem.Str) := (lc numbers (fun (number : Int) => true) (fun (number : Int) => (("bring " : PySem.Str) ++ (strI number))))
theorem bring_len (xs : List Int) : (m_bring_rows xs).length = xs.length := by
  unfold m_bring_rows
  exact lc_true_len _ _
theorem lc_shift {xs : List Int} {d lo hi : Int} (h : ∀ x ∈ xs, lo ≤ x ∧ x ≤ hi) : ∀ x ∈ lc xs (fun _ => true) (fun at' => d + at'), d + lo ≤ x ∧ x ≤ d + hi := by
  intro x hx
  unfold lc at hx
  obtain ⟨y, hy, rfl⟩ := List.mem_map.mp hx
  have := h y (List.mem_filter.mp hy).1
  omega
theorem rng_mem {n : Nat} : ∀ x ∈ rng 0 n, 0 ≤ x ∧ x ≤ (n : Int) - 1 := by
  intro x hx
  obtain ⟨i, hi, e⟩ := List.getElem_of_mem hx
  have := rng_at (show (rng 0 n)[i]? = some x by rw [List.getElem?_eq_getElem hi, e])
  omega
abbrev s_bring_rows : Stmt := top 14
def sp_bring_rows (K : Fg) : Sp := fun vs H Q E => ∃ (F : Hp) (numbers : (List Int)) (w0 : V), vs = [w0] ∧ Same F H ∧ rp K F numbers w0 ∧ (numbers.length ≤ 100 ∧ ∀ x ∈ numbers, 0 ≤ x ∧ x ≤ 1000) ∧ RetL K Z0 F H Q (m_bring_rows numbers)
theorem sv_bring_rows {K : Fg} {numbers : (List Int)} (hpre : numbers.length ≤ 100 ∧ ∀ x ∈ numbers, 0 ≤ x ∧ x ≤ 1000) : SpL K (sp_bring_rows K) (fun (F : Hp) (vs : List V) => ∃ v r, vs = v :: r ∧ rp K F numbers v ∧ (fun (_ : Hp) (vs : List V) => vs = []) F r) (m_bring_rows numbers) := by
  intro F H vs Q E s h hQ
  obtain ⟨v0, r0, e0, h0, h⟩ := h
  subst h
  subst e0
  exact ⟨F, numbers, v0, rfl, s, h0, hpre, fun F' H' p g n m => hQ F' H' p g.gr n m⟩
theorem sc_bring_rows : FnScope ["numbers", "number"] ["numbers"] (defScope s_bring_rows) := ⟨rfl, rfl, rfl, by decide +kernel, rfl, by decide +kernel, by decide +kernel⟩
theorem ok_bring_rows {P : Program} {w : World} {K : Fg} {mg : PySem.Str → Option Value} {base : Heap} (B : Bs K mg) {f : Addr} {fd : FuncData} (F : FnP K "bring_rows" s_bring_rows f fd) : FnOk P w K mg base CX0 1 f fd ["numbers"] (sp_bring_rows K) := by
  have nd : (["numbers", "number"] : List PySem.Str).Nodup := sc_bring_rows.nd
  refine F.ok sc_bring_rows (fun vs H Q E h => ?_) (fun cdv A outer s H0 vs Q E hr h => ?_)
  · obtain ⟨F0, numbers, vp_0, rfl, s, hp_0, hpre, hP⟩ := h
    rfl
  · obtain ⟨F0, numbers, vp_0, rfl, s, hp_0, hpre, hP⟩ := h
    have g : GrZ Z0 F0 H0 F0 H0 := GrZ.refl s
    refine ⟨_, PSs.nox (by exact (pss_cons (ps_ret (pe_lc (own := [("number", 1)]) (g := gName 1) (tt := _) rfl nd (pi_listK K (pv 0)) (blkOk_by (own := [("number", 1)]) (N := ["numbers", "number"]) (sc := defScope s_bring_rows) (by decide +kernel)) (fun _ _ _ _ _ => pg_name (i := 1) nd rfl (Or.inl rfl)) (fun _ _ _ _ _ => pts_nil) (fun _ _ _ _ _ => (pe_op op_add_str pe_str (pe_callTy call_str_int (by rfl) B.b_str (by decide +kernel) (pa_cons (pv 1) pa_nil)))))) pss_nil)), ?_⟩
    refine nf_ (σ' := [some vp_0, none]) rfl ?_
    exact q_retL hP g (tl_lc (fun (number : Int) => true) (fun (number : Int) => (("bring " : PySem.Str) ++ (strI number))) (it_list (K := K) (tv_var rfl hp_0)) stb_t trivial (by /- 3 lclen -/ first | (simp only [rng_len]; omega) | omega) (fun i1 number v1 F1 H1 hx1 gr1 hv1 R1 k1 => g_nameF hv1 fun _ =>  (k1 _ rfl (tt_yes) (fun H1' e1 hcl1 => (tv_flat (tv_op tv_str (tv_cb (ta_cons (tv_var rfl (Flat.of _)) ta_nil) (cb_strI (by /- 1 log -/ first | (exact log_small (by omega) (by omega)) | (have hm_hx1 := hpre.2 _ (List.mem_of_getElem? hx1); (try simp only [decide_eq_true_eq, decide_eq_false_iff_not, Bool.not_eq_true', Bool.not_eq_false', Bool.and_eq_true, Bool.and_eq_false_iff, Bool.or_eq_true, Bool.or_eq_false_iff] at hcl1); (exact log_small (by omega) (by omega)))))) (op2_cats (by /- 2 strlen -/ first | ((have : (("bring " : PySem.Str)).length = 6 := by decide +kernel); (have := strI_len (n := number) (log_small (by omega) (by omega))); ((try simp only [app_len, List.map_cons, List.map_nil, List.sum_cons, List.sum_nil, List.length_cons, List.length_nil]); omega)) | (have hm_hx1 := hpre.2 _ (List.mem_of_getElem? hx1); (try simp only [decide_eq_true_eq, decide_eq_false_iff_not, Bool.not_eq_true', Bool.not_eq_false', Bool.and_eq_true, Bool.and_eq_false_iff, Bool.or_eq_true, Bool.or_eq_false_iff] at hcl1); ((have : (("bring " : PySem.Str)).length = 6 := by decide +kernel); (have := strI_len (n := number) (log_small (by omega) (by omega))); ((try simp only [app_len, List.map_cons, List.map_nil, List.sum_cons, List.sum_nil, List.length_cons, List.length_nil]); omega)))))))))))
def m_rows_of (copies : Dy) (reads : Dy) (writes : Dy) (weaving : (Int × Int × Int)) : (Except Exn (List PySem.Str)) := (lx (m_need_counts copies reads writes) fun (y1 : Unit) => (ltL3 (lc (ItemsT.its (τ := (Int × Int × Int)) weaving) (fun (some' : Int) => true) (fun (some' : Int) => (m_homes_in some'))) fun (had : (List Int)) (late : (List Int)) (heard : (List Int)) => (lt (lc (rng 0 ((dI copies)).toNat) (fun (at' : Int) => true) (fun (at' : Int) => (((("come " : PySem.Str) ++ (chI ("abcde" : PySem.Str) at')) ++ (".a.a " : PySem.Str)) ++ (strI at')))) fun (rows : (List PySem.Str)) => (lt (rows ++ ([(fj [("thing 0 " : PySem.Str), (strI (dI copies)), (" " : PySem.Str), (strI (dI reads)), (" " : PySem.Str), (strI (dI writes))]), ("write x 0 v" : PySem.Str)] : List PySem.Str)) fun (rows : (List PySem.Str)) => (lt (rows ++ (m_bring_rows (lc had (fun (at' : Int) => true) (fun (at' : Int) => ((1 : Int) + at'))))) fun (rows : (List PySem.Str)) => (lt (rows ++ (m_bring_rows (lc (rng 0 ((had.length : Int)).toNat) (fun (at' : Int) => true) (fun (at' : Int) => (((dI copies) + (1 : Int)) + at'))))) fun (rows : (List PySem.Str)) => (lt ((rows ++ ([("read y 0" : PySem.Str)] : List PySem.Str)) ++ (m_bring_rows (lc late (fun (at' : Int) => true) (fun (at' : Int) => ((1 : Int) + at'))))) fun (rows : (List PySem.Str)) => (lt ((dI copies) + (had.length : Int)) fun (queries : Int) => (lt (rows ++ (m_bring_rows (lc heard (fun (at' : Int) => true) (fun (at' : Int) => ((queries + (1 : Int)) + at'))))) fun (rows : (List PySem.Str)) => (lt ((queries + (dI copies)) + (late.length : Int)) fun (answers : Int) => (.ok (rows ++ (m_bring_rows (lc (rng 0 ((heard.length : Int)).toNat) (fun (at' : Int) => true) (fun (at' : Int) => ((answers + (1 : Int)) + at'))))))))))))))))
abbrev s_rows_of : Stmt := top 15
def sp_rows_of (K : Fg) : Sp := fun vs H Q E => ∃ (F : Hp) (copies : Dy) (reads : Dy) (writes : Dy) (weaving : (Int × Int × Int)) (w0 : V) (w1 : V) (w2 : V) (w3 : V), vs = [w0, w1, w2, w3] ∧ Same F H ∧ rp K F copies w0 ∧ rp K F reads w1 ∧ rp K F writes w2 ∧ rp K F weaving w3 ∧ ((0 ≤ weaving.1 ∧ weaving.1 < 32) ∧ (0 ≤ weaving.2.1 ∧ weaving.2.1 < 32) ∧ (0 ≤ weaving.2.2 ∧ weaving.2.2 < 32)) ∧ RetXL K Z0 F H Q E (m_rows_of copies reads writes weaving)
theorem sv_rows_of {K : Fg} {copies : Dy} {reads : Dy} {writes : Dy} {weaving : (Int × Int × Int)} (hpre : (0 ≤ weaving.1 ∧ weaving.1 < 32) ∧ (0 ≤ weaving.2.1 ∧ weaving.2.1 < 32) ∧ (0 ≤ weaving.2.2 ∧ weaving.2.2 < 32)) : SpLX K (sp_rows_of K) (fun (F : Hp) (vs : List V) => ∃ v r, vs = v :: r ∧ rp K F copies v ∧ (fun (F : Hp) (vs : List V) => ∃ v r, vs = v :: r ∧ rp K F reads v ∧ (fun (F : Hp) (vs : List V) => ∃ v r, vs = v :: r ∧ rp K F writes v ∧ (fun (F : Hp) (vs : List V) => ∃ v r, vs = v :: r ∧ rp K F weaving v ∧ (fun (_ : Hp) (vs : List V) => vs = []) F r) F r) F r) F r) (m_rows_of copies reads writes weaving) := by
  intro F H vs Q E s h hQ hE
  obtain ⟨v0, r0, e0, h0, h⟩ := h
  obtain ⟨v1, r1, e1, h1, h⟩ := h
  obtain ⟨v2, r2, e2, h2, h⟩ := h
  obtain ⟨v3, r3, e3, h3, h⟩ := h
  subst h
  subst e3
  subst e2
  subst e1
  subst e0
  refine ⟨F, copies, reads, writes, weaving, v0, v1, v2, v3, rfl, s, h0, h1, h2, h3, hpre, ?_⟩
  cases hr_ : m_rows_of copies reads writes weaving with
  | ok y_ => exact fun F' H' p g n m => hQ y_ hr_ F' H' p g.gr n m
  | error e_ => exact fun F' H' cls d g x => hE e_ hr_ F' H' cls d g.gr x
theorem sc_rows_of : FnScope ["copies", "reads", "writes", "weaving", "had", "late", "heard", "rows", "queries", "answers", "some", "at"] ["copies", "reads", "writes", "weaving"] (defScope s_rows_of) := ⟨rfl, rfl, rfl, by decide +kernel, rfl, by decide +kernel, by decide +kernel⟩
theorem ok_rows_of {P : Program} {w : World} {K : Fg} {mg : PySem.Str → Option Value} {base : Heap} (B : Bs K mg) (D_need_counts : Dn P w K mg base (L2.CX P w) "need_counts" 2 ["copies", "reads", "writes"] (sp_need_counts K)) (D_homes_in : Dn P w K mg base CX0 "homes_in" 1 ["some"] (sp_homes_in K)) (D_bring_rows : Dn P w K mg base CX0 "bring_rows" 1 ["numbers"] (sp_bring_rows K)) {f : Addr} {fd : FuncData} (F : FnP K "rows_of" s_rows_of f fd) : FnOk P w K mg base (L2.CX P w) 3 f fd ["copies", "reads", "writes", "weaving"] (sp_rows_of K) := by
  obtain ⟨f_need_counts, d_need_counts, G_need_counts, g_need_counts, k_need_counts, b_need_counts⟩ := D_need_counts
  obtain ⟨f_homes_in, d_homes_in, G_homes_in, g_homes_in, k_homes_in, b_homes_in⟩ := D_homes_in
  obtain ⟨f_bring_rows, d_bring_rows, G_bring_rows, g_bring_rows, k_bring_rows, b_bring_rows⟩ := D_bring_rows
  obtain ⟨t_NAMES, c_NAMES⟩ := B.c_NAMES
  have nd : (["copies", "reads", "writes", "weaving", "had", "late", "heard", "rows", "queries", "answers", "some", "at"] : List PySem.Str).Nodup := sc_rows_of.nd
  refine F.ok sc_rows_of (fun vs H Q E h => ?_) (fun cdv A outer s H0 vs Q E hr h => ?_)
  · obtain ⟨F0, copies, reads, writes, weaving, vp_0, vp_1, vp_2, vp_3, rfl, s, hp_0, hp_1, hp_2, hp_3, hpre, hP⟩ := h
    rfl
  · obtain ⟨F0, copies, reads, writes, weaving, vp_0, vp_1, vp_2, vp_3, rfl, s, hp_0, hp_1, hp_2, hp_3, hpre, hP⟩ := h
    have hN : (("abcde" : PySem.Str)).length = 5 := by decide +kernel
    have hh1 := hin_ok hpre.1
    have hh2 := hin_ok hpre.2.1
    have hh3 := hin_ok hpre.2.2
    have g : GrZ Z0 F0 H0 F0 H0 := GrZ.refl s
    refine ⟨_, (by exact (pss_cons (ps_expr (pe_callS G_need_counts (hr.mono (by omega)) rfl g_need_counts k_need_counts b_need_counts (fun σ => passAt (takes_of rfl rfl rfl rfl) σ) (pa_cons (pv 0) (pa_cons (pv 1) (pa_cons (pv 2) pa_nil))))) (pss_cons (ps_asg (pe_lc (own := [("some", 10)]) (g := gName 10) (tt := _) rfl nd (pi_tupK K (pv 3)) (blkOk_by (own := [("some", 10)]) (N := ["copies", "reads", "writes", "weaving", "had", "late", "heard", "rows", "queries", "answers", "some", "at"]) (sc := defScope s_rows_of) (by decide +kernel)) (fun _ _ _ _ _ => pg_name (i := 10) nd rfl (Or.inl rfl)) (fun _ _ _ _ _ => pts_nil) (fun _ _ _ _ _ => (pe_call G_homes_in (hr.mono (by omega)) rfl g_homes_in k_homes_in b_homes_in .nil pass0 (pa_cons (pv 10) pa_nil)))) (pg_lst (by rfl) (pgs_cons (pg_name (i := 4) nd rfl (Or.inl rfl)) (pgs_cons (pg_name (i := 5) nd rfl (Or.inl rfl)) (pgs_cons (pg_name (i := 6) nd rfl (Or.inl rfl)) pgs_nil))))) (pss_cons (ps_setLc (i := 7) (own := [("at", 11)]) (g := gName 11) (tt := _) rfl nd rfl rfl (sw_true rfl rfl rfl (by decide +kernel)) (pi_range1 rfl B.b_range (pa_cons (pv 0) pa_nil)) (blkOk_by (own := [("at", 11)]) (N := ["copies", "reads", "writes", "weaving", "had", "late", "heard", "rows", "queries", "answers", "some", "at"]) (sc := defScope s_rows_of) (by decide +kernel)) (fun _ _ _ _ _ => pg_name (i := 11) nd rfl (Or.inl rfl)) (fun _ _ _ _ _ => pts_nil) (fun _ _ _ _ _ => (pe_op op_add_str (pe_op op_add_str (pe_op op_add_str pe_str (pe_ix ix_str (pe_glob (v := .str "abcde") rfl c_NAMES ⟨_, rfl⟩) (pv 11) (fun _ _ => rfl))) pe_str) (pe_callTy call_str_int (by rfl) B.b_str (by decide +kernel) (pa_cons (pv 11) pa_nil))))) (pss_cons (ps_set (i := 7) nd rfl (Or.inl rfl) (pe_op op_cat (pv 7) (pe_lst (pa_cons (pe_joined (PJ.cons pe_str (PJ.cons (pe_fmt (pv 0)) (PJ.cons pe_str (PJ.cons (pe_fmt (pv 1)) (PJ.cons pe_str (PJ.cons (pe_fmt (pv 2)) PJ.nil))))))) (pa_cons pe_str pa_nil))))) (pss_cons (ps_set (i := 7) nd rfl (Or.inl rfl) (pe_op op_cat (pv 7) (pe_call G_bring_rows (hr.mono (by omega)) rfl g_bring_rows k_bring_rows b_bring_rows .nil pass0 (pa_cons (pe_lc (own := [("at", 11)]) (g := gName 11) (tt := _) rfl nd (pi_listK K (pv 4)) (blkOk_by (own := [("at", 11)]) (N := ["copies", "reads", "writes", "weaving", "had", "late", "heard", "rows", "queries", "answers", "some", "at"]) (sc := defScope s_rows_of) (by decide +kernel)) (fun _ _ _ _ _ => pg_name (i := 11) nd rfl (Or.inl rfl)) (fun _ _ _ _ _ => pts_nil) (fun _ _ _ _ _ => (pe_op op_add pe_int (pv 11)))) pa_nil)))) (pss_cons (ps_set (i := 7) nd rfl (Or.inl rfl) (pe_op op_cat (pv 7) (pe_call G_bring_rows (hr.mono (by omega)) rfl g_bring_rows k_bring_rows b_bring_rows .nil pass0 (pa_cons (pe_lc (own := [("at", 11)]) (g := gName 11) (tt := _) rfl nd (pi_range1 rfl B.b_range (pa_cons (pe_callB (len_seqK K) (by rfl) B.b_len (by decide +kernel) (pa_cons (pv 4) pa_nil)) pa_nil)) (blkOk_by (own := [("at", 11)]) (N := ["copies", "reads", "writes", "weaving", "had", "late", "heard", "rows", "queries", "answers", "some", "at"]) (sc := defScope s_rows_of) (by decide +kernel)) (fun _ _ _ _ _ => pg_name (i := 11) nd rfl (Or.inl rfl)) (fun _ _ _ _ _ => pts_nil) (fun _ _ _ _ _ => (pe_op op_add (pe_op op_add (pv 0) pe_int) (pv 11)))) pa_nil)))) (pss_cons (ps_set (i := 7) nd rfl (Or.inl rfl) (pe_op op_cat (pe_op op_cat (pv 7) (pe_lst (pa_cons pe_str pa_nil))) (pe_call G_bring_rows (hr.mono (by omega)) rfl g_bring_rows k_bring_rows b_bring_rows .nil pass0 (pa_cons (pe_lc (own := [("at", 11)]) (g := gName 11) (tt := _) rfl nd (pi_listK K (pv 5)) (blkOk_by (own := [("at", 11)]) (N := ["copies", "reads", "writes", "weaving", "had", "late", "heard", "rows", "queries", "answers", "some", "at"]) (sc := defScope s_rows_of) (by decide +kernel)) (fun _ _ _ _ _ => pg_name (i := 11) nd rfl (Or.inl rfl)) (fun _ _ _ _ _ => pts_nil) (fun _ _ _ _ _ => (pe_op op_add pe_int (pv 11)))) pa_nil)))) (pss_cons (ps_set (i := 8) nd rfl (Or.inr rfl) (pe_op op_add (pv 0) (pe_callB (len_seqK K) (by rfl) B.b_len (by decide +kernel) (pa_cons (pv 4) pa_nil)))) (pss_cons (ps_set (i := 7) nd rfl (Or.inl rfl) (pe_op op_cat (pv 7) (pe_call G_bring_rows (hr.mono (by omega)) rfl g_bring_rows k_bring_rows b_bring_rows .nil pass0 (pa_cons (pe_lc (own := [("at", 11)]) (g := gName 11) (tt := _) rfl nd (pi_listK K (pv 6)) (blkOk_by (own := [("at", 11)]) (N := ["copies", "reads", "writes", "weaving", "had", "late", "heard", "rows", "queries", "answers", "some", "at"]) (sc := defScope s_rows_of) (by decide +kernel)) (fun _ _ _ _ _ => pg_name (i := 11) nd rfl (Or.inl rfl)) (fun _ _ _ _ _ => pts_nil) (fun _ _ _ _ _ => (pe_op op_add (pe_op op_add (pv 8) pe_int) (pv 11)))) pa_nil)))) (pss_cons (ps_set (i := 9) nd rfl (Or.inr rfl) (pe_op op_add (pe_op op_add (pv 8) (pv 0)) (pe_callB (len_seqK K) (by rfl) B.b_len (by decide +kernel) (pa_cons (pv 5) pa_nil)))) (pss_cons (ps_ret (pe_op op_cat (pv 7) (pe_call G_bring_rows (hr.mono (by omega)) rfl g_bring_rows k_bring_rows b_bring_rows .nil pass0 (pa_cons (pe_lc (own := [("at", 11)]) (g := gName 11) (tt := _) rfl nd (pi_range1 rfl B.b_range (pa_cons (pe_callB (len_seqK K) (by rfl) B.b_len (by decide +kernel) (pa_cons (pv 6) pa_nil)) pa_nil)) (blkOk_by (own := [("at", 11)]) (N := ["copies", "reads", "writes", "weaving", "had", "late", "heard", "rows", "queries", "answers", "some", "at"]) (sc := defScope s_rows_of) (by decide +kernel)) (fun _ _ _ _ _ => pg_name (i := 11) nd rfl (Or.inl rfl)) (fun _ _ _ _ _ => pts_nil) (fun _ _ _ _ _ => (pe_op op_add (pe_op op_add (pv 9) pe_int) (pv 11)))) pa_nil)))) pss_nil)))))))))))), ?_⟩
    refine q_lx (P := (RetXL K Z0 F0 H0 Q E)) hP (fun y1 hy1 hP => ?_) (fun e1 he1 hP => ?_)
    · refine nf_ (σ' := [some vp_0, some vp_1, some vp_2, some vp_3, none, none, none, none, none, none, none, none]) rfl ?_
      refine q_drop s (tv_flat (tv_callX (ta_cons (tv_var rfl (up s hp_0)) (ta_cons (tv_var rfl (up s hp_1)) (ta_cons (tv_var rfl (up s hp_2)) ta_nil))) (sv_need_counts ) hy1)) ?_
      intro F2 H3 gr4
      have s := gr4.sub
      have g := g.then gr4
      have hp_0 := up gr4.ex hp_0
      have hp_1 := up gr4.ex hp_1
      have hp_2 := up gr4.ex hp_2
      have hp_3 := up gr4.ex hp_3
      obtain ⟨hn_copies, hn_reads, hn_writes, hb1, hb2, hb3, hb4, hb5, hb6⟩ := need_ok hy1
      obtain rfl := rp_dI hn_copies hp_0
      obtain rfl := rp_dI hn_reads hp_1
      obtain rfl := rp_dI hn_writes hp_2
      refine nf_ (σ' := [some (Flat.val (dI copies)), some (Flat.val (dI reads)), some (Flat.val (dI writes)), some vp_3, none, none, none, none, none, none, none, none]) rfl ?_
      refine q_unpL3 (K := K) (P := (RetXL K Z0 F0 H0 Q E)) hP s (TvL.tv (tl_lc (fun (some' : Int) => true) (fun (some' : Int) => (m_homes_in some')) (it_tupI (K := K) (tv_var rfl hp_3)) stb_t trivial (by /- 2 lclen -/ (show 3 < 100000); decide) (fun i5 some' v5 F5 H5 hx5 gr5 hv5 R5 k5 => g_nameF hv5 fun _ =>  (k5 _ rfl (tt_yes) (fun H5' e5 hcl5 => (TvL.tv (tl_call (ta_cons (tv_flat (tv_var rfl (Flat.of _))) ta_nil) (sv_homes_in (by /- 1 pre:homes_in -/ (have hq : some' = weaving.1 ∨ some' = weaving.2.1 ∨ some' = weaving.2.2 := by (have := List.mem_of_getElem? hx5; simpa [ItemsT.its] using this)); omega))))))))) (by /- 3 unp -/ rfl) ?_
      intro had late heard F6 H7 v8_0 v8_1 v8_2 hu_had gr8 h8_0 h8_1 h8_2 hP
      obtain ⟨e1, e2, e3⟩ : m_homes_in weaving.1 = had ∧ m_homes_in weaving.2.1 = late ∧ m_homes_in weaving.2.2 = heard := by (have e3 : [m_homes_in weaving.1, m_homes_in weaving.2.1, m_homes_in weaving.2.2] = [had, late, heard] := hu_had); simpa using e3
      rw [e1] at hh1
      rw [e2] at hh2
      rw [e3] at hh3
      clear hu_had
      have s := gr8.sub
      have g := g.then gr8
      have hp_3 := up gr8.ex hp_3
      refine nf_ (σ' := [some (Flat.val (dI copies)), some (Flat.val (dI reads)), some (Flat.val (dI writes)), some vp_3, some v8_0, some v8_1, some v8_2, none, none, none, none, none]) rfl ?_
      refine q_set (K := K) (P := (RetXL K Z0 F0 H0 Q E)) hP s (TvL.tv (tl_lc (fun (at' : Int) => true) (fun (at' : Int) => (((("come " : PySem.Str) ++ (chI ("abcde" : PySem.Str) at')) ++ (".a.a " : PySem.Str)) ++ (strI at'))) (it_range1 (K := K) (tv_var rfl (Flat.of _)) (by /- 4 rlo -/ omega) (by /- 5 rhi -/ omega)) stb_t trivial (by /- 12 lclen -/ first | (simp only [rng_len]; omega) | omega) (fun i9 at' v9 F9 H9 hx9 gr9 hv9 R9 k9 => g_nameF hv9 fun _ =>  (k9 _ rfl (tt_yes) (fun H9' e9 hcl9 => (tv_flat (tv_op (tv_op (tv_op tv_str (tv_op tv_str (tv_var rfl (Flat.of _)) (op2_ixS (by /- 6 strlen1 -/ first | (first | decide +kernel | omega) | (have hr_hx9 := rng_at hx9; (try simp only [decide_eq_true_eq, decide_eq_false_iff_not, Bool.not_eq_true', Bool.not_eq_false', Bool.and_eq_true, Bool.and_eq_false_iff, Bool.or_eq_true, Bool.or_eq_false_iff] at hcl9); (first | decide +kernel | omega))) (by /- 7 ixs -/ first | (exact ⟨by omega, by omega⟩) | (have hr_hx9 := rng_at hx9; (try simp only [decide_eq_true_eq, decide_eq_false_iff_not, Bool.not_eq_true', Bool.not_eq_false', Bool.and_eq_true, Bool.and_eq_false_iff, Bool.or_eq_true, Bool.or_eq_false_iff] at hcl9); (exact ⟨by omega, by omega⟩))))) (op2_cats (by /- 8 strlen -/ first | ((have : (("come " : PySem.Str)).length = 5 := by decide +kernel); (have : (("abcde" : PySem.Str)).length = 5 := by decide +kernel); (have : (chI ("abcde" : PySem.Str) at').length = 1 := rfl); ((try simp only [app_len, List.map_cons, List.map_nil, List.sum_cons, List.sum_nil, List.length_cons, List.length_nil]); omega)) | (have hr_hx9 := rng_at hx9; (try simp only [decide_eq_true_eq, decide_eq_false_iff_not, Bool.not_eq_true', Bool.not_eq_false', Bool.and_eq_true, Bool.and_eq_false_iff, Bool.or_eq_true, Bool.or_eq_false_iff] at hcl9); ((have : (("come " : PySem.Str)).length = 5 := by decide +kernel); (have : (("abcde" : PySem.Str)).length = 5 := by decide +kernel); (have : (chI ("abcde" : PySem.Str) at').length = 1 := rfl); ((try simp only [app_len, List.map_cons, List.map_nil, List.sum_cons, List.sum_nil, List.length_cons, List.length_nil]); omega)))))) tv_str (op2_cats (by /- 9 strlen -/ first | ((have : (("come " : PySem.Str)).length = 5 := by decide +kernel); (have : (("abcde" : PySem.Str)).length = 5 := by decide +kernel); (have : ((".a.a " : PySem.Str)).length = 5 := by decide +kernel); (have : (chI ("abcde" : PySem.Str) at').length = 1 := rfl); ((try simp only [app_len, List.map_cons, List.map_nil, List.sum_cons, List.sum_nil, List.length_cons, List.length_nil]); omega)) | (have hr_hx9 := rng_at hx9; (try simp only [decide_eq_true_eq, decide_eq_false_iff_not, Bool.not_eq_true', Bool.not_eq_false', Bool.and_eq_true, Bool.and_eq_false_iff, Bool.or_eq_true, Bool.or_eq_false_iff] at hcl9); ((have : (("come " : PySem.Str)).length = 5 := by decide +kernel); (have : (("abcde" : PySem.Str)).length = 5 := by decide +kernel); (have : ((".a.a " : PySem.Str)).length = 5 := by decide +kernel); (have : (chI ("abcde" : PySem.Str) at').length = 1 := rfl); ((try simp only [app_len, List.map_cons, List.map_nil, List.sum_cons, List.sum_nil, List.length_cons, List.length_nil]); omega)))))) (tv_cb (ta_cons (tv_var rfl (Flat.of _)) ta_nil) (cb_strI (by /- 10 log -/ first | (exact log_small (by omega) (by omega)) | (have hr_hx9 := rng_at hx9; (try simp only [decide_eq_true_eq, decide_eq_false_iff_not, Bool.not_eq_true', Bool.not_eq_false', Bool.and_eq_true, Bool.and_eq_false_iff, Bool.or_eq_true, Bool.or_eq_false_iff] at hcl9); (exact log_small (by omega) (by omega)))))) (op2_cats (by /- 11 strlen -/ first | ((have : (("come " : PySem.Str)).length = 5 := by decide +kernel); (have : (("abcde" : PySem.Str)).length = 5 := by decide +kernel); (have : ((".a.a " : PySem.Str)).length = 5 := by decide +kernel); (have := strI_len (n := at') (log_small (by omega) (by omega))); (have : (chI ("abcde" : PySem.Str) at').length = 1 := rfl); ((try simp only [app_len, List.map_cons, List.map_nil, List.sum_cons, List.sum_nil, List.length_cons, List.length_nil]); omega)) | (have hr_hx9 := rng_at hx9; (try simp only [decide_eq_true_eq, decide_eq_false_iff_not, Bool.not_eq_true', Bool.not_eq_false', Bool.and_eq_true, Bool.and_eq_false_iff, Bool.or_eq_true, Bool.or_eq_false_iff] at hcl9); ((have : (("come " : PySem.Str)).length = 5 := by decide +kernel); (have : (("abcde" : PySem.Str)).length = 5 := by decide +kernel); (have : ((".a.a " : PySem.Str)).length = 5 := by decide +kernel); (have := strI_len (n := at') (log_small (by omega) (by omega))); (have : (chI ("abcde" : PySem.Str) at').length = 1 := rfl); ((try simp only [app_len, List.map_cons, List.map_nil, List.sum_cons, List.sum_nil, List.length_cons, List.length_nil]); omega)))))))))))) ?_
      intro rows F10 H11 v13 hrows gr12 h_13 hP
      have s := gr12.sub
      have g := g.then gr12
      have hp_3 := up gr12.ex hp_3
      have h8_0 := up gr12.ex h8_0
      have h8_1 := up gr12.ex h8_1
      have h8_2 := up gr12.ex h8_2
      have hlen14 := congrArg List.length hrows
      try simp only [List.length_append, List.length_cons, List.length_nil, lc_true_len, rng_len, bring_len] at hlen14
      refine nf_ (σ' := [some (Flat.val (dI copies)), some (Flat.val (dI reads)), some (Flat.val (dI writes)), some vp_3, some v8_0, some v8_1, some v8_2, some v13, none, none, none, none]) rfl ?_
      refine q_set (K := K) (P := (RetXL K Z0 F0 H0 Q E)) hP s (TvL.tv (tl_op (tv_var rfl h_13) (TvL.tv (tl_lst (ta_rcons (tv_flat (tv_joined (tj_cons (K := K) tv_str (tj_cons (K := K) (tv_fmtI (tv_var rfl (Flat.of _)) (by /- 13 log -/ exact log_small (by omega) (by omega))) (tj_cons (K := K) tv_str (tj_cons (K := K) (tv_fmtI (tv_var rfl (Flat.of _)) (by /- 14 log -/ exact log_small (by omega) (by omega))) (tj_cons (K := K) tv_str (tj_cons (K := K) (tv_fmtI (tv_var rfl (Flat.of _)) (by /- 15 log -/ exact log_small (by omega) (by omega))) tj_nil)))))) (by /- 16 fjlen -/ (have : (("thing 0 " : PySem.Str)).length = 8 := by decide +kernel); (have : ((" " : PySem.Str)).length = 1 := by decide +kernel); (have := strI_len (n := (dI copies)) (log_small (by omega) (by omega))); (have := strI_len (n := (dI reads)) (log_small (by omega) (by omega))); (have := strI_len (n := (dI writes)) (log_small (by omega) (by omega))); ((try simp only [app_len, List.map_cons, List.map_nil, List.sum_cons, List.sum_nil, List.length_cons, List.length_nil]); omega)))) (ta_rcons (tv_flat tv_str) ta_rnil)) (by show 2 ≤ 100000; decide))) (opL_cat (by /- 17 len -/ first | (simp only [List.length_append, List.length_cons, List.length_nil, lc_true_len, rng_len, bring_len]; omega) | omega)))) ?_
      intro rows F15 H16 v18 hrows gr17 h_18 hP
      have s := gr17.sub
      have g := g.then gr17
      have hp_3 := up gr17.ex hp_3
      have h8_0 := up gr17.ex h8_0
      have h8_1 := up gr17.ex h8_1
      have h8_2 := up gr17.ex h8_2
      have h_13 := up gr17.ex h_13
      have hlen19 := congrArg List.length hrows
      try simp only [List.length_append, List.length_cons, List.length_nil, lc_true_len, rng_len, bring_len] at hlen19
      refine nf_ (σ' := [some (Flat.val (dI copies)), some (Flat.val (dI reads)), some (Flat.val (dI writes)), some vp_3, some v8_0, some v8_1, some v8_2, some v18, none, none, none, none]) rfl ?_
      refine q_set (K := K) (P := (RetXL K Z0 F0 H0 Q E)) hP s (TvL.tv (tl_op (tv_var rfl h_18) (TvL.tv (tl_call (ta_cons (TvL.tv (tl_lc (fun (at' : Int) => true) (fun (at' : Int) => ((1 : Int) + at')) (it_list (K := K) (tv_var rfl h8_0)) stb_t trivial (by /- 18 lclen -/ exact Nat.lt_of_le_of_lt hh1.1 (by decide)) (fun i20 at' v20 F20 H20 hx20 gr20 hv20 R20 k20 => g_nameF hv20 fun _ =>  (k20 _ rfl (tt_yes) (fun H20' e20 hcl20 => (tv_flat (tv_op tv_int (tv_var rfl (Flat.of _)) op2_add))))))) ta_nil) (sv_bring_rows (by /- 19 pre:bring_rows -/ exact ⟨by simp only [lc_true_len]; omega, fun x hx => by have := lc_shift hh1.2 x hx; omega⟩)))) (opL_cat (by /- 20 len -/ first | (simp only [List.length_append, List.length_cons, List.length_nil, lc_true_len, rng_len, bring_len]; omega) | omega)))) ?_
      intro rows F21 H22 v24 hrows gr23 h_24 hP
      have s := gr23.sub
      have g := g.then gr23
      have hp_3 := up gr23.ex hp_3
      have h8_0 := up gr23.ex h8_0
      have h8_1 := up gr23.ex h8_1
      have h8_2 := up gr23.ex h8_2
      have h_18 := up gr23.ex h_18
      have hlen25 := congrArg List.length hrows
      try simp only [List.length_append, List.length_cons, List.length_nil, lc_true_len, rng_len, bring_len] at hlen25
      refine nf_ (σ' := [some (Flat.val (dI copies)), some (Flat.val (dI reads)), some (Flat.val (dI writes)), some vp_3, some v8_0, some v8_1, some v8_2, some v24, none, none, none, none]) rfl ?_
      refine q_set (K := K) (P := (RetXL K Z0 F0 H0 Q E)) hP s (TvL.tv (tl_op (tv_var rfl h_24) (TvL.tv (tl_call (ta_cons (TvL.tv (tl_lc (fun (at' : Int) => true) (fun (at' : Int) => (((dI copies) + (1 : Int)) + at')) (it_range1 (K := K) (tv_cb (ta_cons (tv_var rfl (up s h8_0)) ta_nil) cb_lenL) (by /- 21 rlo -/ omega) (by /- 22 rhi -/ omega)) stb_t trivial (by /- 23 lclen -/ first | (simp only [rng_len]; omega) | omega) (fun i26 at' v26 F26 H26 hx26 gr26 hv26 R26 k26 => g_nameF hv26 fun _ =>  (k26 _ rfl (tt_yes) (fun H26' e26 hcl26 => (tv_flat (tv_op (tv_op (tv_var rfl (Flat.of _)) tv_int op2_add) (tv_var rfl (Flat.of _)) op2_add))))))) ta_nil) (sv_bring_rows (by /- 24 pre:bring_rows -/ exact ⟨by simp only [lc_true_len, rng_len]; omega, fun x hx => by have := lc_shift rng_mem x hx; omega⟩)))) (opL_cat (by /- 25 len -/ first | (simp only [List.length_append, List.length_cons, List.length_nil, lc_true_len, rng_len, bring_len]; omega) | omega)))) ?_
      intro rows F27 H28 v30 hrows gr29 h_30 hP
      have s := gr29.sub
      have g := g.then gr29
      have hp_3 := up gr29.ex hp_3
      have h8_0 := up gr29.ex h8_0
      have h8_1 := up gr29.ex h8_1
      have h8_2 := up gr29.ex h8_2
      have h_24 := up gr29.ex h_24
      have hlen31 := congrArg List.length hrows
      try simp only [List.length_append, List.length_cons, List.length_nil, lc_true_len, rng_len, bring_len] at hlen31
      refine nf_ (σ' := [some (Flat.val (dI copies)), some (Flat.val (dI reads)), some (Flat.val (dI writes)), some vp_3, some v8_0, some v8_1, some v8_2, some v30, none, none, none, none]) rfl ?_
      refine q_set (K := K) (P := (RetXL K Z0 F0 H0 Q E)) hP s (TvL.tv (tl_op (TvL.tv (tl_op (tv_var rfl h_30) (TvL.tv (tl_lst (ta_rcons (tv_flat tv_str) ta_rnil) (by show 1 ≤ 100000; decide))) (opL_cat (by /- 26 len -/ first | (simp only [List.length_append, List.length_cons, List.length_nil, lc_true_len, rng_len, bring_len]; omega) | omega)))) (TvL.tv (tl_call (ta_cons (TvL.tv (tl_lc (fun (at' : Int) => true) (fun (at' : Int) => ((1 : Int) + at')) (it_list (K := K) (tv_var rfl h8_1)) stb_t trivial (by /- 27 lclen -/ exact Nat.lt_of_le_of_lt hh2.1 (by decide)) (fun i32 at' v32 F32 H32 hx32 gr32 hv32 R32 k32 => g_nameF hv32 fun _ =>  (k32 _ rfl (tt_yes) (fun H32' e32 hcl32 => (tv_flat (tv_op tv_int (tv_var rfl (Flat.of _)) op2_add))))))) ta_nil) (sv_bring_rows (by /- 28 pre:bring_rows -/ exact ⟨by simp only [lc_true_len]; omega, fun x hx => by have := lc_shift hh2.2 x hx; omega⟩)))) (opL_cat (by /- 29 len -/ first | (simp only [List.length_append, List.length_cons, List.length_nil, lc_true_len, rng_len, bring_len]; omega) | omega)))) ?_
      intro rows F33 H34 v36 hrows gr35 h_36 hP
      have s := gr35.sub
      have g := g.then gr35
      have hp_3 := up gr35.ex hp_3
      have h8_0 := up gr35.ex h8_0
      have h8_1 := up gr35.ex h8_1
      have h8_2 := up gr35.ex h8_2
      have h_30 := up gr35.ex h_30
      have hlen37 := congrArg List.length hrows
      try simp only [List.length_append, List.length_cons, List.length_nil, lc_true_len, rng_len, bring_len] at hlen37
      refine nf_ (σ' := [some (Flat.val (dI copies)), some (Flat.val (dI reads)), some (Flat.val (dI writes)), some vp_3, some v8_0, some v8_1, some v8_2, some v36, none, none, none, none]) rfl ?_
      refine q_setF (K := K) (P := (RetXL K Z0 F0 H0 Q E)) hP (tv_op (tv_var rfl (Flat.of _)) (tv_cb (ta_cons (tv_var rfl (up s h8_0)) ta_nil) cb_lenL) op2_add) ?_
      intro queries H38 hqueries e38 hP
      have s := s.trans e38
      have g := g.grow e38
      refine nf_ (σ' := [some (Flat.val (dI copies)), some (Flat.val (dI reads)), some (Flat.val (dI writes)), some vp_3, some v8_0, some v8_1, some v8_2, some v36, some (Flat.val queries), none, none, none]) rfl ?_
      refine q_set (K := K) (P := (RetXL K Z0 F0 H0 Q E)) hP s (TvL.tv (tl_op (tv_var rfl h_36) (TvL.tv (tl_call (ta_cons (TvL.tv (tl_lc (fun (at' : Int) => true) (fun (at' : Int) => ((queries + (1 : Int)) + at')) (it_list (K := K) (tv_var rfl h8_2)) stb_t trivial (by /- 30 lclen -/ exact Nat.lt_of_le_of_lt hh3.1 (by decide)) (fun i39 at' v39 F39 H39 hx39 gr39 hv39 R39 k39 => g_nameF hv39 fun _ =>  (k39 _ rfl (tt_yes) (fun H39' e39 hcl39 => (tv_flat (tv_op (tv_op (tv_var rfl (Flat.of _)) tv_int op2_add) (tv_var rfl (Flat.of _)) op2_add))))))) ta_nil) (sv_bring_rows (by /- 31 pre:bring_rows -/ exact ⟨by simp only [lc_true_len]; omega, fun x hx => by have := lc_shift hh3.2 x hx; omega⟩)))) (opL_cat (by /- 32 len -/ first | (simp only [List.length_append, List.length_cons, List.length_nil, lc_true_len, rng_len, bring_len]; omega) | omega)))) ?_
      intro rows F40 H41 v43 hrows gr42 h_43 hP
      have s := gr42.sub
      have g := g.then gr42
      have hp_3 := up gr42.ex hp_3
      have h8_0 := up gr42.ex h8_0
      have h8_1 := up gr42.ex h8_1
      have h8_2 := up gr42.ex h8_2
      have h_36 := up gr42.ex h_36
      have hlen44 := congrArg List.length hrows
      try simp only [List.length_append, List.length_cons, List.length_nil, lc_true_len, rng_len, bring_len] at hlen44
      refine nf_ (σ' := [some (Flat.val (dI copies)), some (Flat.val (dI reads)), some (Flat.val (dI writes)), some vp_3, some v8_0, some v8_1, some v8_2, some v43, some (Flat.val queries), none, none, none]) rfl ?_
      refine q_setF (K := K) (P := (RetXL K Z0 F0 H0 Q E)) hP (tv_op (tv_op (tv_var rfl (Flat.of _)) (tv_var rfl (Flat.of _)) op2_add) (tv_cb (ta_cons (tv_var rfl (up s h8_1)) ta_nil) cb_lenL) op2_add) ?_
      intro answers H45 hanswers e45 hP
      have s := s.trans e45
      have g := g.grow e45
      refine nf_ (σ' := [some (Flat.val (dI copies)), some (Flat.val (dI reads)), some (Flat.val (dI writes)), some vp_3, some v8_0, some v8_1, some v8_2, some v43, some (Flat.val queries), some (Flat.val answers), none, none]) rfl ?_
      replace hP := retxL_ok hP
      exact q_retL hP g (tl_op (tv_var rfl h_43) (TvL.tv (tl_call (ta_cons (TvL.tv (tl_lc (fun (at' : Int) => true) (fun (at' : Int) => ((answers + (1 : Int)) + at')) (it_range1 (K := K) (tv_cb (ta_cons (tv_var rfl (up s h8_2)) ta_nil) cb_lenL) (by /- 33 rlo -/ omega) (by /- 34 rhi -/ omega)) stb_t trivial (by /- 35 lclen -/ first | (simp only [rng_len]; omega) | omega) (fun i46 at' v46 F46 H46 hx46 gr46 hv46 R46 k46 => g_nameF hv46 fun _ =>  (k46 _ rfl (tt_yes) (fun H46' e46 hcl46 => (tv_flat (tv_op (tv_op (tv_var rfl (Flat.of _)) tv_int op2_add) (tv_var rfl (Flat.of _)) op2_add))))))) ta_nil) (sv_bring_rows (by /- 36 pre:bring_rows -/ exact ⟨by simp only [lc_true_len, rng_len]; omega, fun x hx => by have := lc_shift rng_mem x hx; omega⟩)))) (opL_cat (by /- 37 len -/ first | (simp only [List.length_append, List.length_cons, List.length_nil, lc_true_len, rng_len, bring_len]; omega) | omega)))
    · exact q_dropE (K := K) (W := (fun cls d _ H => E cls d H)) s (te_call (ta_cons (tv_var rfl hp_0) (ta_cons (tv_var rfl hp_1) (ta_cons (tv_var rfl hp_2) ta_nil))) (sv_need_counts ) he1) (fun F2 H2 cls d g2 x => hP F2 H2 cls d (g.then g2) x)
def m__law_cell (script : Scr) (k : Int) : Int := (cond (decide (k < (script.l.length : Int))) (ixI script.l k) (0 : Int))
abbrev s__law_cell : Stmt := top 17
def sp__law_cell (K : Fg) : Sp := fun vs H Q E => ∃ (F : Hp) (script : Scr) (k : Int) (w0 : V) (w1 : V), vs = [w0, w1] ∧ Same F H ∧ rp K F script w0 ∧ rp K F k w1 ∧ (0 ≤ k) ∧ Ret K Z0 F H Q (m__law_cell script k)
theorem sv__law_cell {K : Fg} {script : Scr} {k : Int} (hpre : 0 ≤ k) : SpV K (sp__law_cell K) (fun (F : Hp) (vs : List V) => ∃ v r, vs = v :: r ∧ rp K F script v ∧ (fun (F : Hp) (vs : List V) => ∃ v r, vs = v :: r ∧ rp K F k v ∧ (fun (_ : Hp) (vs : List V) => vs = []) F r) F r) (m__law_cell script k) := by
  intro F H vs Q E s h hQ
  obtain ⟨v0, r0, e0, h0, h⟩ := h
  obtain ⟨v1, r1, e1, h1, h⟩ := h
  subst h
  subst e1
  subst e0
  exact ⟨F, script, k, v0, v1, rfl, s, h0, h1, hpre, fun F' H' p g r => hQ F' H' p g.gr r⟩
theorem sc__law_cell : FnScope ["script", "k"] ["script", "k"] (defScope s__law_cell) := ⟨rfl, rfl, rfl, by decide +kernel, rfl, by decide +kernel, by decide +kernel⟩
theorem ok__law_cell {P : Program} {w : World} {K : Fg} {mg : PySem.Str → Option Value} {base : Heap} (B : Bs K mg) {f : Addr} {fd : FuncData} (F : FnP K "_law_cell" s__law_cell f fd) : FnOk P w K mg base CX0 1 f fd ["script", "k"] (sp__law_cell K) := by
  have nd : (["script", "k"] : List PySem.Str).Nodup := sc__law_cell.nd
  refine F.ok sc__law_cell (fun vs H Q E h => ?_) (fun cdv A outer s H0 vs Q E hr h => ?_)
  · obtain ⟨F0, script, k, vp_0, w1, rfl, s, hp_0, hw1, hpre, hP⟩ := h
    rfl
  · obtain ⟨F0, script, k, vp_0, w1, rfl, s, hp_0, hw1, hpre, hP⟩ := h
    obtain rfl := Flat.is hw1
    have g : GrZ Z0 F0 H0 F0 H0 := GrZ.refl s
    refine ⟨_, PSs.nox (by exact (pss_cons (ps_if (pt_cmpR op_lt (pv 1) (pe_callB (len_seqK K) (by rfl) B.b_len (by decide +kernel) (pa_cons (pv 0) pa_nil)) (nomark _)) (pss_cons (ps_ret (pe_ix (ix_listK K) (pv 0) (pv 1) (fun _ _ => rfl))) pss_nil) pss_nil) (pss_cons (ps_ret pe_int) pss_nil))), ?_⟩
    refine nf_ (σ' := [some vp_0, some (Flat.val k)]) rfl ?_
    refine q_if (P := (Ret K Z0 F0 H0 Q)) hP (tt_test (K := K) (tv_op (tv_var rfl (Flat.of _)) (tv_cb (ta_cons (tv_var rfl (up s hp_0)) ta_nil) cb_lenC) op2_lt)) ?_ ?_
    · intro hc1 H1 e1 hP
      have s := s.trans e1
      have g := g.grow e1
      refine nf_ (σ' := [some vp_0, some (Flat.val k)]) rfl ?_
      exact q_retF hP g (tv_op (tv_var rfl (up s hp_0)) (tv_var rfl (Flat.of _)) (op2_ixC (by /- 1 ix -/ first | (first | exact ⟨by decide, by decide⟩ | exact ⟨by omega, by omega⟩) | ((try simp only [decide_eq_true_eq, decide_eq_false_iff_not, Bool.not_eq_true', Bool.not_eq_false', Bool.and_eq_true, Bool.and_eq_false_iff, Bool.or_eq_true, Bool.or_eq_false_iff] at hc1); (first | exact ⟨by decide, by decide⟩ | exact ⟨by omega, by omega⟩)))))
    · intro hc1 H1 e1 hP
      first | refine q_endS ?_ | refine q_endC ?_ | refine q_end ?_
      have s := s.trans e1
      have g := g.grow e1
      refine nf_ (σ' := [some vp_0, some (Flat.val k)]) rfl ?_
      exact q_retF hP g tv_int
def m__law_counts (script : Scr) : (List Int) := (lt ((1 : Int) + ((m__law_cell script (0 : Int)) % (4 : Int))) fun (copies : Int) => (lt (cond (decide ((((m__law_cell script (0 : Int)) / (4 : Int)) % (8 : Int)) = (1 : Int))) (lt (5 : Int) fun (copies : Int) => (copies)) (copies)) (fun (copies : Int) => ([copies, ((1 : Int) + ((m__law_cell script (1 : Int)) % copies)), ((1 : Int) + ((m__law_cell script (2 : Int)) % copies))] : List Int))))
abbrev s__law_counts : Stmt := top 19
def sp__law_counts (K : Fg) : Sp := fun vs H Q E => ∃ (F : Hp) (script : Scr) (w0 : V), vs = [w0] ∧ Same F H ∧ rp K F script w0 ∧ RetL K Z0 F H Q (m__law_counts script)
theorem sv__law_counts {K : Fg} {script : Scr} : SpL K (sp__law_counts K) (fun (F : Hp) (vs : List V) => ∃ v r, vs = v :: r ∧ rp K F script v ∧ (fun (_ : Hp) (vs : List V) => vs = []) F r) (m__law_counts script) := by
  intro F H vs Q E s h hQ
  obtain ⟨v0, r0, e0, h0, h⟩ := h
  subst h
  subst e0
  exact ⟨F, script, v0, rfl, s, h0, fun F' H' p g n m => hQ F' H' p g.gr n m⟩
theorem sc__law_counts : FnScope ["script", "copies"] ["script"] (defScope s__law_counts) := ⟨rfl, rfl, rfl, by decide +kernel, rfl, by decide +kernel, by decide +kernel⟩
theorem ok__law_counts {P : Program} {w : World} {K : Fg} {mg : PySem.Str → Option Value} {base : Heap} (B : Bs K mg) (D__law_cell : Dn P w K mg base CX0 "_law_cell" 1 ["script", "k"] (sp__law_cell K)) {f : Addr} {fd : FuncData} (F : FnP K "_law_counts" s__law_counts f fd) : FnOk P w K mg base CX0 2 f fd ["script"] (sp__law_counts K) := by
  obtain ⟨f__law_cell, d__law_cell, G__law_cell, g__law_cell, k__law_cell, b__law_cell⟩ := D__law_cell
  have nd : (["script", "copies"] : List PySem.Str).Nodup := sc__law_counts.nd
  refine F.ok sc__law_counts (fun vs H Q E h => ?_) (fun cdv A outer s H0 vs Q E hr h => ?_)
  · obtain ⟨F0, script, vp_0, rfl, s, hp_0, hP⟩ := h
    rfl
  · obtain ⟨F0, script, vp_0, rfl, s, hp_0, hP⟩ := h
    have g : GrZ Z0 F0 H0 F0 H0 := GrZ.refl s
    refine ⟨_, PSs.nox (by exact (pss_cons (ps_set (i := 1) nd rfl (Or.inl rfl) (pe_op op_add pe_int (pe_op op_mod (pe_call G__law_cell (hr.mono (by omega)) rfl g__law_cell k__law_cell b__law_cell .nil pass0 (pa_cons (pv 0) (pa_cons pe_int pa_nil))) pe_int))) (Evl.pss_cut (ps_if (pt_cmpR op_eq (pe_op op_mod (pe_op op_fdiv (pe_call G__law_cell (hr.mono (by omega)) rfl g__law_cell k__law_cell b__law_cell .nil pass0 (pa_cons (pv 0) (pa_cons pe_int pa_nil))) pe_int) pe_int) pe_int (nomark _)) (pss_cons (ps_set (i := 1) nd rfl (Or.inl rfl) pe_int) pss_nil) pss_nil) (pss_cons (ps_ret (pe_lst (pa_cons (pv 1) (pa_cons (pe_op op_add pe_int (pe_op op_mod (pe_call G__law_cell (hr.mono (by omega)) rfl g__law_cell k__law_cell b__law_cell .nil pass0 (pa_cons (pv 0) (pa_cons pe_int pa_nil))) (pv 1))) (pa_cons (pe_op op_add pe_int (pe_op op_mod (pe_call G__law_cell (hr.mono (by omega)) rfl g__law_cell k__law_cell b__law_cell .nil pass0 (pa_cons (pv 0) (pa_cons pe_int pa_nil))) (pv 1))) pa_nil))))) pss_nil)))), ?_⟩
    refine nf_ (σ' := [some vp_0, none]) rfl ?_
    refine q_setF (K := K) (P := (RetL K Z0 F0 H0 Q)) hP (tv_op tv_int (tv_op (tv_call (ta_cons (tv_var rfl (up s hp_0)) (ta_cons tv_int ta_nil)) (sv__law_cell (by /- 1 pre:_law_cell -/ first | decide | assumption | omega))) tv_int (op2_mod (by /- 2 pos -/ first | decide | omega))) op2_add) ?_
    intro copies H1 hcopies e1 hP
    have s := s.trans e1
    have g := g.grow e1
    refine nf_ (σ' := [some vp_0, some (Flat.val copies)]) rfl ?_
    refine q_ifJ (F := F0) (P := (RetL K Z0 F0 H0 Q)) hP (tt_test (K := K) (tv_op (tv_op (tv_op (tv_call (ta_cons (tv_var rfl (up s hp_0)) (ta_cons tv_int ta_nil)) (sv__law_cell (by /- 3 pre:_law_cell -/ first | decide | assumption | omega))) tv_int (op2_div (by /- 4 CDiv -/ first | exact ⟨by decide, by decide⟩ | exact ⟨by omega, by omega⟩))) tv_int (op2_mod (by /- 5 pos -/ first | decide | omega))) tv_int op2_eqI)) (fun F H σ st => σ = [some vp_0, some (Flat.val st)] ∧ GrZ Z0 F0 H0 F H ∧ (1 ≤ st ∧ st ≤ 5)) ?_ ?_ ?_
    · intro hc2 Hc2 Nj2 ec2 Pj2 hP hN2
      have smj2 := Same.refl F0
      have s := s.trans ec2
      have g := g.grow ec2
      refine nf_ (σ' := [some vp_0, some (Flat.val copies)]) rfl ?_
      refine q_setF (K := K) (P := Pj2) hP tv_int ?_
      intro copies H3 hcopies e3 hP
      have s := s.trans e3
      have g := g.grow e3
      first | refine q_endS ?_ | refine q_endC ?_ | refine q_end ?_
      exact hN2 _ hP _ _ _ smj2 ⟨rfl, g, (by /- 6 inv -/ first | (first | omega | ((try simp only [hcopies, List.length_append, List.length_cons, List.length_nil, lc_true_len, rng_len]); omega) | rfl | (subst_vars; first | omega | (simp; done) | (simp; omega))) | ((try simp only [decide_eq_true_eq, decide_eq_false_iff_not, Bool.not_eq_true', Bool.not_eq_false', Bool.and_eq_true, Bool.and_eq_false_iff, Bool.or_eq_true, Bool.or_eq_false_iff] at hc2); (first | omega | ((try simp only [hcopies, List.length_append, List.length_cons, List.length_nil, lc_true_len, rng_len]); omega) | rfl | (subst_vars; first | omega | (simp; done) | (simp; omega)))))⟩
    · intro hc2 Hc2 Nj2 ec2 Pj2 hP hN2
      have smj2 := Same.refl F0
      have s := s.trans ec2
      have g := g.grow ec2
      first | refine q_endS ?_ | refine q_endC ?_ | refine q_end ?_
      exact hN2 _ hP _ _ _ smj2 ⟨rfl, g, (by /- 7 inv -/ first | (first | omega | ((try simp only [hcopies, List.length_append, List.length_cons, List.length_nil, lc_true_len, rng_len]); omega) | rfl | (subst_vars; first | omega | (simp; done) | (simp; omega))) | ((try simp only [decide_eq_true_eq, decide_eq_false_iff_not, Bool.not_eq_true', Bool.not_eq_false', Bool.and_eq_true, Bool.and_eq_false_iff, Bool.or_eq_true, Bool.or_eq_false_iff] at hc2); (first | omega | ((try simp only [hcopies, List.length_append, List.length_cons, List.length_nil, lc_true_len, rng_len]); omega) | rfl | (subst_vars; first | omega | (simp; done) | (simp; omega)))))⟩
    · rintro copies Fj2 Hj2 σ2 hst2 fj2 ⟨rfl, g, hx_2⟩ hP
      have s := g.sub
      try dsimp only at hx_2
      have hp_0 := up fj2 hp_0
      refine nf_ (σ' := [some vp_0, some (Flat.val copies)]) rfl ?_
      exact q_retL hP g (tl_lst (ta_rcons (tv_flat (tv_var rfl (Flat.of _))) (ta_rcons (tv_flat (tv_op tv_int (tv_op (tv_call (ta_cons (tv_var rfl (up s hp_0)) (ta_cons tv_int ta_nil)) (sv__law_cell (by /- 8 pre:_law_cell -/ first | decide | assumption | omega))) (tv_var rfl (Flat.of _)) (op2_mod (by /- 9 pos -/ first | decide | omega))) op2_add)) (ta_rcons (tv_flat (tv_op tv_int (tv_op (tv_call (ta_cons (tv_var rfl (up s hp_0)) (ta_cons tv_int ta_nil)) (sv__law_cell (by /- 10 pre:_law_cell -/ first | decide | assumption | omega))) (tv_var rfl (Flat.of _)) (op2_mod (by /- 11 pos -/ first | decide | omega))) op2_add)) ta_rnil))) (by show 3 ≤ 100000; decide))
def m__law_wrong (count : Int) (most : Int) (cell : Int) : Dy := (lt ([(Dy.int (0 : Int)), (Dy.int ((-(1 : Int)) - ((cell / (8 : Int)) % ((10 : Int) ^ ((9 : Int)).toNat)))), (Dy.int (most + (1 : Int))), (Dy.int ((most + (1 : Int)) + ((cell / (8 : Int)) % ((10 : Int) ^ ((9 : Int)).toNat)))), Dy.non, (Dy.bl true), (Dy.str (strI count)), (Dy.lst ([count] : List Int))] : List Dy) fun (some' : (List Dy)) => (ixI some' (cell % (8 : Int))))
abbrev s__law_wrong : Stmt := top 20
def sp__law_wrong (K : Fg) : Sp := fun vs H Q E => ∃ (F : Hp) (count : Int) (most : Int) (cell : Int) (w0 : V) (w1 : V) (w2 : V), vs = [w0, w1, w2] ∧ Same F H ∧ rp K F count w0 ∧ rp K F most w1 ∧ rp K F cell w2 ∧ (1 ≤ count ∧ count ≤ 5 ∧ 1 ≤ most ∧ most ≤ 5) ∧ Ret K Z0 F H Q (m__law_wrong count most cell)
theorem sv__law_wrong {K : Fg} {count : Int} {most : Int} {cell : Int} (hpre : 1 ≤ count ∧ count ≤ 5 ∧ 1 ≤ most ∧ most ≤ 5) : SpV K (sp__law_wrong K) (fun (F : Hp) (vs : List V) => ∃ v r, vs = v :: r ∧ rp K F count v ∧ (fun (F : Hp) (vs : List V) => ∃ v r, vs = v :: r ∧ rp K F most v ∧ (fun (F : Hp) (vs : List V) => ∃ v r, vs = v :: r ∧ rp K F cell v ∧ (fun (_ : Hp) (vs : List V) => vs = []) F r) F r) F r) (m__law_wrong count most cell) := by
  intro F H vs Q E s h hQ
  obtain ⟨v0, r0, e0, h0, h⟩ := h
  obtain ⟨v1, r1, e1, h1, h⟩ := h
  obtain ⟨v2, r2, e2, h2, h⟩ := h
  subst h
  subst e2
  subst e1
  subst e0
  exact ⟨F, count, most, cell, v0, v1, v2, rfl, s, h0, h1, h2, hpre, fun F' H' p g r => hQ F' H' p g.gr r⟩
theorem sc__law_wrong : FnScope ["count", "most", "cell", "some"] ["count", "most", "cell"] (defScope s__law_wrong) := ⟨rfl, rfl, rfl, by decide +kernel, rfl, by decide +kernel, by decide +kernel⟩
theorem ok__law_wrong {P : Program} {w : World} {K : Fg} {mg : PySem.Str → Option Value} {base : Heap} (B : Bs K mg) {f : Addr} {fd : FuncData} (F : FnP K "_law_wrong" s__law_wrong f fd) : FnOk P w K mg base CX0 1 f fd ["count", "most", "cell"] (sp__law_wrong K) := by
  have nd : (["count", "most", "cell", "some"] : List PySem.Str).Nodup := sc__law_wrong.nd
  refine F.ok sc__law_wrong (fun vs H Q E h => ?_) (fun cdv A outer s H0 vs Q E hr h => ?_)
  · obtain ⟨F0, count, most, cell, w0, w1, w2, rfl, s, hw0, hw1, hw2, hpre, hP⟩ := h
    rfl
  · obtain ⟨F0, count, most, cell, w0, w1, w2, rfl, s, hw0, hw1, hw2, hpre, hP⟩ := h
    obtain rfl := Flat.is hw0
    obtain rfl := Flat.is hw1
    obtain rfl := Flat.is hw2
    have g : GrZ Z0 F0 H0 F0 H0 := GrZ.refl s
    refine ⟨_, PSs.nox (by exact (pss_cons (ps_set (i := 3) nd rfl (Or.inl rfl) (pe_lst (pa_cons pe_int (pa_cons (pe_op op_sub (pe_un un_neg pe_int) (pe_op op_mod (pe_op op_fdiv (pv 2) pe_int) (pe_op op_pow pe_int pe_int))) (pa_cons (pe_op op_add (pv 1) pe_int) (pa_cons (pe_op op_add (pe_op op_add (pv 1) pe_int) (pe_op op_mod (pe_op op_fdiv (pv 2) pe_int) (pe_op op_pow pe_int pe_int))) (pa_cons pe_non (pa_cons pe_bl (pa_cons (pe_callTy call_str_int (by rfl) B.b_str (by decide +kernel) (pa_cons (pv 0) pa_nil)) (pa_cons (pe_lst (pa_cons (pv 0) pa_nil)) pa_nil)))))))))) (pss_cons (ps_ret (pe_ix (ix_listK K) (pv 3) (pe_op op_mod (pv 2) pe_int) (fun _ _ => rfl))) pss_nil))), ?_⟩
    refine nf_ (σ' := [some (Flat.val count), some (Flat.val most), some (Flat.val cell), none]) rfl ?_
    refine q_set (K := K) (P := (Ret K Z0 F0 H0 Q)) hP s (TvL.tv (tl_lst (ta_rcons (tv_dyI (tv_flat tv_int)) (ta_rcons (tv_dyI (tv_flat (tv_op (tv_neg tv_int) (tv_op (tv_op (tv_var rfl (Flat.of _)) tv_int (op2_div (by /- 1 CDiv -/ first | exact ⟨by decide, by decide⟩ | exact ⟨by omega, by omega⟩))) (tv_op tv_int tv_int (op2_pow (by /- 2 CPow -/ first | exact ⟨by decide, by decide, by decide⟩ | exact ⟨by omega, by omega, by omega⟩))) (op2_mod (by /- 3 pos -/ first | decide | omega))) op2_sub))) (ta_rcons (tv_dyI (tv_flat (tv_op (tv_var rfl (Flat.of _)) tv_int op2_add))) (ta_rcons (tv_dyI (tv_flat (tv_op (tv_op (tv_var rfl (Flat.of _)) tv_int op2_add) (tv_op (tv_op (tv_var rfl (Flat.of _)) tv_int (op2_div (by /- 4 CDiv -/ first | exact ⟨by decide, by decide⟩ | exact ⟨by omega, by omega⟩))) (tv_op tv_int tv_int (op2_pow (by /- 5 CPow -/ first | exact ⟨by decide, by decide, by decide⟩ | exact ⟨by omega, by omega, by omega⟩))) (op2_mod (by /- 6 pos -/ first | decide | omega))) op2_add))) (ta_rcons (tv_dyN (tv_flat tv_non)) (ta_rcons (tv_dyB (tv_flat tv_bl)) (ta_rcons (tv_dyS (tv_flat (tv_cb (ta_cons (tv_var rfl (Flat.of _)) ta_nil) (cb_strI (by /- 7 log -/ exact log_small (by omega) (by omega)))))) (ta_rcons (tv_dyLs (TvL.tv (tl_lst (ta_rcons (tv_flat (tv_var rfl (Flat.of _))) ta_rnil) (by show 1 ≤ 100000; decide)))) ta_rnil)))))))) (by show 8 ≤ 100000; decide))) ?_
    intro some' F1 H2 v4 hsomep gr3 h_4 hP
    have s := gr3.sub
    have g := g.then gr3
    have hlen5 := congrArg List.length hsomep
    try simp only [List.length_append, List.length_cons, List.length_nil, lc_true_len, rng_len] at hlen5
    refine nf_ (σ' := [some (Flat.val count), some (Flat.val most), some (Flat.val cell), some v4]) rfl ?_
    exact q_ret hP g (tv_op (tv_var rfl h_4) (tv_flat (tv_op (tv_var rfl (Flat.of _)) tv_int (op2_mod (by /- 8 pos -/ first | decide | omega)))) (op2_ixL (by /- 9 ix -/ first | exact ⟨by decide, by decide⟩ | exact ⟨by omega, by omega⟩)))
theorem miss_er {a b d : Dy} {e : Exn} (h : m_missed a b d = .error e) : e = nc := by
  unfold m_missed at h
  cases e2 : m_weavings a b d with
  | error x => rw [e2, lx_er] at h; cases h; exact weav_er e2
  | ok u => rw [e2, lx_ok] at h; cases h
theorem rows_er {a b d : Dy} {p : Int × Int × Int} {e : Exn} (h : m_rows_of a b d p = .error e) : e = nc := by
  unfold m_rows_of at h
  cases e2 : m_need_counts a b d with
  | error x => rw [e2, lx_er] at h; cases h; exact need_er e2
  | ok u => rw [e2, lx_ok] at h; simp only [lt_eq, ltL3_eq] at h; cases h
theorem ref_er {way : Int} {a b d : Dy} {p : Int × Int × Int} {e : Exn} (h : (cond (decide (way = 0)) (lx (m_weavings a b d) fun _ => (.ok () : Except Exn Unit)) (cond (decide (way = 1)) (lx (m_missed a b d) fun _ => .ok ()) (lx (m_rows_of a b d p) fun _ => .ok ()))) = .error e) : e = nc := by
  cases h1 : decide (way = 0) <;> rw [h1] at h
  · cases h2 : decide (way = 1) <;> rw [h2] at h
    · simp only [cond_false] at h
      cases e2 : m_rows_of a b d p with
      | error x => rw [e2, lx_er] at h; cases h; exact rows_er e2
      | ok u => rw [e2, lx_ok] at h; cases h
    · simp only [cond_false, cond_true] at h
      cases e2 : m_missed a b d with
      | error x => rw [e2, lx_er] at h; cases h; exact miss_er e2
      | ok u => rw [e2, lx_ok] at h; cases h
  · simp only [cond_true] at h
    cases e2 : m_weavings a b d with
    | error x => rw [e2, lx_er] at h; cases h; exact weav_er e2
    | ok u => rw [e2, lx_ok] at h; cases h
def m__law_refused (way : Int) (counts : (List Dy)) : (Option Bool) := (lt (none : (Option Exn)) fun (caught : (Option Exn)) => (lt (tryC ((cond (decide (way = (0 : Int))) (lx (m_weavings (ixI counts (0 : Int)) (ixI counts (1 : Int)) (ixI counts (2 : Int))) fun (y7 : (List (Int × Int × Int))) => (.ok ())) (cond (decide (way = (1 : Int))) (lx (m_missed (ixI counts (0 : Int)) (ixI counts (1 : Int)) (ixI counts (2 : Int))) fun (y12 : (List (Int × Int × Int))) => (.ok ())) (lx (m_rows_of (ixI counts (0 : Int)) (ixI counts (1 : Int)) (ixI counts (2 : Int)) (((1 : Int), (0 : Int), (1 : Int)) : (Int × Int × Int))) fun (y16 : (List PySem.Str)) => (.ok ())))) : Except Exn (Unit)) ()) (fun (st : ((Option Exn) × Unit)) => (lt2 st fun (caught : (Option Exn)) (u_ : Unit) => (cond (caught).isNone (none : (Option Bool)) (some (true && (true && (!false)))))))))
abbrev s__law_refused : Stmt := top 21
def sp__law_refused (K : Fg) : Sp := fun vs H Q E => ∃ (F : Hp) (way : Int) (counts : (List Dy)) (w0 : V) (w1 : V), vs = [w0, w1] ∧ Same F H ∧ rp K F way w0 ∧ rp K F counts w1 ∧ (counts.length = 3) ∧ Ret K Z0 F H Q (m__law_refused way counts)
theorem sv__law_refused {K : Fg} {way : Int} {counts : (List Dy)} (hpre : counts.length = 3) : SpV K (sp__law_refused K) (fun (F : Hp) (vs : List V) => ∃ v r, vs = v :: r ∧ rp K F way v ∧ (fun (F : Hp) (vs : List V) => ∃ v r, vs = v :: r ∧ rp K F counts v ∧ (fun (_ : Hp) (vs : List V) => vs = []) F r) F r) (m__law_refused way counts) := by
  intro F H vs Q E s h hQ
  obtain ⟨v0, r0, e0, h0, h⟩ := h
  obtain ⟨v1, r1, e1, h1, h⟩ := h
  subst h
  subst e1
  subst e0
  exact ⟨F, way, counts, v0, v1, rfl, s, h0, h1, hpre, fun F' H' p g r => hQ F' H' p g.gr r⟩
theorem sc__law_refused : FnScope ["way", "counts", "caught", "e"] ["way", "counts"] (defScope s__law_refused) := ⟨rfl, rfl, rfl, by decide +kernel, rfl, by decide +kernel, by decide +kernel⟩
theorem ok__law_refused {P : Program} {w : World} {K : Fg} {mg : PySem.Str → Option Value} {base : Heap} (B : Bs K mg) (D_weavings : Dn P w K mg base (L2.CX P w) "weavings" 8 ["copies", "reads", "writes"] (sp_weavings K)) (D_missed : Dn P w K mg base (L2.CX P w) "missed" 9 ["copies", "reads", "writes"] (sp_missed K)) (D_rows_of : Dn P w K mg base (L2.CX P w) "rows_of" 3 ["copies", "reads", "writes", "weaving"] (sp_rows_of K)) {f : Addr} {fd : FuncData} (F : FnP K "_law_refused" s__law_refused f fd) : FnOk P w K mg base CX0 10 f fd ["way", "counts"] (sp__law_refused K) := by
  obtain ⟨f_weavings, d_weavings, G_weavings, g_weavings, k_weavings, b_weavings⟩ := D_weavings
  obtain ⟨f_missed, d_missed, G_missed, g_missed, k_missed, b_missed⟩ := D_missed
  obtain ⟨f_rows_of, d_rows_of, G_rows_of, g_rows_of, k_rows_of, b_rows_of⟩ := D_rows_of
  have nd : (["way", "counts", "caught", "e"] : List PySem.Str).Nodup := sc__law_refused.nd
  refine F.ok sc__law_refused (fun vs H Q E h => ?_) (fun cdv A outer s H0 vs Q E hr h => ?_)
  · obtain ⟨F0, way, counts, w0, vp_1, rfl, s, hw0, hp_1, hpre, hP⟩ := h
    rfl
  · obtain ⟨F0, way, counts, w0, vp_1, rfl, s, hw0, hp_1, hpre, hP⟩ := h
    obtain rfl := Flat.is hw0
    have g : GrZ Z0 F0 H0 F0 H0 := GrZ.refl s
    refine ⟨_, PSs.nox (by exact (pss_cons (ps_set (i := 2) nd rfl (Or.inl rfl) pe_non) (pss_cons (ps_tryK K (i := 3) (j := 2) (c := .ref (He.ga K "RoofError")) (tb := fun W => _) rfl rfl rfl nd rfl rfl ⟨rfl, by decide, Or.inl B.x_RoofError.g⟩ takes0 rfl (fun W pn xe tk5 ps5 => (pss_cons (ps_if (pt_cmpR op_eq (pv 0) pe_int (nomark _)) (pss_cons (ps_expr (pe_callS G_weavings (hr.mono (by omega)) rfl g_weavings k_weavings b_weavings (fun σ => passAt tk5 σ) (pa_cons (pe_ix (ix_listK K) (pv 1) pe_int (fun _ _ => rfl)) (pa_cons (pe_ix (ix_listK K) (pv 1) pe_int (fun _ _ => rfl)) (pa_cons (pe_ix (ix_listK K) (pv 1) pe_int (fun _ _ => rfl)) pa_nil))))) pss_nil) (pss_cons (ps_if (pt_cmpR op_eq (pv 0) pe_int (nomark _)) (pss_cons (ps_expr (pe_callS G_missed (hr.mono (by omega)) rfl g_missed k_missed b_missed (fun σ => passAt tk5 σ) (pa_cons (pe_ix (ix_listK K) (pv 1) pe_int (fun _ _ => rfl)) (pa_cons (pe_ix (ix_listK K) (pv 1) pe_int (fun _ _ => rfl)) (pa_cons (pe_ix (ix_listK K) (pv 1) pe_int (fun _ _ => rfl)) pa_nil))))) pss_nil) (pss_cons (ps_expr (pe_callS G_rows_of (hr.mono (by omega)) rfl g_rows_of k_rows_of b_rows_of (fun σ => passAt tk5 σ) (pa_cons (pe_ix (ix_listK K) (pv 1) pe_int (fun _ _ => rfl)) (pa_cons (pe_ix (ix_listK K) (pv 1) pe_int (fun _ _ => rfl)) (pa_cons (pe_ix (ix_listK K) (pv 1) pe_int (fun _ _ => rfl)) (pa_cons (pe_tup (pa_cons pe_int (pa_cons pe_int (pa_cons pe_int pa_nil)))) pa_nil)))))) pss_nil)) pss_nil)) pss_nil)) (fun a oe cls d pn hz hf => pss_one (ps_set (i := 2) nd rfl (Or.inl rfl) (pv 3)))) (pss_cons (ps_if (pt_cmpR op_isN1 (pv 2) pe_non (nomark _)) (pss_cons (ps_ret pe_non) pss_nil) pss_nil) (pss_cons (ps_ret (pe_and (pe_callB (call_isC K) (by rfl) B.b_isinstance (by decide +kernel) (pa_cons (pv 2) (pa_cons (pe_glob (v := .ref (He.ga K "NoCounts")) rfl B.x_NoCounts.g rfl) pa_nil))) (pe_and (pe_callB (call_isC K) (by rfl) B.b_isinstance (by decide +kernel) (pa_cons (pv 2) (pa_cons (pe_bltn (v := .ty "ValueError") (by rfl) B.b_ValueError (by decide +kernel) rfl) pa_nil))) (pe_one (pe_not (pe_callB (call_isC K) (by rfl) B.b_isinstance (by decide +kernel) (pa_cons (pv 2) (pa_cons (pe_glob (v := .ref (He.ga K "NoThing")) rfl B.x_NoThing.g rfl) pa_nil)))))))) pss_nil))))), ?_⟩
    refine nf_ (σ' := [some (Flat.val way), some vp_1, none, none]) rfl ?_
    refine q_set (K := K) (P := (Ret K Z0 F0 H0 Q)) hP s tv_noneO ?_
    intro caught F1 H2 v4 hcaught gr3 h_4 hP
    have s := gr3.sub
    have g := g.then gr3
    have hp_1 := up gr3.ex hp_1
    refine nf_ (σ' := [some (Flat.val way), some vp_1, some v4, none]) rfl ?_
    refine q_tryC (K := K) (F := F1) (P := (Ret K Z0 F0 H0 Q)) (i := 3) (j := 2) (rb := ((cond (decide (way = (0 : Int))) (lx (m_weavings (ixI counts (0 : Int)) (ixI counts (1 : Int)) (ixI counts (2 : Int))) fun (y7 : (List (Int × Int × Int))) => (.ok ())) (cond (decide (way = (1 : Int))) (lx (m_missed (ixI counts (0 : Int)) (ixI counts (1 : Int)) (ixI counts (2 : Int))) fun (y12 : (List (Int × Int × Int))) => (.ok ())) (lx (m_rows_of (ixI counts (0 : Int)) (ixI counts (1 : Int)) (ixI counts (2 : Int)) (((1 : Int), (0 : Int), (1 : Int)) : (Int × Int × Int))) fun (y16 : (List PySem.Str)) => (.ok ())))) : Except Exn (Unit))) (s0 := ()) (c := .ref (He.ga K "RoofError")) hP (fun F H σ st => ∃ (ev_caught : V) (ew_e : Option V), σ = [some (Flat.val way), some vp_1, some ev_caught, ew_e] ∧ GrZ Z0 F0 H0 F H ∧ rp K F st.1 ev_caught) (fun F H σ => σ = [some (Flat.val way), some vp_1, some v4, none] ∧ GrZ Z0 F0 H0 F H) (by /- 31 errs -/ intro e he; rw [ref_er he]; exact B.m_NoCounts_RoofError) ?_ ?_ ?_
    · intro Nt5 Wt5 Pt5 hP hN5 hE5
      have smt5 := Same.refl F1
      refine nf_ (σ' := [some (Flat.val way), some vp_1, some v4, none]) rfl ?_
      refine q_if (P := Pt5) hP (tt_test (K := K) (tv_op (tv_var rfl (Flat.of _)) tv_int op2_eqI)) ?_ ?_
      · intro hc6 H6 e6 hP
        have s := s.trans e6
        have g := g.grow e6
        refine q_lx (P := Pt5) hP (fun y7 hy7 hP => ?_) (fun e7 he7 hP => ?_)
        · refine nf_ (σ' := [some (Flat.val way), some vp_1, some v4, none]) rfl ?_
          refine q_drop s (TvL.tv (tl_callX (ta_cons (tv_op (tv_var rfl hp_1) (tv_flat tv_int) (op2_ixL (by /- 7 ix -/ first | (first | exact ⟨by decide, by decide⟩ | exact ⟨by omega, by omega⟩) | ((try simp only [decide_eq_true_eq, decide_eq_false_iff_not, Bool.not_eq_true', Bool.not_eq_false', Bool.and_eq_true, Bool.and_eq_false_iff, Bool.or_eq_true, Bool.or_eq_false_iff] at hc6); (first | exact ⟨by decide, by decide⟩ | exact ⟨by omega, by omega⟩))))) (ta_cons (tv_op (tv_var rfl hp_1) (tv_flat tv_int) (op2_ixL (by /- 8 ix -/ first | (first | exact ⟨by decide, by decide⟩ | exact ⟨by omega, by omega⟩) | ((try simp only [decide_eq_true_eq, decide_eq_false_iff_not, Bool.not_eq_true', Bool.not_eq_false', Bool.and_eq_true, Bool.and_eq_false_iff, Bool.or_eq_true, Bool.or_eq_false_iff] at hc6); (first | exact ⟨by decide, by decide⟩ | exact ⟨by omega, by omega⟩))))) (ta_cons (tv_op (tv_var rfl hp_1) (tv_flat tv_int) (op2_ixL (by /- 9 ix -/ first | (first | exact ⟨by decide, by decide⟩ | exact ⟨by omega, by omega⟩) | ((try simp only [decide_eq_true_eq, decide_eq_false_iff_not, Bool.not_eq_true', Bool.not_eq_false', Bool.and_eq_true, Bool.and_eq_false_iff, Bool.or_eq_true, Bool.or_eq_false_iff] at hc6); (first | exact ⟨by decide, by decide⟩ | exact ⟨by omega, by omega⟩))))) ta_nil))) (sv_weavings ) hy7)) ?_
          intro F8 H9 gr10
          have s := gr10.sub
          have g := g.then gr10
          have smt5 := smt5.trans gr10.ex
          have hp_1 := up gr10.ex hp_1
          have h_4 := up gr10.ex h_4
          first | refine q_endS ?_ | refine q_endC ?_ | refine q_end ?_
          first | refine q_endS ?_ | refine q_endC ?_ | refine q_end ?_
          exact hN5 _ hP _ _ _ smt5 ⟨v4, _, rfl, g, (rp_eq hcaught h_4)⟩
        · exact q_dropE (K := K) (W := Wt5) s (te_callL (ta_cons (tv_op (tv_var rfl hp_1) (tv_flat tv_int) (op2_ixL (by /- 4 ix -/ first | (first | exact ⟨by decide, by decide⟩ | exact ⟨by omega, by omega⟩) | ((try simp only [decide_eq_true_eq, decide_eq_false_iff_not, Bool.not_eq_true', Bool.not_eq_false', Bool.and_eq_true, Bool.and_eq_false_iff, Bool.or_eq_true, Bool.or_eq_false_iff] at hc6); (first | exact ⟨by decide, by decide⟩ | exact ⟨by omega, by omega⟩))))) (ta_cons (tv_op (tv_var rfl hp_1) (tv_flat tv_int) (op2_ixL (by /- 5 ix -/ first | (first | exact ⟨by decide, by decide⟩ | exact ⟨by omega, by omega⟩) | ((try simp only [decide_eq_true_eq, decide_eq_false_iff_not, Bool.not_eq_true', Bool.not_eq_false', Bool.and_eq_true, Bool.and_eq_false_iff, Bool.or_eq_true, Bool.or_eq_false_iff] at hc6); (first | exact ⟨by decide, by decide⟩ | exact ⟨by omega, by omega⟩))))) (ta_cons (tv_op (tv_var rfl hp_1) (tv_flat tv_int) (op2_ixL (by /- 6 ix -/ first | (first | exact ⟨by decide, by decide⟩ | exact ⟨by omega, by omega⟩) | ((try simp only [decide_eq_true_eq, decide_eq_false_iff_not, Bool.not_eq_true', Bool.not_eq_false', Bool.and_eq_true, Bool.and_eq_false_iff, Bool.or_eq_true, Bool.or_eq_false_iff] at hc6); (first | exact ⟨by decide, by decide⟩ | exact ⟨by omega, by omega⟩))))) ta_nil))) (sv_weavings ) he7) (fun F2 H2 cls d g2 x => hE5 _ hP F2 H2 _ cls d (smt5.trans g2.ex) x ⟨rfl, g.then g2⟩)
      · intro hc6 H6 e6 hP
        have s := s.trans e6
        have g := g.grow e6
        refine nf_ (σ' := [some (Flat.val way), some vp_1, some v4, none]) rfl ?_
        refine q_if (P := Pt5) hP (tt_test (K := K) (tv_op (tv_var rfl (Flat.of _)) tv_int op2_eqI)) ?_ ?_
        · intro hc11 H11 e11 hP
          have s := s.trans e11
          have g := g.grow e11
          refine q_lx (P := Pt5) hP (fun y12 hy12 hP => ?_) (fun e12 he12 hP => ?_)
          · refine nf_ (σ' := [some (Flat.val way), some vp_1, some v4, none]) rfl ?_
            refine q_drop s (TvL.tv (tl_callX (ta_cons (tv_op (tv_var rfl hp_1) (tv_flat tv_int) (op2_ixL (by /- 16 ix -/ first | (first | exact ⟨by decide, by decide⟩ | exact ⟨by omega, by omega⟩) | ((try simp only [decide_eq_true_eq, decide_eq_false_iff_not, Bool.not_eq_true', Bool.not_eq_false', Bool.and_eq_true, Bool.and_eq_false_iff, Bool.or_eq_true, Bool.or_eq_false_iff] at hc6); (try simp only [decide_eq_true_eq, decide_eq_false_iff_not, Bool.not_eq_true', Bool.not_eq_false', Bool.and_eq_true, Bool.and_eq_false_iff, Bool.or_eq_true, Bool.or_eq_false_iff] at hc11); (first | exact ⟨by decide, by decide⟩ | exact ⟨by omega, by omega⟩))))) (ta_cons (tv_op (tv_var rfl hp_1) (tv_flat tv_int) (op2_ixL (by /- 17 ix -/ first | (first | exact ⟨by decide, by decide⟩ | exact ⟨by omega, by omega⟩) | ((try simp only [decide_eq_true_eq, decide_eq_false_iff_not, Bool.not_eq_true', Bool.not_eq_false', Bool.and_eq_true, Bool.and_eq_false_iff, Bool.or_eq_true, Bool.or_eq_false_iff] at hc6); (try simp only [decide_eq_true_eq, decide_eq_false_iff_not, Bool.not_eq_true', Bool.not_eq_false', Bool.and_eq_true, Bool.and_eq_false_iff, Bool.or_eq_true, Bool.or_eq_false_iff] at hc11); (first | exact ⟨by decide, by decide⟩ | exact ⟨by omega, by omega⟩))))) (ta_cons (tv_op (tv_var rfl hp_1) (tv_flat tv_int) (op2_ixL (by /- 18 ix -/ first | (first | exact ⟨by decide, by decide⟩ | exact ⟨by omega, by omega⟩) | ((try simp only [decide_eq_true_eq, decide_eq_false_iff_not, Bool.not_eq_true', Bool.not_eq_false', Bool.and_eq_true, Bool.and_eq_false_iff, Bool.or_eq_true, Bool.or_eq_false_iff] at hc6); (try simp only [decide_eq_true_eq, decide_eq_false_iff_not, Bool.not_eq_true', Bool.not_eq_false', Bool.and_eq_true, Bool.and_eq_false_iff, Bool.or_eq_true, Bool.or_eq_false_iff] at hc11); (first | exact ⟨by decide, by decide⟩ | exact ⟨by omega, by omega⟩))))) ta_nil))) (sv_missed ) hy12)) ?_
            intro F13 H14 gr15
            have s := gr15.sub
            have g := g.then gr15
            have smt5 := smt5.trans gr15.ex
            have hp_1 := up gr15.ex hp_1
            have h_4 := up gr15.ex h_4
            first | refine q_endS ?_ | refine q_endC ?_ | refine q_end ?_
            first | refine q_endS ?_ | refine q_endC ?_ | refine q_end ?_
            first | refine q_endS ?_ | refine q_endC ?_ | refine q_end ?_
            exact hN5 _ hP _ _ _ smt5 ⟨v4, _, rfl, g, (rp_eq hcaught h_4)⟩
          · exact q_dropE (K := K) (W := Wt5) s (te_callL (ta_cons (tv_op (tv_var rfl hp_1) (tv_flat tv_int) (op2_ixL (by /- 13 ix -/ first | (first | exact ⟨by decide, by decide⟩ | exact ⟨by omega, by omega⟩) | ((try simp only [decide_eq_true_eq, decide_eq_false_iff_not, Bool.not_eq_true', Bool.not_eq_false', Bool.and_eq_true, Bool.and_eq_false_iff, Bool.or_eq_true, Bool.or_eq_false_iff] at hc6); (try simp only [decide_eq_true_eq, decide_eq_false_iff_not, Bool.not_eq_true', Bool.not_eq_false', Bool.and_eq_true, Bool.and_eq_false_iff, Bool.or_eq_true, Bool.or_eq_false_iff] at hc11); (first | exact ⟨by decide, by decide⟩ | exact ⟨by omega, by omega⟩))))) (ta_cons (tv_op (tv_var rfl hp_1) (tv_flat tv_int) (op2_ixL (by /- 14 ix -/ first | (first | exact ⟨by decide, by decide⟩ | exact ⟨by omega, by omega⟩) | ((try simp only [decide_eq_true_eq, decide_eq_false_iff_not, Bool.not_eq_true', Bool.not_eq_false', Bool.and_eq_true, Bool.and_eq_false_iff, Bool.or_eq_true, Bool.or_eq_false_iff] at hc6); (try simp only [decide_eq_true_eq, decide_eq_false_iff_not, Bool.not_eq_true', Bool.not_eq_false', Bool.and_eq_true, Bool.and_eq_false_iff, Bool.or_eq_true, Bool.or_eq_false_iff] at hc11); (first | exact ⟨by decide, by decide⟩ | exact ⟨by omega, by omega⟩))))) (ta_cons (tv_op (tv_var rfl hp_1) (tv_flat tv_int) (op2_ixL (by /- 15 ix -/ first | (first | exact ⟨by decide, by decide⟩ | exact ⟨by omega, by omega⟩) | ((try simp only [decide_eq_true_eq, decide_eq_false_iff_not, Bool.not_eq_true', Bool.not_eq_false', Bool.and_eq_true, Bool.and_eq_false_iff, Bool.or_eq_true, Bool.or_eq_false_iff] at hc6); (try simp only [decide_eq_true_eq, decide_eq_false_iff_not, Bool.not_eq_true', Bool.not_eq_false', Bool.and_eq_true, Bool.and_eq_false_iff, Bool.or_eq_true, Bool.or_eq_false_iff] at hc11); (first | exact ⟨by decide, by decide⟩ | exact ⟨by omega, by omega⟩))))) ta_nil))) (sv_missed ) he12) (fun F2 H2 cls d g2 x => hE5 _ hP F2 H2 _ cls d (smt5.trans g2.ex) x ⟨rfl, g.then g2⟩)
        · intro hc11 H11 e11 hP
          have s := s.trans e11
          have g := g.grow e11
          refine q_lx (P := Pt5) hP (fun y16 hy16 hP => ?_) (fun e16 he16 hP => ?_)
          · refine nf_ (σ' := [some (Flat.val way), some vp_1, some v4, none]) rfl ?_
            refine q_drop s (TvL.tv (tl_callX (ta_cons (tv_op (tv_var rfl hp_1) (tv_flat tv_int) (op2_ixL (by /- 27 ix -/ first | (first | exact ⟨by decide, by decide⟩ | exact ⟨by omega, by omega⟩) | ((try simp only [decide_eq_true_eq, decide_eq_false_iff_not, Bool.not_eq_true', Bool.not_eq_false', Bool.and_eq_true, Bool.and_eq_false_iff, Bool.or_eq_true, Bool.or_eq_false_iff] at hc6); (try simp only [decide_eq_true_eq, decide_eq_false_iff_not, Bool.not_eq_true', Bool.not_eq_false', Bool.and_eq_true, Bool.and_eq_false_iff, Bool.or_eq_true, Bool.or_eq_false_iff] at hc11); (first | exact ⟨by decide, by decide⟩ | exact ⟨by omega, by omega⟩))))) (ta_cons (tv_op (tv_var rfl hp_1) (tv_flat tv_int) (op2_ixL (by /- 28 ix -/ first | (first | exact ⟨by decide, by decide⟩ | exact ⟨by omega, by omega⟩) | ((try simp only [decide_eq_true_eq, decide_eq_false_iff_not, Bool.not_eq_true', Bool.not_eq_false', Bool.and_eq_true, Bool.and_eq_false_iff, Bool.or_eq_true, Bool.or_eq_false_iff] at hc6); (try simp only [decide_eq_true_eq, decide_eq_false_iff_not, Bool.not_eq_true', Bool.not_eq_false', Bool.and_eq_true, Bool.and_eq_false_iff, Bool.or_eq_true, Bool.or_eq_false_iff] at hc11); (first | exact ⟨by decide, by decide⟩ | exact ⟨by omega, by omega⟩))))) (ta_cons (tv_op (tv_var rfl hp_1) (tv_flat tv_int) (op2_ixL (by /- 29 ix -/ first | (first | exact ⟨by decide, by decide⟩ | exact ⟨by omega, by omega⟩) | ((try simp only [decide_eq_true_eq, decide_eq_false_iff_not, Bool.not_eq_true', Bool.not_eq_false', Bool.and_eq_true, Bool.and_eq_false_iff, Bool.or_eq_true, Bool.or_eq_false_iff] at hc6); (try simp only [decide_eq_true_eq, decide_eq_false_iff_not, Bool.not_eq_true', Bool.not_eq_false', Bool.and_eq_true, Bool.and_eq_false_iff, Bool.or_eq_true, Bool.or_eq_false_iff] at hc11); (first | exact ⟨by decide, by decide⟩ | exact ⟨by omega, by omega⟩))))) (ta_cons (tv_tup (ta_tc (tv_flat tv_int) (ta_tc (tv_flat tv_int) (ta_t1 (tv_flat tv_int)))) (tlen (n := 3) (by decide))) ta_nil)))) (sv_rows_of (by /- 30 pre:rows_of -/ first | (first | decide | assumption | omega) | ((try simp only [decide_eq_true_eq, decide_eq_false_iff_not, Bool.not_eq_true', Bool.not_eq_false', Bool.and_eq_true, Bool.and_eq_false_iff, Bool.or_eq_true, Bool.or_eq_false_iff] at hc6); (try simp only [decide_eq_true_eq, decide_eq_false_iff_not, Bool.not_eq_true', Bool.not_eq_false', Bool.and_eq_true, Bool.and_eq_false_iff, Bool.or_eq_true, Bool.or_eq_false_iff] at hc11); (first | decide | assumption | omega)))) hy16)) ?_
            intro F17 H18 gr19
            have s := gr19.sub
            have g := g.then gr19
            have smt5 := smt5.trans gr19.ex
            have hp_1 := up gr19.ex hp_1
            have h_4 := up gr19.ex h_4
            first | refine q_endS ?_ | refine q_endC ?_ | refine q_end ?_
            first | refine q_endS ?_ | refine q_endC ?_ | refine q_end ?_
            first | refine q_endS ?_ | refine q_endC ?_ | refine q_end ?_
            exact hN5 _ hP _ _ _ smt5 ⟨v4, _, rfl, g, (rp_eq hcaught h_4)⟩
          · exact q_dropE (K := K) (W := Wt5) s (te_callL (ta_cons (tv_op (tv_var rfl hp_1) (tv_flat tv_int) (op2_ixL (by /- 23 ix -/ first | (first | exact ⟨by decide, by decide⟩ | exact ⟨by omega, by omega⟩) | ((try simp only [decide_eq_true_eq, decide_eq_false_iff_not, Bool.not_eq_true', Bool.not_eq_false', Bool.and_eq_true, Bool.and_eq_false_iff, Bool.or_eq_true, Bool.or_eq_false_iff] at hc6); (try simp only [decide_eq_true_eq, decide_eq_false_iff_not, Bool.not_eq_true', Bool.not_eq_false', Bool.and_eq_true, Bool.and_eq_false_iff, Bool.or_eq_true, Bool.or_eq_false_iff] at hc11); (first | exact ⟨by decide, by decide⟩ | exact ⟨by omega, by omega⟩))))) (ta_cons (tv_op (tv_var rfl hp_1) (tv_flat tv_int) (op2_ixL (by /- 24 ix -/ first | (first | exact ⟨by decide, by decide⟩ | exact ⟨by omega, by omega⟩) | ((try simp only [decide_eq_true_eq, decide_eq_false_iff_not, Bool.not_eq_true', Bool.not_eq_false', Bool.and_eq_true, Bool.and_eq_false_iff, Bool.or_eq_true, Bool.or_eq_false_iff] at hc6); (try simp only [decide_eq_true_eq, decide_eq_false_iff_not, Bool.not_eq_true', Bool.not_eq_false', Bool.and_eq_true, Bool.and_eq_false_iff, Bool.or_eq_true, Bool.or_eq_false_iff] at hc11); (first | exact ⟨by decide, by decide⟩ | exact ⟨by omega, by omega⟩))))) (ta_cons (tv_op (tv_var rfl hp_1) (tv_flat tv_int) (op2_ixL (by /- 25 ix -/ first | (first | exact ⟨by decide, by decide⟩ | exact ⟨by omega, by omega⟩) | ((try simp only [decide_eq_true_eq, decide_eq_false_iff_not, Bool.not_eq_true', Bool.not_eq_false', Bool.and_eq_true, Bool.and_eq_false_iff, Bool.or_eq_true, Bool.or_eq_false_iff] at hc6); (try simp only [decide_eq_true_eq, decide_eq_false_iff_not, Bool.not_eq_true', Bool.not_eq_false', Bool.and_eq_true, Bool.and_eq_false_iff, Bool.or_eq_true, Bool.or_eq_false_iff] at hc11); (first | exact ⟨by decide, by decide⟩ | exact ⟨by omega, by omega⟩))))) (ta_cons (tv_tup (ta_tc (tv_flat tv_int) (ta_tc (tv_flat tv_int) (ta_t1 (tv_flat tv_int)))) (tlen (n := 3) (by decide))) ta_nil)))) (sv_rows_of (by /- 26 pre:rows_of -/ first | (first | decide | assumption | omega) | ((try simp only [decide_eq_true_eq, decide_eq_false_iff_not, Bool.not_eq_true', Bool.not_eq_false', Bool.and_eq_true, Bool.and_eq_false_iff, Bool.or_eq_true, Bool.or_eq_false_iff] at hc6); (try simp only [decide_eq_true_eq, decide_eq_false_iff_not, Bool.not_eq_true', Bool.not_eq_false', Bool.and_eq_true, Bool.and_eq_false_iff, Bool.or_eq_true, Bool.or_eq_false_iff] at hc11); (first | decide | assumption | omega)))) he16) (fun F2 H2 cls d g2 x => hE5 _ hP F2 H2 _ cls d (smt5.trans g2.ex) x ⟨rfl, g.then g2⟩)
    · rintro e5 Fx5 Hx5 σx5 cls d he5 fx5 x5 ⟨rfl, g⟩
      exact ⟨(by show 3 < 4; decide), g.sub, fun a ha => ⟨(.ref a), _, rfl, g.then (Gr.lay g.sub ha), ⟨a, cls, d, rfl, upd_same, x5.le (Le.of (same_new (none_of g.sub ha)))⟩⟩⟩
    · rintro ⟨caught, u_⟩ Ft5 Ht5 σt5 hst5 ft5 ⟨vj5_2, wj5_3, rfl, g, hj5_2⟩ hP
      have s := g.sub
      have hp_1 := up ft5 hp_1
      replace hP := p_lt2 (Ret K Z0 F0 H0 Q) hP
      have hcx := fun hc => tryC_er hst5 (fun e he => ref_er he) hc
      refine nf_ (σ' := [some (Flat.val way), some vp_1, some vj5_2, wj5_3]) rfl ?_
      refine q_if (P := (Ret K Z0 F0 H0 Q)) hP (tt_test (K := K) (tv_op (tv_var rfl (up s hj5_2)) tv_non op2_isN)) ?_ ?_
      · intro hc20 H20 e20 hP
        have s := s.trans e20
        have g := g.grow e20
        refine nf_ (σ' := [some (Flat.val way), some vp_1, some vj5_2, wj5_3]) rfl ?_
        exact q_retF hP g tv_noneO
      · intro hc20 H20 e20 hP
        first | refine q_endS ?_ | refine q_endC ?_ | refine q_end ?_
        have s := s.trans e20
        have g := g.grow e20
        have hj5_2 := rp_gt hc20 hj5_2
        refine nf_ (σ' := [some (Flat.val way), some vp_1, some vj5_2, wj5_3]) rfl ?_
        exact q_retF hP g (tv_some (tv_and (tv_isC (tv_var rfl (up s hj5_2)) (by /- 32 exn -/ exact hcx hc20) (ClsV.own _) B.y_NoCounts B.k_NoCounts_NoCounts) (fun hq21 => (tv_and (tv_isC (tv_var rfl (up s hj5_2)) (by /- 33 exn -/ exact hcx hc20) (ClsV.ty _) B.y_NoCounts B.k_NoCounts_ValueError) (fun hq22 => (tv_not (tv_isC (tv_var rfl (up s hj5_2)) (by /- 34 exn -/ exact hcx hc20) (ClsV.own _) B.y_NoCounts B.k_NoCounts_NoThing)))))))
theorem len_counts (x : Scr) : (m__law_counts x).length = 3 := by
  unfold m__law_counts
  rw [lt_eq, lt_eq]
  rfl
theorem counts_ok {x : Scr} {a b c : Int} (h : [a, b, c] = m__law_counts x) : 1 ≤ a ∧ a ≤ 5 ∧ 1 ≤ b ∧ b ≤ a ∧ 1 ≤ c ∧ c ≤ a := by
  unfold m__law_counts at h
  rw [lt_eq, lt_eq, lt_eq] at h
  simp only [List.cons.injEq, and_true] at h
  obtain ⟨h1, h2, h3⟩ := h
  have ha : 1 ≤ a ∧ a ≤ 5 := by
    rw [h1]
    cases decide (m__law_cell x 0 / 4 % 8 = 1) <;> simp <;> omega
  subst h1
  refine ⟨ha.1, ha.2, ?_, ?_, ?_, ?_⟩
  · have := Int.emod_nonneg (m__law_cell x 1) (show (cond (decide (m__law_cell x 0 / 4 % 8 = 1)) 5 (1 + m__law_cell x 0 % 4) : Int) ≠ 0 by omega)
    omega
  · have := Int.emod_lt_of_pos (m__law_cell x 1) (show 0 < (cond (decide (m__law_cell x 0 / 4 % 8 = 1)) 5 (1 + m__law_cell x 0 % 4) : Int) by omega)
    omega
  · have := Int.emod_nonneg (m__law_cell x 2) (show (cond (decide (m__law_cell x 0 / 4 % 8 = 1)) 5 (1 + m__law_cell x 0 % 4) : Int) ≠ 0 by omega)
    omega
  · have := Int.emod_lt_of_pos (m__law_cell x 2) (show 0 < (cond (decide (m__law_cell x 0 / 4 % 8 = 1)) 5 (1 + m__law_cell x 0 % 4) : Int) by omega)
    omega

theorem three_of {xs : List Int} (h : xs.length = 3) : ∃ a b c, xs = [a, b, c] := by
  match xs, h with
  | [a, b, c], _ => exact ⟨a, b, c, rfl⟩
theorem wrong_pre {x : Scr} {counts : List Int} {at' most : Int} (hc : counts = m__law_counts x) (hm : most = ixI ([(5 : Int), ixI counts (0 : Int), ixI counts (0 : Int)] : List Int) at') (h0 : 0 ≤ at') (h3 : at' < 3) : 1 ≤ ixI counts at' ∧ ixI counts at' ≤ 5 ∧ 1 ≤ most ∧ most ≤ 5 := by
  obtain ⟨a, b, c, e⟩ := three_of (hc ▸ len_counts x)
  have q := counts_ok (x := x) (e ▸ hc)
  subst e
  have h : at' = 0 ∨ at' = 1 ∨ at' = 2 := by omega
  rcases h with rfl | rfl | rfl
  · rw [hm, show ixI [a, b, c] (0 : Int) = a from rfl, show ixI [(5 : Int), a, a] (0 : Int) = 5 from rfl]; omega
  · rw [hm, show ixI [a, b, c] (0 : Int) = a from rfl, show ixI [a, b, c] (1 : Int) = b from rfl, show ixI [(5 : Int), a, a] (1 : Int) = a from rfl]; omega
  · rw [hm, show ixI [a, b, c] (0 : Int) = a from rfl, show ixI [a, b, c] (2 : Int) = c from rfl, show ixI [(5 : Int), a, a] (2 : Int) = a from rfl]; omega
def m_law (script : Scr) : Bool := (lt (m__law_counts script) fun (counts : (List Int)) => (lt ((m__law_cell script (3 : Int)) % (3 : Int)) fun (at' : Int) => (lt (ixI ([(5 : Int), (ixI counts (0 : Int)), (ixI counts (0 : Int))] : List Int) at') fun (most : Int) => (lt (counts.map Dy.int) fun (wrong : (List Dy)) => (lt (setI wrong at' (m__law_wrong (ixI counts at') most (m__law_cell script (4 : Int)))) fun (wrong : (List Dy)) => (fin (run (R := Bool) (fun (st : Unit) (way : Int) => (cond (!decide ((m__law_refused way wrong) = some true)) (Fl.rt false) (Fl.nx ()))) () (rng 0 ((3 : Int)).toNat)) (fun r => r) (fun (_ : Unit) => (cond (((m__law_refused (0 : Int) (counts.map Dy.int))).isSome || ((m__law_refused (1 : Int) (counts.map Dy.int))).isSome) false ((m__law_refused (2 : Int) ([(Dy.int (1 : Int)), (Dy.int (1 : Int)), (Dy.int (1 : Int))] : List Dy))).isNone))))))))
abbrev s_law : Stmt := top 22
def sp_law (K : Fg) : Sp := fun vs H Q E => ∃ (F : Hp) (script : Scr) (w0 : V), vs = [w0] ∧ Same F H ∧ rp K F script w0 ∧ Ret K Z0 F H Q (m_law script)
theorem sv_law {K : Fg} {script : Scr} : SpV K (sp_law K) (fun (F : Hp) (vs : List V) => ∃ v r, vs = v :: r ∧ rp K F script v ∧ (fun (_ : Hp) (vs : List V) => vs = []) F r) (m_law script) := by
  intro F H vs Q E s h hQ
  obtain ⟨v0, r0, e0, h0, h⟩ := h
  subst h
  subst e0
  exact ⟨F, script, v0, rfl, s, h0, fun F' H' p g r => hQ F' H' p g.gr r⟩
theorem sc_law : FnScope ["script", "counts", "at", "most", "wrong", "way"] ["script"] (defScope s_law) := ⟨rfl, rfl, rfl, by decide +kernel, rfl, by decide +kernel, by decide +kernel⟩
theorem ok_law {P : Program} {w : World} {K : Fg} {mg : PySem.Str → Option Value} {base : Heap} (B : Bs K mg) (D__law_counts : Dn P w K mg base CX0 "_law_counts" 2 ["script"] (sp__law_counts K)) (D__law_cell : Dn P w K mg base CX0 "_law_cell" 1 ["script", "k"] (sp__law_cell K)) (D__law_wrong : Dn P w K mg base CX0 "_law_wrong" 1 ["count", "most", "cell"] (sp__law_wrong K)) (D__law_refused : Dn P w K mg base CX0 "_law_refused" 10 ["way", "counts"] (sp__law_refused K)) {f : Addr} {fd : FuncData} (F : FnP K "law" s_law f fd) : FnOk P w K mg base CX0 11 f fd ["script"] (sp_law K) := by
  obtain ⟨f__law_counts, d__law_counts, G__law_counts, g__law_counts, k__law_counts, b__law_counts⟩ := D__law_counts
  obtain ⟨f__law_cell, d__law_cell, G__law_cell, g__law_cell, k__law_cell, b__law_cell⟩ := D__law_cell
  obtain ⟨f__law_wrong, d__law_wrong, G__law_wrong, g__law_wrong, k__law_wrong, b__law_wrong⟩ := D__law_wrong
  obtain ⟨f__law_refused, d__law_refused, G__law_refused, g__law_refused, k__law_refused, b__law_refused⟩ := D__law_refused
  have nd : (["script", "counts", "at", "most", "wrong", "way"] : List PySem.Str).Nodup := sc_law.nd
  refine F.ok sc_law (fun vs H Q E h => ?_) (fun cdv A outer s H0 vs Q E hr h => ?_)
  · obtain ⟨F0, script, vp_0, rfl, s, hp_0, hP⟩ := h
    rfl
  · obtain ⟨F0, script, vp_0, rfl, s, hp_0, hP⟩ := h
    have g : GrZ Z0 F0 H0 F0 H0 := GrZ.refl s
    refine ⟨_, PSs.nox (by exact (pss_cons (ps_set (i := 1) nd rfl (Or.inl rfl) (pe_call G__law_counts (hr.mono (by omega)) rfl g__law_counts k__law_counts b__law_counts .nil pass0 (pa_cons (pv 0) pa_nil))) (pss_cons (ps_set (i := 2) nd rfl (Or.inl rfl) (pe_op op_mod (pe_call G__law_cell (hr.mono (by omega)) rfl g__law_cell k__law_cell b__law_cell .nil pass0 (pa_cons (pv 0) (pa_cons pe_int pa_nil))) pe_int)) (pss_cons (ps_set (i := 3) nd rfl (Or.inl rfl) (pe_ix (ix_listK K) (pe_lst (pa_cons pe_int (pa_cons (pe_ix (ix_listK K) (pv 1) pe_int (fun _ _ => rfl)) (pa_cons (pe_ix (ix_listK K) (pv 1) pe_int (fun _ _ => rfl)) pa_nil)))) (pv 2) (fun _ _ => rfl))) (pss_cons (ps_set (i := 4) nd rfl (Or.inl rfl) (pe_callTy (list_ofK K) (by rfl) B.b_list (by decide +kernel) (pa_cons (pv 1) pa_nil))) (pss_cons (ps_asg (pe_call G__law_wrong (hr.mono (by omega)) rfl g__law_wrong k__law_wrong b__law_wrong .nil pass0 (pa_cons (pe_ix (ix_listK K) (pv 1) (pv 2) (fun _ _ => rfl)) (pa_cons (pv 3) (pa_cons (pe_call G__law_cell (hr.mono (by omega)) rfl g__law_cell k__law_cell b__law_cell .nil pass0 (pa_cons (pv 0) (pa_cons pe_int pa_nil))) pa_nil)))) (pg_sub (pv 4) (pv 2) set_list)) (pss_cons (ps_for PassesOwn.never rfl (pi_range1 rfl B.b_range (pa_cons pe_int pa_nil)) (pg_name (i := 5) nd rfl (Or.inl rfl)) (pss_cons (ps_if (pt_cmpR op_notB (pe_call G__law_refused (hr.mono (by omega)) rfl g__law_refused k__law_refused b__law_refused .nil pass0 (pa_cons (pv 5) (pa_cons (pv 4) pa_nil))) pe_bl (nomark _)) (pss_cons (ps_ret pe_bl) pss_nil) pss_nil) pss_nil)) (pss_cons (ps_if (PW.pt (pw_or (pt_cmpR op_notN1 (pe_call G__law_refused (hr.mono (by omega)) rfl g__law_refused k__law_refused b__law_refused .nil pass0 (pa_cons pe_int (pa_cons (pv 1) pa_nil))) pe_non (nomark _)) (pw_or1 (pt_cmpR op_notN1 (pe_call G__law_refused (hr.mono (by omega)) rfl g__law_refused k__law_refused b__law_refused .nil pass0 (pa_cons pe_int (pa_cons (pv 1) pa_nil))) pe_non (nomark _))))) (pss_cons (ps_ret pe_bl) pss_nil) pss_nil) (pss_cons (ps_ret (pe_cmpR op_isN1 (pe_call G__law_refused (hr.mono (by omega)) rfl g__law_refused k__law_refused b__law_refused .nil pass0 (pa_cons pe_int (pa_cons (pe_lst (pa_cons pe_int (pa_cons pe_int (pa_cons pe_int pa_nil)))) pa_nil))) pe_non (nomark _))) pss_nil))))))))), ?_⟩
    refine nf_ (σ' := [some vp_0, none, none, none, none, none]) rfl ?_
    refine q_set (K := K) (P := (Ret K Z0 F0 H0 Q)) hP s (TvL.tv (tl_call (ta_cons (tv_var rfl hp_0) ta_nil) (sv__law_counts ))) ?_
    intro counts F1 H2 v4 hcounts gr3 h_4 hP
    have s := gr3.sub
    have g := g.then gr3
    have hp_0 := up gr3.ex hp_0
    have hl3 : counts.length = 3 := by rw [hcounts]; exact len_counts _
    refine nf_ (σ' := [some vp_0, some v4, none, none, none, none]) rfl ?_
    refine q_setF (K := K) (P := (Ret K Z0 F0 H0 Q)) hP (tv_op (tv_call (ta_cons (tv_var rfl (up s hp_0)) (ta_cons tv_int ta_nil)) (sv__law_cell (by /- 1 pre:_law_cell -/ first | decide | assumption | omega))) tv_int (op2_mod (by /- 2 pos -/ first | decide | omega))) ?_
    intro at' H5 hatp e5 hP
    have s := s.trans e5
    have g := g.grow e5
    refine nf_ (σ' := [some vp_0, some v4, some (Flat.val at'), none, none, none]) rfl ?_
    refine q_setF (K := K) (P := (Ret K Z0 F0 H0 Q)) hP (tv_op (TvL.tv (tl_lst (ta_rcons tv_int (ta_rcons (tv_op (tv_var rfl (up s h_4)) tv_int (op2_ixL (by /- 5 ix -/ first | exact ⟨by decide, by decide⟩ | exact ⟨by omega, by omega⟩))) (ta_rcons (tv_op (tv_var rfl (up s h_4)) tv_int (op2_ixL (by /- 6 ix -/ first | exact ⟨by decide, by decide⟩ | exact ⟨by omega, by omega⟩))) ta_rnil))) (by show 3 ≤ 100000; decide))) (tv_var rfl (Flat.of _)) (op2_ixL (by /- 7 ixd -/ (refine ⟨?_, ?_⟩ <;> simp only [List.length_cons, List.length_nil] <;> omega)))) ?_
    intro most H6 hmost e6 hP
    have s := s.trans e6
    have g := g.grow e6
    refine nf_ (σ' := [some vp_0, some v4, some (Flat.val at'), some (Flat.val most), none, none]) rfl ?_
    refine q_setM (K := K) (P := (Ret K Z0 F0 H0 Q)) hP s (tl_dyM (tl_cb (ta_cons (tv_var rfl h_4) ta_nil) cl_list)) ?_
    intro wrong F7 H8 p10 hwrong gr9 nw10 m_10 hP
    have n_10 := g.newIn nw10
    have s := gr9.sub
    have g := g.then gr9
    have hp_0 := up gr9.ex hp_0
    have h_4 := up gr9.ex h_4
    have hw3 : wrong.length = 3 := by rw [hwrong]; first | (rw [List.length_map]; exact hl3) | (rw [setI_len]; exact hw3)
    refine nf_ (σ' := [some vp_0, some v4, some (Flat.val at'), some (Flat.val most), some (.ref p10), none]) rfl ?_
    refine q_setIx (K := K) (P := (Ret K Z0 F0 H0 Q)) hP s m_10 rfl (tv_call (ta_cons (tv_flat (tv_op (tv_var rfl (up s h_4)) (tv_var rfl (Flat.of _)) (op2_ixL (by /- 8 ix -/ first | exact ⟨by decide, by decide⟩ | exact ⟨by omega, by omega⟩)))) (ta_cons (tv_flat (tv_var rfl (Flat.of _))) (ta_cons (tv_flat (tv_call (ta_cons (tv_var rfl (up s hp_0)) (ta_cons tv_int ta_nil)) (sv__law_cell (by /- 9 pre:_law_cell -/ first | decide | assumption | omega)))) ta_nil))) (sv__law_wrong (by /- 10 pre:_law_wrong -/ exact wrong_pre hcounts hmost (by omega) (by omega)))) (tv_var rfl (Flat.of _)) (by /- 11 ix -/ first | exact ⟨by decide, by decide⟩ | exact ⟨by omega, by omega⟩) ?_
    intro wrong F12 H11 hwrong md13 m_10 hP
    have s := md13.sub
    have g := g.md n_10 md13
    have hp_0 := up md13.ex hp_0
    have h_4 := up md13.ex h_4
    have hw3 : wrong.length = 3 := by rw [hwrong]; first | (rw [List.length_map]; exact hl3) | (rw [setI_len]; exact hw3)
    refine nf_ (σ' := [some vp_0, some v4, some (Flat.val at'), some (Flat.val most), some (.ref p10), none]) rfl ?_
    refine q_for (K := K) (P := (Ret K Z0 F0 H0 Q)) (fun (i : Nat) F H σ st => ∃ (ew_way : Option V), σ = [some vp_0, some v4, some (Flat.val at'), some (Flat.val most), some (.ref p10), ew_way] ∧ GrZ Z0 F0 H0 F H ∧ MutL K F H p10 wrong) hP s (it_range1 (K := K) tv_int (by /- 12 rlo -/ omega) (by /- 13 rhi -/ omega)) stb_t ⟨_, rfl, g, m_10⟩ (fun i F1 H1 σ1 st h => (by obtain ⟨_, _, gq, _⟩ := h; exact ⟨gq.sub, trivial⟩)) ?_ ?_
    · rintro i14 way ⟨⟩ Fa14 Ha14 Fl14 Hl14 σ14 vt14 Nl14 Bl14 Pl14 hx14 hr14 fa14 ⟨wj14_5, rfl, g, m_10⟩ gl14 hv14 hP hN14 hB14 hR14
      have s := gl14.sub
      have g := g.then gl14
      have sml14 := Same.refl Fl14
      have hp_0 := up (fa14.trans gl14.ex) hp_0
      have h_4 := up (fa14.trans gl14.ex) h_4
      have m_10 := m_10.go gl14
      have hil14 := (List.getElem?_eq_some_iff.mp hx14).1
      simp only [rng_len] at hil14
      obtain rfl := Flat.is hv14
      refine g_name ?_
      refine nf_ (σ' := [some vp_0, some v4, some (Flat.val at'), some (Flat.val most), some (.ref p10), some (Flat.val way)]) rfl ?_
      refine q_if (P := Pl14) hP (tt_test (K := K) (tv_op (tv_call (ta_cons (tv_var rfl (Flat.of _)) (ta_cons (tv_var rfl (m_10.rd s)) ta_nil)) (sv__law_refused (by /- 14 pre:_law_refused -/ first | (first | decide | assumption | omega) | (have hr_hx14 := rng_at hx14; (first | decide | assumption | omega))))) tv_bl op2_notB)) ?_ ?_
      · intro hc15 H15 e15 hP
        have s := s.trans e15
        have g := g.grow e15
        have m_10 := m_10.grow e15
        refine nf_ (σ' := [some vp_0, some v4, some (Flat.val at'), some (Flat.val most), some (.ref p10), some (Flat.val way)]) rfl ?_
        replace hP := hR14 _ hP
        exact q_retF hP g tv_bl
      · intro hc15 H15 e15 hP
        first | refine q_endS ?_ | refine q_endC ?_ | refine q_end ?_
        have s := s.trans e15
        have g := g.grow e15
        have m_10 := m_10.grow e15
        first | refine q_endS ?_ | refine q_endC ?_ | refine q_end ?_
        exact hN14 _ hP _ _ _ sml14 ⟨_, rfl, g, m_10⟩
    · rintro i16 Fa16 Ha16 Fe16 He16 σ16 ⟨⟩ hi16 hrun16 fa16 ⟨wj16_5, rfl, g, m_10⟩ gl16 hP
      have s := gl16.sub
      have g := g.then gl16
      have hp_0 := up (fa16.trans gl16.ex) hp_0
      have h_4 := up (fa16.trans gl16.ex) h_4
      have m_10 := m_10.go gl16
      refine nf_ (σ' := [some vp_0, some v4, some (Flat.val at'), some (Flat.val most), some (.ref p10), wj16_5]) rfl ?_
      refine q_if (P := (Ret K Z0 F0 H0 Q)) hP (tt_or (tt_test (K := K) (tv_op (tv_call (ta_cons tv_int (ta_cons (tv_dyL (tv_var rfl (up s h_4))) ta_nil)) (sv__law_refused (by /- 15 pre:_law_refused -/ rw [List.length_map]; exact hl3))) tv_non op2_notN)) (fun hq17 => (tt_test (K := K) (tv_op (tv_call (ta_cons tv_int (ta_cons (tv_dyL (tv_var rfl (up s h_4))) ta_nil)) (sv__law_refused (by /- 16 pre:_law_refused -/ rw [List.length_map]; exact hl3))) tv_non op2_notN)))) ?_ ?_
      · intro hc19 H19 e19 hP
        have s := s.trans e19
        have g := g.grow e19
        have m_10 := m_10.grow e19
        refine nf_ (σ' := [some vp_0, some v4, some (Flat.val at'), some (Flat.val most), some (.ref p10), wj16_5]) rfl ?_
        exact q_retF hP g tv_bl
      · intro hc19 H19 e19 hP
        first | refine q_endS ?_ | refine q_endC ?_ | refine q_end ?_
        have s := s.trans e19
        have g := g.grow e19
        have m_10 := m_10.grow e19
        refine nf_ (σ' := [some vp_0, some v4, some (Flat.val at'), some (Flat.val most), some (.ref p10), wj16_5]) rfl ?_
        exact q_retF hP g (tv_op (tv_call (ta_cons tv_int (ta_cons (TvL.tv (tl_lst (ta_rcons (tv_dyI tv_int) (ta_rcons (tv_dyI tv_int) (ta_rcons (tv_dyI tv_int) ta_rnil))) (by show 3 ≤ 100000; decide))) ta_nil)) (sv__law_refused (by /- 17 pre:_law_refused -/ first | (first | decide | assumption | omega) | ((try simp only [decide_eq_true_eq, decide_eq_false_iff_not, Bool.not_eq_true', Bool.not_eq_false', Bool.and_eq_true, Bool.and_eq_false_iff, Bool.or_eq_true, Bool.or_eq_false_iff] at hc19); (first | decide | assumption | omega))))) tv_non op2_isN)
theorem wrong_bad (count most cell : Int) : isI (m__law_wrong count most cell) = false ∨ ∃ i, m__law_wrong count most cell = .int i ∧ (i < 1 ∨ i > most) := by
  unfold m__law_wrong
  simp only [lt_eq]
  have h : cell % 8 = 0 ∨ cell % 8 = 1 ∨ cell % 8 = 2 ∨ cell % 8 = 3 ∨ cell % 8 = 4 ∨ cell % 8 = 5 ∨ cell % 8 = 6 ∨ cell % 8 = 7 := by omega
  have hk : 0 ≤ (cell / 8) % ((10 : Int) ^ ((9 : Int)).toNat) := Int.emod_nonneg _ (by decide)
  rcases h with h | h | h | h | h | h | h | h <;> rw [h]
  · exact .inr ⟨0, rfl, .inl (by decide)⟩
  · exact .inr ⟨_, rfl, .inl (by omega)⟩
  · exact .inr ⟨_, rfl, .inr (by omega)⟩
  · exact .inr ⟨_, rfl, .inr (by omega)⟩
  · exact .inl rfl
  · exact .inl rfl
  · exact .inl rfl
  · exact .inl rfl
theorem okC_of {a b c : Dy} (h : okC a b c = true) : isI a = true ∧ isI b = true ∧ isI c = true ∧ 1 ≤ dI a ∧ dI a ≤ 5 ∧ 1 ≤ dI b ∧ dI b ≤ dI a ∧ 1 ≤ dI c ∧ dI c ≤ dI a :=
  need_ok (y := ()) (by rw [need_eq, h]; rfl)
theorem whole_int (i : Int) : m_is_whole (.int i) = true := rfl
theorem okC_good {a b c : Int} (h : 1 ≤ a ∧ a ≤ 5 ∧ 1 ≤ b ∧ b ≤ a ∧ 1 ≤ c ∧ c ≤ a) : okC (.int a) (.int b) (.int c) = true := by
  have d : ∀ i, dI (.int i) = i := fun _ => rfl
  unfold okC
  simp only [whole_int, d, Bool.and_eq_true, decide_eq_true_eq, true_and, and_true]
  repeat' apply And.intro
  all_goals omega
theorem ref_eq (way : Int) (cs : List Dy) : m__law_refused way cs = cond (okC (ixI cs 0) (ixI cs 1) (ixI cs 2)) none (some true) := by
  unfold m__law_refused
  simp only [lt_eq, lt2_eq]
  have e : (cond (decide (way = (0 : Int))) (lx (m_weavings (ixI cs (0 : Int)) (ixI cs (1 : Int)) (ixI cs (2 : Int))) fun _ => (.ok ())) (cond (decide (way = (1 : Int))) (lx (m_missed (ixI cs (0 : Int)) (ixI cs (1 : Int)) (ixI cs (2 : Int))) fun _ => (.ok ())) (lx (m_rows_of (ixI cs (0 : Int)) (ixI cs (1 : Int)) (ixI cs (2 : Int)) (((1 : Int), (0 : Int), (1 : Int)) : (Int × Int × Int))) fun _ => (.ok ()))) : Except Exn Unit) = cond (okC (ixI cs 0) (ixI cs 1) (ixI cs 2)) (.ok ()) (.error nc) := by
    unfold m_missed m_rows_of
    rw [weav_eq, need_eq]
    cases okC (ixI cs 0) (ixI cs 1) (ixI cs 2) <;> cases decide (way = 0) <;> cases decide (way = 1) <;> simp only [cond_true, cond_false, lx_ok, lx_er, lt_eq, ltL3_eq]
  rw [e]
  cases okC (ixI cs 0) (ixI cs 1) (ixI cs 2) <;> rfl
theorem bad_0 {b c x : Dy} (most : Int) (hm : most = 5) (h : isI x = false ∨ ∃ i, x = .int i ∧ (i < 1 ∨ i > most)) : okC x b c = false := by
  cases q : okC x b c with
  | false => rfl
  | true =>
    have o := okC_of q
    rcases h with h | ⟨i, rfl, h⟩
    · rw [h] at o; exact nomatch o.1
    · simp only [dI] at o; omega
theorem bad_1 {a : Int} {c x : Dy} (h : isI x = false ∨ ∃ i, x = .int i ∧ (i < 1 ∨ i > a)) : okC (.int a) x c = false := by
  cases q : okC (.int a) x c with
  | false => rfl
  | true =>
    have o := okC_of q
    rcases h with h | ⟨i, rfl, h⟩
    · rw [h] at o; exact nomatch o.2.1
    · simp only [dI] at o; omega
theorem bad_2 {a : Int} {b x : Dy} (h : isI x = false ∨ ∃ i, x = .int i ∧ (i < 1 ∨ i > a)) : okC (.int a) b x = false := by
  cases q : okC (.int a) b x with
  | false => rfl
  | true =>
    have o := okC_of q
    rcases h with h | ⟨i, rfl, h⟩
    · rw [h] at o; exact nomatch o.2.2.1
    · simp only [dI] at o; omega
theorem run_allN {α R : Type} {body : Unit → α → Fl Unit R} : ∀ {xs : List α}, (∀ x ∈ xs, body () x = .nx ()) → Rf.run body () xs = .nx ()
  | [], _ => rfl
  | x :: xs, h => by
    simp only [Rf.run]
    rw [h x (List.mem_cons_self ..)]
    exact run_allN fun y hy => h y (List.mem_cons_of_mem _ hy)
theorem tail_true {a b c : Int} (q : 1 ≤ a ∧ a ≤ 5 ∧ 1 ≤ b ∧ b ≤ a ∧ 1 ≤ c ∧ c ≤ a) {w : List Dy} (hw : okC (ixI w 0) (ixI w 1) (ixI w 2) = false) :
    (fin (run (R := Bool) (fun (st : Unit) (way : Int) => (cond (!decide ((m__law_refused way w) = some true)) (Fl.rt false) (Fl.nx ()))) () (rng 0 ((3 : Int)).toNat)) (fun r => r) (fun (_ : Unit) => (cond (((m__law_refused (0 : Int) ([a, b, c].map Dy.int))).isSome || ((m__law_refused (1 : Int) ([a, b, c].map Dy.int))).isSome) false ((m__law_refused (2 : Int) ([(Dy.int (1 : Int)), (Dy.int (1 : Int)), (Dy.int (1 : Int))] : List Dy))).isNone))) = true := by
  rw [run_allN, fin_nx]
  · simp only [ref_eq]
    have e1 : okC (ixI ([a, b, c].map Dy.int) 0) (ixI ([a, b, c].map Dy.int) 1) (ixI ([a, b, c].map Dy.int) 2) = true := okC_good q
    have e2 : okC (ixI [Dy.int (1 : Int), Dy.int (1 : Int), Dy.int (1 : Int)] 0) (ixI [Dy.int (1 : Int), Dy.int (1 : Int), Dy.int (1 : Int)] 1) (ixI [Dy.int (1 : Int), Dy.int (1 : Int), Dy.int (1 : Int)] 2) = true := okC_good (by decide)
    rw [e1, e2]
    rfl
  · intro x _
    rw [ref_eq, hw]
    rfl
theorem law_true (ns : List Int) (_h : ns.length ≤ 63) : m_law ⟨ns⟩ = true := by
  unfold m_law
  simp only [lt_eq]
  obtain ⟨a, b, c, e⟩ := three_of (len_counts ⟨ns⟩)
  have q := counts_ok (x := ⟨ns⟩) e.symm
  rw [e]
  have hk : m__law_cell ⟨ns⟩ (3 : Int) % (3 : Int) = 0 ∨ m__law_cell ⟨ns⟩ (3 : Int) % (3 : Int) = 1 ∨ m__law_cell ⟨ns⟩ (3 : Int) % (3 : Int) = 2 := by omega
  rcases hk with h | h | h <;> rw [h] <;> refine tail_true q ?_
  · exact bad_0 (x := m__law_wrong a 5 (m__law_cell ⟨ns⟩ 4)) (b := .int b) (c := .int c) 5 rfl (wrong_bad a 5 _)
  · exact bad_1 (x := m__law_wrong b a (m__law_cell ⟨ns⟩ 4)) (a := a) (c := .int c) (wrong_bad b a _)
  · exact bad_2 (x := m__law_wrong c a (m__law_cell ⟨ns⟩ 4)) (a := a) (b := .int b) (wrong_bad c a _)
def d_is_whole : He.DefD := ⟨("is_whole", none), "is_whole", "is_whole", defArgs s_is_whole, defBody s_is_whole, defScope s_is_whole, [], []⟩
def d_need_counts : He.DefD := ⟨("need_counts", none), "need_counts", "need_counts", defArgs s_need_counts, defBody s_need_counts, defScope s_need_counts, [], []⟩
def d_sets_of : He.DefD := ⟨("sets_of", none), "sets_of", "sets_of", defArgs s_sets_of, defBody s_sets_of, defScope s_sets_of, [], []⟩
def d_weavings : He.DefD := ⟨("weavings", none), "weavings", "weavings", defArgs s_weavings, defBody s_weavings, defScope s_weavings, [], []⟩
def d_misses : He.DefD := ⟨("misses", none), "misses", "misses", defArgs s_misses, defBody s_misses, defScope s_misses, [], []⟩
def d_missed : He.DefD := ⟨("missed", none), "missed", "missed", defArgs s_missed, defBody s_missed, defScope s_missed, [], []⟩
def d_homes_in : He.DefD := ⟨("homes_in", none), "homes_in", "homes_in", defArgs s_homes_in, defBody s_homes_in, defScope s_homes_in, [], []⟩
def d_bring_rows : He.DefD := ⟨("bring_rows", none), "bring_rows", "bring_rows", defArgs s_bring_rows, defBody s_bring_rows, defScope s_bring_rows, [], []⟩
def d_rows_of : He.DefD := ⟨("rows_of", none), "rows_of", "rows_of", defArgs s_rows_of, defBody s_rows_of, defScope s_rows_of, [], []⟩
def d__law_cell : He.DefD := ⟨("_law_cell", none), "_law_cell", "_law_cell", defArgs s__law_cell, defBody s__law_cell, defScope s__law_cell, [], []⟩
def d__law_counts : He.DefD := ⟨("_law_counts", none), "_law_counts", "_law_counts", defArgs s__law_counts, defBody s__law_counts, defScope s__law_counts, [], []⟩
def d__law_wrong : He.DefD := ⟨("_law_wrong", none), "_law_wrong", "_law_wrong", defArgs s__law_wrong, defBody s__law_wrong, defScope s__law_wrong, [], []⟩
def d__law_refused : He.DefD := ⟨("_law_refused", none), "_law_refused", "_law_refused", defArgs s__law_refused, defBody s__law_refused, defScope s__law_refused, [], []⟩
def d_law : He.DefD := ⟨("law", none), "law", "law", defArgs s_law, defBody s_law, defScope s_law, [], []⟩
def fn_ : List He.DefD := [d_is_whole, d_need_counts, d_sets_of, d_weavings, d_misses, d_missed, d_homes_in, d_bring_rows, d_rows_of, d__law_cell, d__law_counts, d__law_wrong, d__law_refused, d_law]
def fa_ : List He.Fa := [.glo "is_whole", .glo "need_counts", .glo "sets_of", .glo "weavings", .glo "misses", .glo "missed", .glo "homes_in", .glo "bring_rows", .glo "rows_of", .glo "_law_cell", .glo "_law_counts", .glo "_law_wrong", .glo "_law_refused", .glo "law", .free "int", .free "isinstance", .free "bool", .free "len", .free "range", .free "str", .free "ValueError", .free "list", .str "NAMES" "abcde", .glo "NoCounts", .exc "NoCounts", .glo "RoofError", .exc "RoofError", .glo "NoThing", .exm "NoCounts" "RoofError" true]
abbrev R_ : PySem.W.OpenRow := PySem.W.OpenLaw.row PySem.Challenge.rw_threeroofs_k73_no_counts
def ex_ (K : Fg) : Bool := (excC K (He.ga K "NoCounts")) && (decide (PySem.W.kitOne K (.ref (He.ga K "NoCounts")) (.ref (He.ga K "NoCounts")) = some true)) && (decide (PySem.W.kitOne K (.ref (He.ga K "NoCounts")) (.type "ValueError") = some true)) && (decide (PySem.W.kitOne K (.ref (He.ga K "NoCounts")) (.ref (He.ga K "NoThing")) = some false))
abbrev hk_ : PySem.W.Hook := He.hookX 4 fa_ fn_ [] [] ex_
def ob_ (s : PySem.W.SharedT) : He.AlX := He.obsX 4 fa_ fn_ [] [] ex_ (HandSHeadRun.getT s)
theorem ob_eq (s : PySem.W.SharedT) : ob_ s = hk_.obs s.abs := He.obsX_eq (HandSHeadRun.getT_eq s)
def loose_ : List PySem.Str := ["RoofError", "NoThing", "NoCounts", "is_whole", "NAMES", "need_counts", "sets_of", "weavings", "misses", "missed", "homes_in", "bring_rows", "rows_of", "_law_cell", "_law_whole", "_law_counts", "_law_wrong", "_law_refused"]
theorem ex_at0 {K : Fg} (h : ex_ K = true) : (excC K (He.ga K "NoCounts")) = true := by
  unfold ex_ at h
  try simp only [Bool.and_eq_true] at h
  exact h.1.1.1
theorem ex_at1 {K : Fg} (h : ex_ K = true) : (decide (PySem.W.kitOne K (.ref (He.ga K "NoCounts")) (.ref (He.ga K "NoCounts")) = some true)) = true := by
  unfold ex_ at h
  try simp only [Bool.and_eq_true] at h
  exact h.1.1.2
theorem ex_at2 {K : Fg} (h : ex_ K = true) : (decide (PySem.W.kitOne K (.ref (He.ga K "NoCounts")) (.type "ValueError") = some true)) = true := by
  unfold ex_ at h
  try simp only [Bool.and_eq_true] at h
  exact h.1.2
theorem ex_at3 {K : Fg} (h : ex_ K = true) : (decide (PySem.W.kitOne K (.ref (He.ga K "NoCounts")) (.ref (He.ga K "NoThing")) = some false)) = true := by
  unfold ex_ at h
  try simp only [Bool.and_eq_true] at h
  exact h.2
theorem run_ (w : World) : HandSHeadRun.RunEq R_ (PySem.W.view R_.prog [22]) hk_ ob_ 3000 loose_ w := by
  intro os
  kernel_rfl
theorem facts_ {P : Program} {w : World} {K : Fg} {h : Heap} {mg : PySem.Str → Option Value} {f : Addr} (X : K.In h) (G : h.Ns mainGlobals mg) (hfa : mg ("law" : PySem.Str) = some (.ref f)) (c : He.SaysD fa_ fn_ K) (cx : ex_ K = true) :
    ∃ fd : FuncData, (∀ (s : Shared) (v : Value), BindsTo s fd ⟨[v], []⟩ [("script", v)]) ∧ ∀ base : Heap, K.In base → base.Ns mainGlobals mg → FnOk P w K mg base CX0 11 f fd ["script"] (sp_law K) := by
  have B : Bs K mg := ⟨He.free_ok X G (c.fact 14 (f := .free "int") rfl), He.free_ok X G (c.fact 15 (f := .free "isinstance") rfl), He.free_ok X G (c.fact 16 (f := .free "bool") rfl), He.free_ok X G (c.fact 17 (f := .free "len") rfl), He.free_ok X G (c.fact 18 (f := .free "range") rfl), He.free_ok X G (c.fact 19 (f := .free "str") rfl), He.free_ok X G (c.fact 20 (f := .free "ValueError") rfl), He.free_ok X G (c.fact 21 (f := .free "list") rfl), He.str_ok X G (c.fact 22 (f := .str "NAMES" "abcde") rfl), (by obtain ⟨a1, a2, a3, a4⟩ := He.exc_ok (c.fact 24 (f := .exc "NoCounts") rfl); exact ⟨a1, He.glo_ok X G (c.fact 23 (f := .glo "NoCounts") rfl), a2, a3, a4⟩), (by obtain ⟨a1, a2, a3, a4⟩ := He.exc_ok (c.fact 26 (f := .exc "RoofError") rfl); exact ⟨a1, He.glo_ok X G (c.fact 25 (f := .glo "RoofError") rfl), a2, a3, a4⟩), ⟨He.glo_ok X G (c.fact 27 (f := .glo "NoThing") rfl)⟩, He.exm_ok (c.fact 28 (f := .exm "NoCounts" "RoofError" true) rfl), excC_ok (ex_at0 cx), of_decide_eq_true (ex_at1 cx), of_decide_eq_true (ex_at2 cx), of_decide_eq_true (ex_at3 cx)⟩
  obtain ⟨fd_is_whole, F_is_whole⟩ := c.def_ 0 (d := d_is_whole) rfl
  have gl_is_whole := He.glo_ok X G (c.fact 0 (f := .glo "is_whole") rfl)
  obtain ⟨fd_need_counts, F_need_counts⟩ := c.def_ 1 (d := d_need_counts) rfl
  have gl_need_counts := He.glo_ok X G (c.fact 1 (f := .glo "need_counts") rfl)
  obtain ⟨fd_sets_of, F_sets_of⟩ := c.def_ 2 (d := d_sets_of) rfl
  have gl_sets_of := He.glo_ok X G (c.fact 2 (f := .glo "sets_of") rfl)
  obtain ⟨fd_weavings, F_weavings⟩ := c.def_ 3 (d := d_weavings) rfl
  have gl_weavings := He.glo_ok X G (c.fact 3 (f := .glo "weavings") rfl)
  obtain ⟨fd_misses, F_misses⟩ := c.def_ 4 (d := d_misses) rfl
  have gl_misses := He.glo_ok X G (c.fact 4 (f := .glo "misses") rfl)
  obtain ⟨fd_missed, F_missed⟩ := c.def_ 5 (d := d_missed) rfl
  have gl_missed := He.glo_ok X G (c.fact 5 (f := .glo "missed") rfl)
  obtain ⟨fd_homes_in, F_homes_in⟩ := c.def_ 6 (d := d_homes_in) rfl
  have gl_homes_in := He.glo_ok X G (c.fact 6 (f := .glo "homes_in") rfl)
  obtain ⟨fd_bring_rows, F_bring_rows⟩ := c.def_ 7 (d := d_bring_rows) rfl
  have gl_bring_rows := He.glo_ok X G (c.fact 7 (f := .glo "bring_rows") rfl)
  obtain ⟨fd_rows_of, F_rows_of⟩ := c.def_ 8 (d := d_rows_of) rfl
  have gl_rows_of := He.glo_ok X G (c.fact 8 (f := .glo "rows_of") rfl)
  obtain ⟨fd__law_cell, F__law_cell⟩ := c.def_ 9 (d := d__law_cell) rfl
  have gl__law_cell := He.glo_ok X G (c.fact 9 (f := .glo "_law_cell") rfl)
  obtain ⟨fd__law_counts, F__law_counts⟩ := c.def_ 10 (d := d__law_counts) rfl
  have gl__law_counts := He.glo_ok X G (c.fact 10 (f := .glo "_law_counts") rfl)
  obtain ⟨fd__law_wrong, F__law_wrong⟩ := c.def_ 11 (d := d__law_wrong) rfl
  have gl__law_wrong := He.glo_ok X G (c.fact 11 (f := .glo "_law_wrong") rfl)
  obtain ⟨fd__law_refused, F__law_refused⟩ := c.def_ 12 (d := d__law_refused) rfl
  have gl__law_refused := He.glo_ok X G (c.fact 12 (f := .glo "_law_refused") rfl)
  obtain ⟨fd_law, F_law⟩ := c.def_ 13 (d := d_law) rfl
  have gl_law := He.glo_ok X G (c.fact 13 (f := .glo "law") rfl)
  have e := hfa.symm.trans gl_law
  cases e
  have b := FunD.bindsA (ps := ["script"]) F_law fun _ _ _ _ _ _ us hl => match us, hl with | [_], _ => rfl
  refine ⟨fd_law, fun s v => b s [v] rfl, fun base _ _ => ?_⟩
  have D_is_whole : Dn P w K mg base CX0 "is_whole" 1 ["thing"] (sp_is_whole K) := ⟨_, fd_is_whole, ok_is_whole B  F_is_whole, gl_is_whole, F_is_whole.kp, F_is_whole.bindsN fun _ _ _ _ _ _ us hl => match us, hl with | [_], _ => rfl⟩
  have D_need_counts : Dn P w K mg base (L2.CX P w) "need_counts" 2 ["copies", "reads", "writes"] (sp_need_counts K) := ⟨_, fd_need_counts, ok_need_counts B D_is_whole F_need_counts, gl_need_counts, F_need_counts.kp, F_need_counts.bindsN fun _ _ _ _ _ _ us hl => match us, hl with | [_, _, _], _ => rfl⟩
  have D_sets_of : Dn P w K mg base CX0 "sets_of" 7 ["many", "some"] (sp_sets_of K 6) := ⟨_, fd_sets_of, ok_sets_of B  F_sets_of gl_sets_of 6, gl_sets_of, F_sets_of.kp, F_sets_of.bindsN fun _ _ _ _ _ _ us hl => match us, hl with | [_, _], _ => rfl⟩
  have D_weavings : Dn P w K mg base (L2.CX P w) "weavings" 8 ["copies", "reads", "writes"] (sp_weavings K) := ⟨_, fd_weavings, ok_weavings B D_need_counts D_sets_of F_weavings, gl_weavings, F_weavings.kp, F_weavings.bindsN fun _ _ _ _ _ _ us hl => match us, hl with | [_, _, _], _ => rfl⟩
  have D_misses : Dn P w K mg base CX0 "misses" 1 ["weaving"] (sp_misses K) := ⟨_, fd_misses, ok_misses B  F_misses, gl_misses, F_misses.kp, F_misses.bindsN fun _ _ _ _ _ _ us hl => match us, hl with | [_], _ => rfl⟩
  have D_missed : Dn P w K mg base (L2.CX P w) "missed" 9 ["copies", "reads", "writes"] (sp_missed K) := ⟨_, fd_missed, ok_missed B D_weavings D_misses F_missed, gl_missed, F_missed.kp, F_missed.bindsN fun _ _ _ _ _ _ us hl => match us, hl with | [_, _, _], _ => rfl⟩
  have D_homes_in : Dn P w K mg base CX0 "homes_in" 1 ["some"] (sp_homes_in K) := ⟨_, fd_homes_in, ok_homes_in B  F_homes_in, gl_homes_in, F_homes_in.kp, F_homes_in.bindsN fun _ _ _ _ _ _ us hl => match us, hl with | [_], _ => rfl⟩
  have D_bring_rows : Dn P w K mg base CX0 "bring_rows" 1 ["numbers"] (sp_bring_rows K) := ⟨_, fd_bring_rows, ok_bring_rows B  F_bring_rows, gl_bring_rows, F_bring_rows.kp, F_bring_rows.bindsN fun _ _ _ _ _ _ us hl => match us, hl with | [_], _ => rfl⟩
  have D_rows_of : Dn P w K mg base (L2.CX P w) "rows_of" 3 ["copies", "reads", "writes", "weaving"] (sp_rows_of K) := ⟨_, fd_rows_of, ok_rows_of B D_need_counts D_homes_in D_bring_rows F_rows_of, gl_rows_of, F_rows_of.kp, F_rows_of.bindsN fun _ _ _ _ _ _ us hl => match us, hl with | [_, _, _, _], _ => rfl⟩
  have D__law_cell : Dn P w K mg base CX0 "_law_cell" 1 ["script", "k"] (sp__law_cell K) := ⟨_, fd__law_cell, ok__law_cell B  F__law_cell, gl__law_cell, F__law_cell.kp, F__law_cell.bindsN fun _ _ _ _ _ _ us hl => match us, hl with | [_, _], _ => rfl⟩
  have D__law_counts : Dn P w K mg base CX0 "_law_counts" 2 ["script"] (sp__law_counts K) := ⟨_, fd__law_counts, ok__law_counts B D__law_cell F__law_counts, gl__law_counts, F__law_counts.kp, F__law_counts.bindsN fun _ _ _ _ _ _ us hl => match us, hl with | [_], _ => rfl⟩
  have D__law_wrong : Dn P w K mg base CX0 "_law_wrong" 1 ["count", "most", "cell"] (sp__law_wrong K) := ⟨_, fd__law_wrong, ok__law_wrong B  F__law_wrong, gl__law_wrong, F__law_wrong.kp, F__law_wrong.bindsN fun _ _ _ _ _ _ us hl => match us, hl with | [_, _, _], _ => rfl⟩
  have D__law_refused : Dn P w K mg base CX0 "_law_refused" 10 ["way", "counts"] (sp__law_refused K) := ⟨_, fd__law_refused, ok__law_refused B D_weavings D_missed D_rows_of F__law_refused, gl__law_refused, F__law_refused.kp, F__law_refused.bindsN fun _ _ _ _ _ _ us hl => match us, hl with | [_, _], _ => rfl⟩
  exact ok_law B D__law_counts D__law_cell D__law_wrong D__law_refused F_law
end Th
open PySem PySem.W PySem.Calls PyProof.Rows
theorem PySem.Challenge.cw_threeroofs_k73_no_counts_holds : PySem.Challenge.rw_threeroofs_k73_no_counts.Holds := by
  w_on; o_law
  refine HandSHeadRun.head_any (r := OpenLaw.row PySem.Challenge.rw_threeroofs_k73_no_counts) (q := view (OpenLaw.row PySem.Challenge.rw_threeroofs_k73_no_counts).prog [22]) (H := Th.hk_) (ob := Th.ob_) (M := 3000) (loose := Th.loose_) (d := HandSHeadRun.topDef (OpenLaw.row PySem.Challenge.rw_threeroofs_k73_no_counts).prog 22) (kwd := []) Th.ob_eq
    (by kernel_rfl) (fun s => by kernel_rfl) Th.run_ (by kernel_rfl) (by kernel_rfl) (by kernel_rfl) (by rfl) (by first | assumption | decide +kernel) (by decide +kernel) ⟨rfl, rfl, rfl, rfl, rfl, by decide +kernel⟩ ?hw ?hc
  case hw => w_witness2
  case hc =>
    refine L2.walk_ofE (l := PySem.Challenge.rw_threeroofs_k73_no_counts) (n := 63) (k := 11) (x := "script") (CX := L2.CX0) rfl (by decide) (by kernel_rfl) ⟨rfl, by decide, by decide⟩ ?F (fun _ _ _ _ z => z)
    intro w mg fa h Y G hmg0
    obtain ⟨K, KX, c⟩ := Y
    have hmg : mg ("law" : PySem.Str) = some (.ref fa) := by
      have e : (HandSHeadRun.topDef (OpenLaw.row PySem.Challenge.rw_threeroofs_k73_no_counts).prog 22).name = ("law" : PySem.Str) := by kernel_rfl
      rw [← e]
      exact hmg0
    obtain ⟨fd, hb, hF⟩ := Th.facts_ (P := (PySem.Challenge.rw_threeroofs_k73_no_counts).prog) (w := w) KX G hmg c.t.d c.more
    exact ⟨K, fd, Th.sp_law K, KX, hb, fun H a ns hl _ hS => ⟨H, ⟨ns⟩, .ref a, rfl, L2.Same.refl H, ⟨a, rfl, hS⟩, fun F' H' r g hr => by
      have e : r = L2.V.bl (Th.m_law ⟨ns⟩) := hr
      rw [e, Th.law_true ns hl]⟩, hF⟩
#print axioms PySem.Challenge.cw_threeroofs_k73_no_counts_holds
