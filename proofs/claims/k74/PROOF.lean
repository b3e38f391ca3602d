import PyProof.Rows.All
import Wide.All
import OpenK.AllK
import Wide.FinOn
import HandS.ForMost
import HandS.ForExc
import HandS.Flow
import HandS.Zip
import HandS.IsInst
import HandS.Style
import HandS.Evl
import HandS.Steps
import HandS.Defaults
import HandS.FStr
import HandS.Conv
import HandS.SortInts
import HandS.WideBits
import HandS.RaiseMore
import HandS.Head0
import HandS.Head1
import HandS.Head2
import HandS.HeadEnd
import HandS.HeadHook1
import HandS.HeadHook2
import PySem.Challenge.RW_threeroofs_k74_rows_of_a_weaving
set_option Elab.async false
set_option linter.all false
set_option maxRecDepth 100000
set_option maxHeartbeats 2000000
/-! Typed mirrors over the readings: what a value of the heap stands for (Rep), what a reading gives (Tv, Tt, TvA, It), statements (q_*). -/
namespace Rf
open PySem L2
abbrev Fg := PySem.W.Frag
abbrev St := L2.St
/-! ### growing heaps: F is the part that never changes any more, H the whole -/
structure Gr (F H F' H' : Hp) : Prop where
  ex : Same F F'
  keep : Same H H'
  sub : Same F' H'
  new : forall a o, H a = some o -> F' a = F a
/-- .. but for a zone Z that may change -/
structure GrZ (Z : Addr -> Prop) (F H F' H' : Hp) : Prop where
  ex : Same F F'
  keep : forall a o, ¬ Z a -> H a = some o -> H' a = some o
  dom : forall a o, H a = some o -> exists o', H' a = some o'
  sub : Same F' H'
  new : forall a o, H a = some o -> F' a = F a
abbrev Z0 : Addr -> Prop := fun _ => False
section
variable {Z : Addr -> Prop} {F H F1 H1 F2 H2 : Hp} {p : Addr} {o : HO}
theorem Gr.refl (s : Same F H) : Gr F H F H := ⟨Same.refl F, Same.refl H, s, fun _ _ _ => rfl⟩
theorem Gr.self (H : Hp) : Gr H H H H := Gr.refl (Same.refl H)
theorem Gr.trans (a : Gr F H F1 H1) (b : Gr F1 H1 F2 H2) : Gr F H F2 H2 :=
  ⟨a.ex.trans b.ex, a.keep.trans b.keep, b.sub, fun x o e => (b.new x o (a.keep x o e)).trans (a.new x o e)⟩
theorem same_upd (s : Same F H) : Same (upd F p o) (upd H p o) := fun a u e => by
  by_cases h : a = p
  · subst h; rw [upd_same] at e ⊢; exact e
  · rw [upd_ne h] at e ⊢; exact s a u e
theorem same_new (h : H p = none) : Same H (upd H p o) := fun a u e => by
  rw [upd_ne (ne_of_none e h)]; exact e
theorem same_mut (s : Same F H) (h : F p = none) : Same F (upd H p o) := fun a u e => by
  rw [upd_ne (ne_of_none e h)]; exact s a u e
theorem same_in (s : Same F H) (h : H p = some o) : Same (upd F p o) H := fun a u e => by
  by_cases q : a = p
  · subst q; rw [upd_same] at e; rw [h]; exact e
  · rw [upd_ne q] at e; exact s a u e
theorem none_of (s : Same F H) (h : H p = none) : F p = none := Same.free s h
/-- a new frozen object -/
theorem Gr.lay (s : Same F H) (h : H p = none) : Gr F H (upd F p o) (upd H p o) :=
  ⟨same_new (none_of s h), same_new h, same_upd s, fun a u e => upd_ne (ne_of_none e h)⟩
/-- a new object that may change still -/
theorem Gr.put (s : Same F H) (h : H p = none) : Gr F H F (upd H p o) :=
  ⟨Same.refl F, same_new h, same_mut s (none_of s h), fun _ _ _ => rfl⟩
/-- the whole grew, the frozen part stays -/
theorem Gr.up (s : Same F H) (e : Same H H1) : Gr F H F H1 := ⟨Same.refl F, e, s.trans e, fun _ _ _ => rfl⟩
/-- an object new since H is frozen now -/
theorem Gr.ice (g : Gr F H F1 H1) (n : H p = none) (e : H1 p = some o) (f : F1 p = none) : Gr F H (upd F1 p o) H1 :=
  ⟨g.ex.trans (same_new f), g.keep, same_in g.sub e, fun a u q => (upd_ne (ne_of_none q n)).trans (g.new a u q)⟩
theorem Gr.whole (e : Same H H1) : Gr H H H1 H1 := ⟨e, e, Same.refl H1, fun a o q => by rw [q]; exact e a o q⟩
theorem GrZ.refl (s : Same F H) : GrZ Z F H F H := ⟨Same.refl F, fun _ _ _ e => e, fun _ o e => ⟨o, e⟩, s, fun _ _ _ => rfl⟩
theorem GrZ.of (g : Gr F H F1 H1) : GrZ Z F H F1 H1 := ⟨g.ex, fun a o _ e => g.keep a o e, fun a o e => ⟨o, g.keep a o e⟩, g.sub, g.new⟩
theorem GrZ.gr (g : GrZ Z0 F H F1 H1) : Gr F H F1 H1 := ⟨g.ex, fun a o e => g.keep a o (fun z => z) e, g.sub, g.new⟩
theorem GrZ.then (a : GrZ Z F H F1 H1) (b : Gr F1 H1 F2 H2) : GrZ Z F H F2 H2 :=
  ⟨a.ex.trans b.ex, fun x o z e => b.keep x o (a.keep x o z e), fun x o e => let ⟨o', e'⟩ := a.dom x o e; ⟨o', b.keep x o' e'⟩, b.sub,
    fun x o e => let ⟨o', e'⟩ := a.dom x o e; (b.new x o' e').trans (a.new x o e)⟩
theorem GrZ.thenZ {Y : Addr -> Prop} (a : GrZ Z F H F1 H1) (b : GrZ Y F1 H1 F2 H2) (hy : forall x, Y x -> Z x ∨ H x = none) : GrZ Z F H F2 H2 :=
  ⟨a.ex.trans b.ex, fun x o z e => b.keep x o (fun y => (hy x y).elim z fun n => by rw [n] at e; cases e) (a.keep x o z e),
    fun x o e => let ⟨o', e'⟩ := a.dom x o e; b.dom x o' e', b.sub, fun x o e => let ⟨o', e'⟩ := a.dom x o e; (b.new x o' e').trans (a.new x o e)⟩
/-- an object new since H is changed -/
theorem GrZ.mut (a : GrZ Z F H F1 H1) (n : H p = none) (f : F1 p = none) : GrZ Z F H F1 (upd H1 p o) :=
  ⟨a.ex, fun x u z e => by rw [upd_ne (ne_of_none e n)]; exact a.keep x u z e, fun x u e => by rw [upd_ne (ne_of_none e n)]; exact a.dom x u e, same_mut a.sub f, a.new⟩
theorem GrZ.ice (g : GrZ Z F H F1 H1) (n : H p = none) (e : H1 p = some o) (f : F1 p = none) : GrZ Z F H (upd F1 p o) H1 :=
  ⟨g.ex.trans (same_new f), g.keep, g.dom, same_in g.sub e, fun a u q => (upd_ne (ne_of_none q n)).trans (g.new a u q)⟩
end

/-! ### what a value stands for -/
/-- all that stood stands, but that dicts may be locked and unlocked -/
def Le (F F' : Hp) : Prop := forall a o, F a = some o -> F' a = some o ∨ (exists ob kvs, o = .dK kvs ∧ F' a = some (.frz ob (.dK kvs))) ∨ exists ob kvs, o = .frz ob (.dK kvs) ∧ F' a = some (.dK kvs)
theorem Le.of {F F' : Hp} (s : Same F F') : Le F F' := fun a o e => .inl (s a o e)
theorem Le.at_ {F F' : Hp} {a : Addr} {o : HO} (l : Le F F') (h : F a = some o) (n1 : forall kvs, o ≠ .dK kvs) (n2 : forall ob kvs, o ≠ .frz ob (.dK kvs)) : F' a = some o := by
  rcases l a o h with h | ⟨ob, kvs, e, _⟩ | ⟨ob, kvs, e, _⟩
  · exact h
  · exact (n1 _ e).elim
  · exact (n2 _ _ e).elim
theorem Le.lst {F F' : Hp} {a : Addr} {xs : List V} (l : Le F F') (h : F a = some (.lst xs)) : F' a = some (.lst xs) := l.at_ h (fun _ z => nomatch z) (fun _ _ z => nomatch z)
theorem Le.tup {F F' : Hp} {a : Addr} {xs : List V} (l : Le F F') (h : F a = some (.tup xs)) : F' a = some (.tup xs) := l.at_ h (fun _ z => nomatch z) (fun _ _ z => nomatch z)
theorem Le.ext {F F' : Hp} {a : Addr} {φ : Heap -> Prop} (l : Le F F') (h : F a = some (.ext φ)) : F' a = some (.ext φ) := l.at_ h (fun _ z => nomatch z) (fun _ _ z => nomatch z)
theorem Le.dT {F F' : Hp} {a : Addr} {kvs : List (List Key × V)} (l : Le F F') (h : F a = some (.dT kvs)) : F' a = some (.dT kvs) := l.at_ h (fun _ z => nomatch z) (fun _ _ z => nomatch z)
theorem Le.dK {F F' : Hp} {a : Addr} {kvs : List (Key × V)} (l : Le F F') (h : Rd F a (.dK kvs)) : Rd F' a (.dK kvs) := by
  rcases h with h | ⟨o, h⟩
  · rcases l a _ h with h | ⟨ob, k2, e, h⟩ | ⟨ob, k2, e, h⟩
    · exact .inl h
    · cases e; exact .inr ⟨_, h⟩
    · cases e
  · rcases l a _ h with h | ⟨ob, k2, e, h⟩ | ⟨ob, k2, e, h⟩
    · exact .inr ⟨_, h⟩
    · cases e
    · cases e; exact .inl h
theorem Le.sqL {K : Fg} {F F' : Hp} {a : Addr} {xs : List V} (l : Le F F') (h : SqL K F a xs) : SqL K F' a xs := by
  rcases h with (h | ⟨o, h⟩) | h
  · exact .inl (.inl (l.lst h))
  · exact .inl (.inr ⟨o, l.at_ h (fun _ z => nomatch z) (fun _ _ z => nomatch z)⟩)
  · exact .inr h
theorem Le.lock {F : Hp} {a : Addr} {ob : Obj} {kvs : List (Key × V)} (h : F a = some (.dK kvs)) : Le F (upd F a (.frz ob (.dK kvs))) := fun b o e => by
  by_cases q : b = a
  · subst q; rw [h] at e; cases e; exact .inr (.inl ⟨ob, kvs, rfl, upd_same⟩)
  · exact .inl (by rw [upd_ne q]; exact e)
theorem Le.unlock {F : Hp} {a : Addr} {ob : Obj} {kvs : List (Key × V)} (h : F a = some (.frz ob (.dK kvs))) : Le F (upd F a (.dK kvs)) := fun b o e => by
  by_cases q : b = a
  · subst q; rw [h] at e; cases e; exact .inr (.inr ⟨ob, kvs, rfl, upd_same⟩)
  · exact .inl (by rw [upd_ne q]; exact e)
class Rep (α : Type) where
  rp : Fg -> Hp -> α -> V -> Prop
  mono : forall {K : Fg} {F F' : Hp} {x : α} {v : V}, Le F F' -> rp K F x v -> rp K F' x v
open Rep (rp)
theorem up [Rep α] {K : Fg} {F F' : Hp} {x : α} {v : V} (s : Same F F') (h : rp K F x v) : rp K F' x v := Rep.mono (Le.of s) h
/-- nothing of it stands in the heap -/
class Flat (α : Type) [Rep α] where
  val : α -> V
  is : forall {K : Fg} {F : Hp} {x : α} {v : V}, rp K F x v -> v = val x
  of : forall {K : Fg} {F : Hp} (x : α), rp K F x (val x)
instance : Rep Int := ⟨fun _ _ x v => v = .int x, fun _ h => h⟩
instance : Rep Bool := ⟨fun _ _ x v => v = .bl x, fun _ h => h⟩
instance : Rep PySem.Str := ⟨fun _ _ x v => v = .str x, fun _ h => h⟩
instance : Rep Unit := ⟨fun _ _ _ v => v = .non, fun _ h => h⟩
instance : Rep V := ⟨fun _ _ x v => v = x, fun _ h => h⟩
instance : Flat Int := ⟨fun x => .int x, fun h => h, fun _ => rfl⟩
instance : Flat Bool := ⟨fun x => .bl x, fun h => h, fun _ => rfl⟩
instance : Flat PySem.Str := ⟨fun x => .str x, fun h => h, fun _ => rfl⟩
instance : Flat Unit := ⟨fun _ => .non, fun h => h, fun _ => rfl⟩
instance : Flat V := ⟨fun x => x, fun h => h, fun _ => rfl⟩
theorem Flat.any [Rep α] [Flat α] {K : Fg} {F F' : Hp} {x : α} {v : V} (h : rp K F x v) : rp K F' x v := by
  rw [Flat.is h]; exact Flat.of x
/-- None or a thing (that is never None) -/
instance [Rep α] : Rep (Option α) := ⟨fun K F x v => match x with | none => v = .non | some y => rp K F y v, fun {K F F' x v} s h => by
  cases x with
  | none => exact h
  | some y => exact Rep.mono (x := y) s h⟩
instance [Rep α] [Flat α] : Flat (Option α) := ⟨fun x => match x with | none => .non | some y => Flat.val y, fun {K F x v} h => by
  cases x with
  | none => exact h
  | some y => exact Flat.is (K := K) (F := F) (x := y) h, fun {K F} x => by
  cases x with
  | none => exact (rfl : V.non = V.non)
  | some y => exact Flat.of (K := K) (F := F) y⟩
abbrev Rps [Rep α] (K : Fg) (F : Hp) (xs : List α) (vs : List V) : Prop := Paired (rp K F) xs vs
theorem rps_le [Rep α] {K : Fg} {F F' : Hp} {xs : List α} {vs : List V} (s : Le F F') (h : Rps K F xs vs) : Rps K F' xs vs := Paired.mono (fun _ _ r => Rep.mono s r) h
theorem rps_mono [Rep α] {K : Fg} {F F' : Hp} {xs : List α} {vs : List V} (s : Same F F') (h : Rps K F xs vs) : Rps K F' xs vs := rps_le (Le.of s) h
theorem rps_flat [Rep α] [Flat α] {K : Fg} {F : Hp} : forall {xs : List α} {vs : List V}, Rps K F xs vs -> vs = xs.map Flat.val
  | _, _, .nil => rfl
  | _, _, .cons r t => by rw [Flat.is r, rps_flat t]; rfl
theorem rps_of [Rep α] [Flat α] {K : Fg} {F : Hp} : forall (xs : List α), Rps K F xs (xs.map Flat.val)
  | [] => .nil
  | x :: r => .cons (Flat.of x) (rps_of r)
theorem rps_app [Rep α] {K : Fg} {F : Hp} : forall {xs ys : List α} {vs ws : List V}, Rps K F xs vs -> Rps K F ys ws -> Rps K F (xs ++ ys) (vs ++ ws)
  | _, _, _, _, .nil, s => s
  | _, _, _, _, .cons r t, s => .cons r (rps_app t s)
theorem same_sqT {K : Fg} {H H' : Hp} {a : Addr} {xs : List V} (e : Same H H') (h : SqT K H a xs) : SqT K H' a xs := by
  rcases h with (h | ⟨o, h⟩) | h
  · exact .inl (.inl (e _ _ h))
  · exact .inl (.inr ⟨o, e _ _ h⟩)
  · exact .inr h
theorem same_rd {H H' : Hp} {a : Addr} {u : HO} (e : Same H H') (h : Rd H a u) : Rd H' a u := by
  rcases h with h | ⟨o, h⟩
  · exact .inl (e _ _ h)
  · exact .inr ⟨o, e _ _ h⟩
/-- a list -/
instance [Rep α] : Rep (List α) := ⟨fun K F xs v => exists a vs, v = .ref a ∧ F a = some (.lst vs) ∧ Rps K F xs vs, fun s ⟨a, vs, e, q, r⟩ => ⟨a, vs, e, s.lst q, rps_le s r⟩⟩
/-- the law's script -/
structure Scr where
  l : List Int
instance : Rep Scr := ⟨fun K F x v => exists a, v = .ref a ∧ SqL K F a (x.l.map V.int), fun s ⟨a, e, q⟩ => ⟨a, e, s.sqL q⟩⟩
/-- the items of a tuple: α × β × γ is a triple -/
class RepT (α : Type) where
  rt : Fg -> Hp -> α -> List V -> Prop
  mono : forall {K : Fg} {F F' : Hp} {x : α} {vs : List V}, Le F F' -> rt K F x vs -> rt K F' x vs
instance (priority := low) [Rep α] : RepT α := ⟨fun K F x vs => exists v, vs = [v] ∧ rp K F x v, fun s ⟨v, e, r⟩ => ⟨v, e, Rep.mono s r⟩⟩
instance (priority := high) [Rep α] [RepT β] : RepT (α × β) := ⟨fun K F x vs => exists v r, vs = v :: r ∧ rp K F x.1 v ∧ RepT.rt K F x.2 r, fun s ⟨v, r, e, h, t⟩ => ⟨v, r, e, Rep.mono s h, RepT.mono s t⟩⟩
instance [Rep α] [RepT β] : Rep (α × β) := ⟨fun K F x v => exists a vs, v = .ref a ∧ F a = some (.tup vs) ∧ RepT.rt K F x vs, fun s ⟨a, vs, e, q, r⟩ => ⟨a, vs, e, s.tup q, RepT.mono s r⟩⟩
/-- a pair (of zip, enumerate, items), whatever its items are -/
structure Pr (α β : Type) where
  fst : α
  snd : β
instance [Inhabited α] [Inhabited β] : Inhabited (Pr α β) := ⟨⟨default, default⟩⟩
instance [Rep α] [Rep β] : Rep (Pr α β) := ⟨fun K F x v => exists a v1 v2, v = .ref a ∧ F a = some (.tup [v1, v2]) ∧ rp K F x.fst v1 ∧ rp K F x.snd v2, fun s ⟨a, v1, v2, e, q, r1, r2⟩ => ⟨a, v1, v2, e, s.tup q, Rep.mono s r1, Rep.mono s r2⟩⟩
/-- a tuple of any length of things of one kind -/
structure Tup (α : Type) where
  l : List α
instance [Rep α] : Rep (Tup α) := ⟨fun K F xs v => exists a vs, v = .ref a ∧ F a = some (.tup vs) ∧ Rps K F xs.l vs, fun s ⟨a, vs, e, q, r⟩ => ⟨a, vs, e, s.tup q, rps_le s r⟩⟩

/-! ### lists of our own that may change still -/
structure MutL [Rep α] (K : Fg) (F H : Hp) (p : Addr) (xs : List α) : Prop where
  fr : F p = none
  at_ : exists vs, H p = some (.lst vs) ∧ Rps K F xs vs
section
variable [Rep α] {K : Fg} {F H F1 H1 : Hp} {p q : Addr} {xs : List α} {x : α} {v : V} {o : HO}
theorem MutL.go (m : MutL K F H p xs) (g : Gr F H F1 H1) : MutL K F1 H1 p xs := by
  obtain ⟨f, vs, e, r⟩ := m
  exact ⟨(g.new p _ e).trans f, vs, g.keep p _ e, rps_mono g.ex r⟩
theorem MutL.grow (m : MutL K F H p xs) (g : Same H H1) : MutL K F H1 p xs := by
  obtain ⟨f, vs, e, r⟩ := m
  exact ⟨f, vs, g p _ e, r⟩
theorem MutL.past (m : MutL K F H p xs) (n : p ≠ q) : MutL K F (upd H q o) p xs := by
  obtain ⟨f, vs, e, r⟩ := m
  exact ⟨f, vs, by rw [upd_ne n]; exact e, r⟩
theorem MutL.ne (m : MutL K F H p xs) (h : H q = none) : p ≠ q := by
  obtain ⟨f, vs, e, r⟩ := m
  exact ne_of_none e h
/-- read as it stands -/
theorem MutL.rd (m : MutL K F H p xs) (s : Same F H) : rp K H xs (.ref p) := by
  obtain ⟨f, vs, e, r⟩ := m
  exact ⟨p, vs, rfl, e, rps_mono s r⟩
/-- frozen for good -/
theorem MutL.ice (m : MutL K F H p xs) : exists vs, H p = some (.lst vs) ∧ rp K (upd F p (.lst vs)) xs (.ref p) := by
  obtain ⟨f, vs, e, r⟩ := m
  exact ⟨vs, e, p, vs, rfl, upd_same, rps_mono (same_new f) r⟩
end

/-! ### what a reading gives -/
def Tv [Rep α] (K : Fg) (te : TE) (σ : St) (F H : Hp) (x : α) : Prop :=
  forall F1 H1, Gr F H F1 H1 -> forall Q : VK, (forall F2 H2 v, Gr F1 H1 F2 H2 -> rp K F2 x v -> Q v H2) -> te σ H1 Q
def Tt (tt : TT) (σ : St) (H : Hp) (b : Bool) : Prop :=
  forall H1, Same H H1 -> forall Q : Bool -> Hp -> Prop, (forall H2, Same H1 H2 -> Q b H2) -> tt σ H1 Q
def TvA (ta : TA) (σ : St) (F H : Hp) (P : Hp -> List V -> Prop) : Prop :=
  forall F1 H1, Gr F H F1 H1 -> forall Q : List V -> Hp -> Prop, (forall F2 H2 vs, Gr F1 H1 F2 H2 -> P F2 vs -> Q vs H2) -> ta σ H1 Q
/-- a new list, whose items are xs -/
def TvL [Rep α] (K : Fg) (te : TE) (σ : St) (F H : Hp) (xs : List α) : Prop :=
  forall F1 H1, Gr F H F1 H1 -> forall Q : VK, (forall F2 H2 p, Gr F1 H1 F2 H2 -> H1 p = none -> MutL K F2 H2 p xs -> Q (.ref p) H2) -> te σ H1 Q
section
variable {K : Fg} {σ : St} {F H F1 H1 : Hp} {ta tb te : TE} {tt tu : TT} {i : Nat} {v : V}
theorem Tv.mono [Rep α] {x : α} (g : Gr F H F1 H1) (h : Tv K te σ F H x) : Tv K te σ F1 H1 x := fun F2 H2 k => h F2 H2 (g.trans k)
/-- a flat value by the whole heap -/
theorem tv_flat [Rep α] [Flat α] {x : α} (h : Tv K te σ H H x) : Tv K te σ F H x := fun F1 H1 g Q q =>
  h H1 H1 (Gr.whole g.keep) Q fun F2 H2 v g2 r => q F1 H2 v (Gr.up g.sub g2.keep) (Flat.any r)
theorem TvL.tv [Rep α] {xs : List α} (h : TvL K te σ F H xs) : Tv K te σ F H xs := fun F1 H1 g Q q =>
  h F1 H1 g Q fun F2 H2 p g2 n m => by
    obtain ⟨vs, e, r⟩ := m.ice
    exact q _ H2 _ (g2.ice n e m.fr) r
theorem tv_var [Rep α] {x : α} (e : σ[i]? = some (some v)) (h : rp K F x v) : Tv K (tVar i) σ F H x := fun F1 H1 g Q q =>
  ⟨v, e, q F1 H1 v (Gr.refl g.sub) (up g.ex h)⟩
theorem tv_c [Rep α] {x : α} (h : forall F, rp K F x v) : Tv K (tC v) σ F H x := fun F1 H1 g Q q => q F1 H1 v (Gr.refl g.sub) (h F1)
theorem tv_int {i : Int} : Tv K (tC (.int i)) σ F H i := tv_c fun _ => rfl
theorem tv_str {s : PySem.Str} : Tv K (tC (.str s)) σ F H s := tv_c fun _ => rfl
theorem tv_bl {b : Bool} : Tv K (tC (.bl b)) σ F H b := tv_c fun _ => rfl
theorem tv_non : Tv K (tC .non) σ F H () := tv_c fun _ => rfl
theorem tv_noneO [Rep α] : Tv K (tC .non) σ F H (none : Option α) := tv_c fun _ => rfl
theorem tv_some [Rep α] {x : α} (h : Tv K te σ F H x) : Tv K te σ F H (some x) := fun F1 H1 g Q q => h F1 H1 g Q fun F2 H2 v g2 r => q F2 H2 v g2 r
theorem Tv.is [Rep α] {x y : α} (h : Tv K te σ F H x) (e : x = y) : Tv K te σ F H y := e ▸ h
/-- two in a row -/
theorem tv_bin [Rep α] [Rep β] {x : α} {y : β} (ha : Tv K ta σ F H x) (hb : Tv K tb σ F H y) {R : V -> V -> Hp -> Prop} (g : Gr F H F1 H1)
    (k : forall F2 H2 v w, Gr F1 H1 F2 H2 -> rp K F2 x v -> rp K F2 y w -> R v w H2) : ta σ H1 fun v H2 => tb σ H2 fun w H3 => R v w H3 :=
  ha F1 H1 g _ fun F2 H2 v g2 r => hb F2 H2 (g.trans g2) _ fun F3 H3 w g3 r' => k F3 H3 v w (g2.trans g3) (up g3.ex r) r'
/-- an operator by values -/
def Op2 [Rep α] [Rep β] [Rep γ] (K : Fg) (r : R2) (x : α) (y : β) (z : γ) : Prop :=
  forall F H v w, Same F H -> rp K F x v -> rp K F y w -> forall Q : VK, (forall F2 H2 u, Gr F H F2 H2 -> rp K F2 z u -> Q u H2) -> r v w H Q
theorem tv_op [Rep α] [Rep β] [Rep γ] {x : α} {y : β} {z : γ} {r : R2} (ha : Tv K ta σ F H x) (hb : Tv K tb σ F H y) (ho : Op2 K r x y z) : Tv K (tOp r ta tb) σ F H z := fun F1 H1 g Q q =>
  tv_bin (R := fun v w H => r v w H Q) ha hb g fun F2 H2 v w g2 r1 r2 => ho F2 H2 v w g2.sub r1 r2 Q fun F3 H3 u g3 ru => q F3 H3 u (g2.trans g3) ru
theorem op2_I0 {f : Int -> Int -> V} [Rep γ] {i j : Int} {z : γ} (h : forall F, rp K F z (f i j)) : Op2 K (rI0 f) i j z := fun F H v w s r1 r2 Q q =>
  ⟨i, j, r1, r2, q F H _ (Gr.refl s) (h F)⟩
theorem op2_I {C : Int -> Int -> Prop} {f : Int -> Int -> V} [Rep γ] {i j : Int} {z : γ} (c : C i j) (h : forall F, rp K F z (f i j)) : Op2 K (rI C f) i j z := fun F H v w s r1 r2 Q q =>
  ⟨i, j, r1, r2, c, q F H _ (Gr.refl s) (h F)⟩
theorem op2_add {i j : Int} : Op2 K (rI0 fun i j => .int (i + j)) i j (i + j) := op2_I0 fun _ => rfl
theorem op2_sub {i j : Int} : Op2 K (rI0 fun i j => .int (i - j)) i j (i - j) := op2_I0 fun _ => rfl
theorem op2_mul {i j : Int} (c : CMul i j) : Op2 K (rI CMul fun i j => .int (i * j)) i j (i * j) := op2_I c fun _ => rfl
theorem op2_div {i j : Int} (c : CDiv i j) : Op2 K (rI CDiv fun i j => .int (i / j)) i j (i / j) := op2_I c fun _ => rfl
theorem op2_mod {i j : Int} (c : 0 < j) : Op2 K (rI (fun _ j => 0 < j) fun i j => .int (i % j)) i j (i % j) := op2_I c fun _ => rfl
theorem op2_lt {i j : Int} : Op2 K (rI0 fun i j => .bl (decide (i < j))) i j (decide (i < j)) := op2_I0 fun _ => rfl
theorem op2_le {i j : Int} : Op2 K (rI0 fun i j => .bl (decide (i ≤ j))) i j (decide (i ≤ j)) := op2_I0 fun _ => rfl
theorem op2_gt {i j : Int} : Op2 K (rI0 fun i j => .bl (decide (j < i))) i j (decide (j < i)) := op2_I0 fun _ => rfl
theorem op2_ge {i j : Int} : Op2 K (rI0 fun i j => .bl (decide (j ≤ i))) i j (decide (j ≤ i)) := op2_I0 fun _ => rfl
theorem op2_shr {i j : Int} (c : 0 ≤ j) : Op2 K (rI (fun _ j => 0 ≤ j) fun i j => .int (i / 2 ^ j.toNat)) i j (i / 2 ^ j.toNat) := op2_I c fun _ => rfl
theorem op2_shl {i j : Int} (c : CPow i j) : Op2 K (rI CPow fun i j => .int (i * 2 ^ j.toNat)) i j (i * 2 ^ j.toNat) := op2_I c fun _ => rfl
theorem op2_pow {i j : Int} (c : CPow i j) : Op2 K (rI CPow fun i j => .int (i ^ j.toNat)) i j (i ^ j.toNat) := op2_I c fun _ => rfl
theorem op2_band {i j : Int} : Op2 K (rI0 fun i j => .int (Builtin.bitAnd i j)) i j (Builtin.bitAnd i j) := op2_I0 fun _ => rfl
theorem op2_bor {i j : Int} : Op2 K (rI0 fun i j => .int (Builtin.bitOr i j)) i j (Builtin.bitOr i j) := op2_I0 fun _ => rfl
theorem op2_eqI {i j : Int} : Op2 K rEq i j (decide (i = j)) := fun F H v w s r1 r2 Q q => by
  cases r1; cases r2
  exact ⟨rfl, q F H _ (Gr.refl s) (by show V.bl _ = V.bl _; congr 1; exact decide_eq_decide.mpr ⟨fun h => V.int.inj h, fun h => by rw [h]⟩)⟩
theorem op2_neI {i j : Int} : Op2 K rNe i j (!decide (i = j)) := fun F H v w s r1 r2 Q q => by
  cases r1; cases r2
  exact ⟨rfl, q F H _ (Gr.refl s) (by show V.bl _ = V.bl _; congr 2; exact decide_eq_decide.mpr ⟨fun h => V.int.inj h, fun h => by rw [h]⟩)⟩
theorem op2_eqB {i j : Bool} : Op2 K rEq i j (decide (i = j)) := fun F H v w s r1 r2 Q q => by
  cases r1; cases r2
  exact ⟨rfl, q F H _ (Gr.refl s) (by show V.bl _ = V.bl _; congr 1; exact decide_eq_decide.mpr ⟨fun h => V.bl.inj h, fun h => by rw [h]⟩)⟩
theorem op2_neB {i j : Bool} : Op2 K rNe i j (!decide (i = j)) := fun F H v w s r1 r2 Q q => by
  cases r1; cases r2
  exact ⟨rfl, q F H _ (Gr.refl s) (by show V.bl _ = V.bl _; congr 2; exact decide_eq_decide.mpr ⟨fun h => V.bl.inj h, fun h => by rw [h]⟩)⟩
theorem op2_eqS {i j : PySem.Str} : Op2 K rEq i j (decide (i = j)) := fun F H v w s r1 r2 Q q => by
  cases r1; cases r2
  exact ⟨rfl, q F H _ (Gr.refl s) (by show V.bl _ = V.bl _; congr 1; exact decide_eq_decide.mpr ⟨fun h => V.str.inj h, fun h => by rw [h]⟩)⟩
theorem op2_neS {i j : PySem.Str} : Op2 K rNe i j (!decide (i = j)) := fun F H v w s r1 r2 Q q => by
  cases r1; cases r2
  exact ⟨rfl, q F H _ (Gr.refl s) (by show V.bl _ = V.bl _; congr 2; exact decide_eq_decide.mpr ⟨fun h => V.str.inj h, fun h => by rw [h]⟩)⟩
/-- tests -/
theorem tt_test {b : Bool} (h : Tv K te σ H H b) : Tt (tTest te) σ H b := fun H1 e Q q => h H1 H1 (Gr.whole e) _ fun F2 H2 v g r => ⟨b, r, q H2 g.keep⟩
theorem tt_B {b : Bool} (h : Tv K te σ H H b) : Tt (tB te) σ H b := fun H1 e Q q => h H1 H1 (Gr.whole e) _ fun F2 H2 v g r => ⟨b, r, q H2 g.keep⟩
theorem tt_and {a b : Bool} (h1 : Tt tt σ H a) (h2 : a = true -> Tt tu σ H b) : Tt (tAnd tt tu) σ H (a && b) := fun H1 e Q q => h1 H1 e _ fun H2 e2 => by
  cases a with
  | true => exact h2 rfl H2 (e.trans e2) Q fun H3 e3 => q H3 (e2.trans e3)
  | false => exact q H2 e2
theorem tt_or {a b : Bool} (h1 : Tt tt σ H a) (h2 : a = false -> Tt tu σ H b) : Tt (tOr tt tu) σ H (a || b) := fun H1 e Q q => h1 H1 e _ fun H2 e2 => by
  cases a with
  | true => exact q H2 e2
  | false => exact h2 rfl H2 (e.trans e2) Q fun H3 e3 => q H3 (e2.trans e3)
theorem tt_not {a : Bool} (h1 : Tt tt σ H a) : Tt (tNot tt) σ H (!a) := fun H1 e Q q => h1 H1 e _ fun H2 e2 => q H2 e2
theorem Tt.is {a b : Bool} (h : Tt tt σ H a) (e : a = b) : Tt tt σ H b := e ▸ h
theorem tv_and {a b : Bool} (h1 : Tv K ta σ H H a) (h2 : a = true -> Tv K tb σ H H b) : Tv K (tAndV ta tb) σ H H (a && b) := fun F1 H1 g Q q => h1 F1 H1 g _ fun F2 H2 v g2 r => ⟨a, r, by
  cases a with
  | true => exact h2 rfl F2 H2 (g.trans g2) Q fun F3 H3 w g3 r3 => q F3 H3 w (g2.trans g3) r3
  | false => exact q F2 H2 _ g2 rfl⟩
theorem tv_or {a b : Bool} (h1 : Tv K ta σ H H a) (h2 : a = false -> Tv K tb σ H H b) : Tv K (tOrV ta tb) σ H H (a || b) := fun F1 H1 g Q q => h1 F1 H1 g _ fun F2 H2 v g2 r => ⟨a, r, by
  cases a with
  | true => exact q F2 H2 _ g2 rfl
  | false => exact h2 rfl F2 H2 (g.trans g2) Q fun F3 H3 w g3 r3 => q F3 H3 w (g2.trans g3) r3⟩
theorem tv_not {a : Bool} (h1 : Tv K ta σ H H a) : Tv K (tNotV ta) σ H H (!a) := fun F1 H1 g Q q => h1 F1 H1 g _ fun F2 H2 v g2 r => ⟨a, r, q F2 H2 _ g2 rfl⟩
/-- a if c else b -/
theorem tv_if [Rep α] {c : Bool} {x y : α} (hc : Tt tt σ H c) (h1 : c = true -> Tv K ta σ F H x) (h2 : c = false -> Tv K tb σ F H y) : Tv K (tIf tt ta tb) σ F H (cond c x y) := fun F1 H1 g Q q => hc H1 g.keep _ fun H2 e2 => by
  cases c with
  | true => exact h1 rfl F1 H2 (g.trans (Gr.up g.sub e2)) Q fun F3 H3 w g3 r3 => q F3 H3 w ((Gr.up g.sub e2).trans g3) r3
  | false => exact h2 rfl F1 H2 (g.trans (Gr.up g.sub e2)) Q fun F3 H3 w g3 r3 => q F3 H3 w ((Gr.up g.sub e2).trans g3) r3
/-! ### arguments, displays, calls -/
theorem ta_nil : TvA tNil σ F H (fun _ vs => vs = []) := fun F1 H1 g Q q => q F1 H1 [] (Gr.refl g.sub) rfl
theorem ta_cons [Rep α] {x : α} {tr : TA} {P : Hp -> List V -> Prop} (h : Tv K te σ F H x) (hr : TvA tr σ F H P) : TvA (tCons te tr) σ F H (fun F vs => exists v r, vs = v :: r ∧ rp K F x v ∧ P F r) := fun F1 H1 g Q q =>
  h F1 H1 g _ fun F2 H2 v g2 r => hr F2 H2 (g.trans g2) _ fun F3 H3 vs g3 p => q F3 H3 (v :: vs) (g2.trans g3) ⟨v, vs, rfl, up g3.ex r, p⟩
/-- things of one kind -/
theorem ta_rnil [Rep α] : TvA tNil σ F H (fun F vs => Rps K F ([] : List α) vs) := fun F1 H1 g Q q => q F1 H1 [] (Gr.refl g.sub) .nil
theorem ta_rcons [Rep α] {x : α} {xs : List α} {tr : TA} (h : Tv K te σ F H x) (hr : TvA tr σ F H (fun F vs => Rps K F xs vs)) : TvA (tCons te tr) σ F H (fun F vs => Rps K F (x :: xs) vs) := fun F1 H1 g Q q =>
  h F1 H1 g _ fun F2 H2 v g2 r => hr F2 H2 (g.trans g2) _ fun F3 H3 vs g3 p => q F3 H3 (v :: vs) (g2.trans g3) (.cons (up g3.ex r) p)
/-- a tuple's items -/
theorem ta_t1 [Rep α] {x : α} (h : Tv K te σ F H x) : TvA (tCons te tNil) σ F H (fun F vs => exists v, vs = [v] ∧ rp K F x v) := fun F1 H1 g Q q =>
  h F1 H1 g _ fun F2 H2 v g2 r => q F2 H2 [v] g2 ⟨v, rfl, r⟩
theorem ta_tc [Rep α] [RepT β] {x : α} {y : β} {tr : TA} (h : Tv K te σ F H x) (hr : TvA tr σ F H (fun F vs => RepT.rt K F y vs)) : TvA (tCons te tr) σ F H (fun F vs => RepT.rt K F (x, y) vs) := fun F1 H1 g Q q =>
  h F1 H1 g _ fun F2 H2 v g2 r => hr F2 H2 (g.trans g2) _ fun F3 H3 vs g3 p => q F3 H3 (v :: vs) (g2.trans g3) ⟨v, vs, rfl, up g3.ex r, p⟩
theorem ta_tl [Rep α] {x : α} (h : Tv K te σ F H x) : TvA (tCons te tNil) σ F H (fun F vs => exists v, vs = [v] ∧ rp K F x v) := ta_t1 h
theorem sz {n : Nat} (h : n ≤ 100000) : n ≤ sizeLine := Nat.le_trans h (by decide)
theorem szl {n : Nat} (h : n < 100000) : n < sizeLine := Nat.lt_of_lt_of_le h (by decide)
theorem tl_lst [Rep α] {xs : List α} {t : TA} (h : TvA t σ F H (fun F vs => Rps K F xs vs)) (hl : xs.length ≤ 100000) : TvL K (tLst t) σ F H xs := fun F1 H1 g Q q =>
  h F1 H1 g _ fun F2 H2 vs g2 r => ⟨by rw [← r.length]; exact sz hl, fun p hp =>
    q F2 (upd H2 p (.lst vs)) p (g2.trans (Gr.put g2.sub hp)) (none_of g2.keep hp) ⟨none_of g2.sub hp, vs, upd_same, r⟩⟩
theorem tv_tup [Rep α] [RepT β] {z : α × β} {t : TA} (h : TvA t σ F H (fun F vs => RepT.rt K F z vs)) (hl : forall F vs, RepT.rt K F z vs -> vs.length ≤ 100000) : Tv K (tTup t) σ F H z := fun F1 H1 g Q q =>
  h F1 H1 g _ fun F2 H2 vs g2 r => ⟨sz (hl F2 vs r), fun p hp => q (upd F2 p (.tup vs)) (upd H2 p (.tup vs)) _ (g2.trans (Gr.lay g2.sub hp)) ⟨p, vs, rfl, upd_same, RepT.mono (Le.of <| same_new (none_of g2.sub hp)) r⟩⟩
theorem tv_tupN [Rep α] {xs : List α} {t : TA} (h : TvA t σ F H (fun F vs => Rps K F xs vs)) (hl : xs.length ≤ 100000) : Tv K (tTup t) σ F H (Tup.mk xs) := fun F1 H1 g Q q =>
  h F1 H1 g _ fun F2 H2 vs g2 r => ⟨by rw [← r.length]; exact sz hl, fun p hp => q (upd F2 p (.tup vs)) (upd H2 p (.tup vs)) _ (g2.trans (Gr.lay g2.sub hp)) ⟨p, vs, rfl, upd_same, rps_mono (same_new (none_of g2.sub hp)) r⟩⟩
/-- a promise: of such arguments such a value; a new list -/
def SpV [Rep β] (K : Fg) (sp : Sp) (P : Hp -> List V -> Prop) (y : β) : Prop := forall F H vs Q E, Same F H -> P F vs -> (forall F' H' r, Gr F H F' H' -> rp K F' y r -> Q r H') -> sp vs H Q E
def SpL [Rep β] (K : Fg) (sp : Sp) (P : Hp -> List V -> Prop) (ys : List β) : Prop := forall F H vs Q E, Same F H -> P F vs -> (forall F' H' p, Gr F H F' H' -> H p = none -> MutL K F' H' p ys -> Q (.ref p) H') -> sp vs H Q E
theorem tv_call [Rep β] {y : β} {t : TA} {sp : Sp} {E : XK} {P : Hp -> List V -> Prop} (h : TvA t σ F H P) (hs : SpV K sp P y) : Tv K (tCall sp [] E t) σ F H y := fun F1 H1 g Q q =>
  h F1 H1 g _ fun F2 H2 vs g2 p => hs F2 H2 (vs ++ []) Q E g2.sub (by rw [List.append_nil]; exact p) fun F3 H3 r g3 rr => q F3 H3 r (g2.trans g3) rr
theorem tl_call [Rep β] {ys : List β} {t : TA} {sp : Sp} {E : XK} {P : Hp -> List V -> Prop} (h : TvA t σ F H P) (hs : SpL K sp P ys) : TvL K (tCall sp [] E t) σ F H ys := fun F1 H1 g Q q =>
  h F1 H1 g _ fun F2 H2 vs g2 p => hs F2 H2 (vs ++ []) Q E g2.sub (by rw [List.append_nil]; exact p) fun F3 H3 a g3 n m => q F3 H3 a (g2.trans g3) (none_of g2.keep n) m
/-- a built-in called, by values -/
def CbV [Rep β] (K : Fg) (r : List V -> Hp -> VK -> Prop) (P : Hp -> List V -> Prop) (y : β) : Prop := forall F H vs (Q : VK), Same F H -> P F vs -> (forall F' H' w, Gr F H F' H' -> rp K F' y w -> Q w H') -> r vs H Q
def CbL [Rep β] (K : Fg) (r : List V -> Hp -> VK -> Prop) (P : Hp -> List V -> Prop) (ys : List β) : Prop := forall F H vs (Q : VK), Same F H -> P F vs -> (forall F' H' p, Gr F H F' H' -> H p = none -> MutL K F' H' p ys -> Q (.ref p) H') -> r vs H Q
theorem tv_cb [Rep β] {y : β} {t : TA} {r : List V -> Hp -> VK -> Prop} {P : Hp -> List V -> Prop} (h : TvA t σ F H P) (hs : CbV K r P y) : Tv K (tCB r t) σ F H y := fun F1 H1 g Q q =>
  h F1 H1 g _ fun F2 H2 vs g2 p => hs F2 H2 vs Q g2.sub p fun F3 H3 w g3 rr => q F3 H3 w (g2.trans g3) rr
theorem tl_cb [Rep β] {ys : List β} {t : TA} {r : List V -> Hp -> VK -> Prop} {P : Hp -> List V -> Prop} (h : TvA t σ F H P) (hs : CbL K r P ys) : TvL K (tCB r t) σ F H ys := fun F1 H1 g Q q =>
  h F1 H1 g _ fun F2 H2 vs g2 p => hs F2 H2 vs Q g2.sub p fun F3 H3 a g3 n m => q F3 H3 a (g2.trans g3) (none_of g2.keep n) m
end
end Rf

/-! ### the mirrors' words -/
namespace Rf
open PySem L2
open Rep (rp)
@[irreducible] def lt {α β : Type} (e : α) (k : α -> β) : β := k e
@[irreducible] def lt2 {α β γ : Type} (e : α × β) (k : α -> β -> γ) : γ := k e.1 e.2
@[irreducible] def lt3 {α β γ δ : Type} (e : α × β × γ) (k : α -> β -> γ -> δ) : δ := k e.1 e.2.1 e.2.2
@[irreducible] def lt4 {α β γ δ ε : Type} (e : α × β × γ × δ) (k : α -> β -> γ -> δ -> ε) : ε := k e.1 e.2.1 e.2.2.1 e.2.2.2
@[irreducible] def ltP {α β γ : Type} (e : Pr α β) (k : α -> β -> γ) : γ := k e.1 e.2
theorem ltP_eq {α β γ : Type} (e : Pr α β) (k : α -> β -> γ) : ltP e k = k e.1 e.2 := by unfold ltP; rfl
theorem p_ltP {α β γ : Type} (P : γ -> Prop) {a : α} {b : β} {k : α -> β -> γ} (h : P (ltP ⟨a, b⟩ k)) : P (k a b) := by rw [ltP_eq] at h; exact h
theorem lt_eq {α β : Type} (e : α) (k : α -> β) : lt e k = k e := by unfold lt; rfl
theorem lt2_eq {α β γ : Type} (e : α × β) (k : α -> β -> γ) : lt2 e k = k e.1 e.2 := by unfold lt2; rfl
theorem lt3_eq {α β γ δ : Type} (e : α × β × γ) (k : α -> β -> γ -> δ) : lt3 e k = k e.1 e.2.1 e.2.2 := by unfold lt3; rfl
theorem lt4_eq {α β γ δ ε : Type} (e : α × β × γ × δ) (k : α -> β -> γ -> δ -> ε) : lt4 e k = k e.1 e.2.1 e.2.2.1 e.2.2.2 := by unfold lt4; rfl
theorem p_lt {α β : Type} (P : β -> Prop) {e : α} {k : α -> β} (h : P (lt e k)) : P (k e) := by rw [lt_eq] at h; exact h
theorem p_lt2 {α β γ : Type} (P : γ -> Prop) {a : α} {b : β} {k : α -> β -> γ} (h : P (lt2 (a, b) k)) : P (k a b) := by rw [lt2_eq] at h; exact h
theorem p_lt3 {α β γ δ : Type} (P : δ -> Prop) {a : α} {b : β} {c : γ} {k : α -> β -> γ -> δ} (h : P (lt3 (a, b, c) k)) : P (k a b c) := by rw [lt3_eq] at h; exact h
theorem p_lt4 {α β γ δ ε : Type} (P : ε -> Prop) {a : α} {b : β} {c : γ} {d : δ} {k : α -> β -> γ -> δ -> ε} (h : P (lt4 (a, b, c, d) k)) : P (k a b c d) := by rw [lt4_eq] at h; exact h
/-- how a block ends: on, out of the loop, out of the def -/
inductive Fl (S R : Type) where
  | nx (s : S) | bk (s : S) | rt (r : R)
def run {α S R : Type} (body : S -> α -> Fl S R) : S -> List α -> Fl S R
  | s, [] => .nx s
  | s, x :: xs => match body s x with
    | .nx s' => run body s' xs
    | .bk s' => .bk s'
    | .rt r => .rt r
@[irreducible] def fin {S R T : Type} (f : Fl S R) (ret : R -> T) (k : S -> T) : T := match f with
  | .nx s => k s
  | .bk s => k s
  | .rt r => ret r
instance {S R : Type} [Inhabited R] : Inhabited (Fl S R) := ⟨.rt default⟩
theorem fin_nx {S R T : Type} (s : S) (ret : R -> T) (k : S -> T) : fin (Fl.nx s) ret k = k s := by unfold fin; rfl
theorem fin_bk {S R T : Type} (s : S) (ret : R -> T) (k : S -> T) : fin (Fl.bk s) ret k = k s := by unfold fin; rfl
theorem fin_rt {S R T : Type} (r : R) (ret : R -> T) (k : S -> T) : fin (Fl.rt r) ret k = ret r := by unfold fin; rfl
section
variable {α S R : Type} {body : S -> α -> Fl S R}
theorem run_snoc : forall (xs : List α) (s : S) (x : α), run body s (xs ++ [x]) = match run body s xs with
    | .nx s' => body s' x
    | .bk s' => .bk s'
    | .rt r => .rt r
  | [], s, x => by
    show run body s [x] = body s x
    simp only [run]
    cases body s x <;> rfl
  | y :: ys, s, x => by
    simp only [List.cons_append, run]
    cases body s y with
    | nx s' => exact run_snoc ys s' x
    | bk s' => rfl
    | rt r => rfl
theorem run_app : forall (xs ys : List α) (s : S), run body s (xs ++ ys) = match run body s xs with
    | .nx s' => run body s' ys
    | .bk s' => .bk s'
    | .rt r => .rt r
  | [], ys, s => rfl
  | y :: r, ys, s => by
    simp only [List.cons_append, run]
    cases body s y with
    | nx s' => exact run_app r ys s'
    | bk s' => rfl
    | rt r => rfl
theorem take_snoc {i : Nat} {x : α} : forall {l : List α}, l[i]? = some x -> l.take (i + 1) = l.take i ++ [x] := fun {l} h => by
  obtain ⟨hi, rfl⟩ := List.getElem?_eq_some_iff.mp h
  exact (List.take_append_getElem hi).symm
theorem run_out {xs : List α} {i : Nat} {x : α} {s0 s : S} {o : Fl S R} (hi : xs[i]? = some x) (hr : run body s0 (xs.take i) = .nx s) (ho : body s x = o) (hn : forall s', o ≠ .nx s') : run body s0 xs = o := by
  have e : xs = xs.take (i + 1) ++ xs.drop (i + 1) := (List.take_append_drop _ _).symm
  rw [e, run_app, take_snoc hi, run_snoc, hr]
  show (match body s x with | .nx s' => run body s' _ | .bk s' => .bk s' | .rt r => .rt r) = o
  rw [ho]
  cases o with
  | nx s' => exact (hn s' rfl).elim
  | bk s' => rfl
  | rt r => rfl
end
/-! ### what is wanted at the end of a def -/
def Ret [Rep β] (K : Fg) (Z : Addr -> Prop) (F0 H0 : Hp) (Q : VK) (y : β) : Prop := forall F' H' r, GrZ Z F0 H0 F' H' -> rp K F' y r -> Q r H'
def RetL [Rep β] (K : Fg) (Z : Addr -> Prop) (F0 H0 : Hp) (Q : VK) (ys : List β) : Prop := forall F' H' p, GrZ Z F0 H0 F' H' -> H0 p = none -> MutL K F' H' p ys -> Q (.ref p) H'
/-! ### statements -/
section
variable {K : Fg} {Z : Addr -> Prop} {σ : St} {F H F0 H0 : Hp} {te ta tb : TE} {tt : TT} {t1 t2 u : TS} {D : Ends} {i : Nat}
theorem q_set [Rep α] {β : Type} {e : α} {k : α -> β} {P : β -> Prop} (hP : P (lt e k)) (s : Same F H) (he : Tv K te σ F H e) (nxt : forall x F1 H1 v, x = e -> Gr F H F1 H1 -> rp K F1 x v -> P (k x) -> u D (σ.set i (some v)) H1) : tSeq (tAsg te (gName i)) u D σ H :=
  he F H (Gr.refl s) _ fun F2 H2 v g r => nxt e F2 H2 v rfl g r (p_lt P hP)
theorem q_setF [Rep α] [Flat α] {β : Type} {e : α} {k : α -> β} {P : β -> Prop} (hP : P (lt e k)) (he : Tv K te σ H H e) (nxt : forall x H1, x = e -> Same H H1 -> P (k x) -> u D (σ.set i (some (Flat.val x))) H1) : tSeq (tAsg te (gName i)) u D σ H :=
  he H H (Gr.self H) _ fun F2 H2 v g r => by
    rw [Flat.is r]
    exact nxt e H2 rfl g.keep (p_lt P hP)
theorem q_setM [Rep α] {β : Type} {e : List α} {k : List α -> β} {P : β -> Prop} (hP : P (lt e k)) (s : Same F H) (he : TvL K te σ F H e) (nxt : forall x F1 H1 p, x = e -> Gr F H F1 H1 -> H p = none -> MutL K F1 H1 p x -> P (k x) -> u D (σ.set i (some (.ref p))) H1) : tSeq (tAsg te (gName i)) u D σ H :=
  he F H (Gr.refl s) _ fun F2 H2 p g n m => nxt e F2 H2 p rfl g n m (p_lt P hP)
theorem q_ret [Rep β] {e : β} (hP : Ret K Z F0 H0 D.rt e) (g : GrZ Z F0 H0 F H) (he : Tv K te σ F H e) : tSeq (tRet te) u D σ H :=
  he F H (Gr.refl g.sub) _ fun F2 H2 v g2 r => hP F2 H2 v (g.then g2) r
theorem q_retF [Rep β] [Flat β] {e : β} (hP : Ret K Z F0 H0 D.rt e) (g : GrZ Z F0 H0 F H) (he : Tv K te σ H H e) : tSeq (tRet te) u D σ H := q_ret hP g (tv_flat he)
theorem q_retL [Rep β] {e : List β} (hP : RetL K Z F0 H0 D.rt e) (g : GrZ Z F0 H0 F H) (he : TvL K te σ F H e) : tSeq (tRet te) u D σ H :=
  he F H (Gr.refl g.sub) _ fun F2 H2 p g2 n m => hP F2 H2 p (g.then g2) (by
    cases q : H0 p with
    | none => rfl
    | some o =>
      obtain ⟨o', e'⟩ := g.dom p o q
      rw [n] at e'; cases e') m
theorem q_retM [Rep β] {e : List β} {p : Addr} (hP : RetL K Z F0 H0 D.rt e) (g : GrZ Z F0 H0 F H) (hi : σ[i]? = some (some (.ref p))) (n : H0 p = none) (m : MutL K F H p e) : tSeq (tRet (tVar i)) u D σ H :=
  ⟨.ref p, hi, hP F H p g n m⟩
theorem q_retI [Rep β] {e : List β} {p : Addr} (hP : Ret K Z F0 H0 D.rt e) (g : GrZ Z F0 H0 F H) (hi : σ[i]? = some (some (.ref p))) (n : H0 p = none) (m : MutL K F H p e) : tSeq (tRet (tVar i)) u D σ H := by
  obtain ⟨vs, q, r⟩ := m.ice
  exact ⟨.ref p, hi, hP _ H _ (g.ice n q m.fr) r⟩
theorem q_end (h : D.nx σ H) : tNext D σ H := h
theorem q_endS (h : tSeq t1 t2 D σ H) : tNext { D with nx := tSeq t1 t2 D } σ H := h
theorem q_endC (h : Evl.tCut t1 t2 D σ H) : tNext { D with nx := Evl.tCut t1 t2 D } σ H := h
theorem q_one {t : TS} (h : tSeq t tNext D σ H) : t D σ H := h
theorem q_if {β : Type} {P : β -> Prop} {c : Bool} {A B : β} (hP : P (cond c A B)) (hc : Tt tt σ H c) (h1 : c = true -> forall H1, Same H H1 -> P A -> t1 { D with nx := u D } σ H1) (h2 : c = false -> forall H1, Same H H1 -> P B -> t2 { D with nx := u D } σ H1) : tSeq (tIfS tt t1 t2) u D σ H :=
  hc H (Same.refl H) _ fun H1 e => by
    cases c with
    | true => exact h1 rfl H1 e hP
    | false => exact h2 rfl H1 e hP
theorem q_ifJ {S β : Type} {P : β -> Prop} {c : Bool} {a b : S} {k : S -> β} (hP : P (lt (cond c a b) k)) (hc : Tt tt σ H c) (M : Hp -> Hp -> St -> S -> Prop)
    (h1 : c = true -> forall H1 (N : St -> Hp -> Prop), Same H H1 -> forall P' : S -> Prop, P' a -> (forall s, P' s -> forall F2 H2 σ2, Same F F2 -> M F2 H2 σ2 s -> N σ2 H2) -> t1 { D with nx := N } σ H1)
    (h2 : c = false -> forall H1 (N : St -> Hp -> Prop), Same H H1 -> forall P' : S -> Prop, P' b -> (forall s, P' s -> forall F2 H2 σ2, Same F F2 -> M F2 H2 σ2 s -> N σ2 H2) -> t2 { D with nx := N } σ H1)
    (nxt : forall s F2 H2 σ2, s = cond c a b -> Same F F2 -> M F2 H2 σ2 s -> P (k s) -> u D σ2 H2) : Evl.tCut (tIfS tt t1 t2) u D σ H :=
  ⟨fun σ2 H2 => exists F2, Same F F2 ∧ M F2 H2 σ2 (cond c a b), hc H (Same.refl H) _ fun H1 e => by
    cases c with
    | true => exact h1 rfl H1 _ e (fun s => s = a) rfl fun s hs F2 H2 σ2 q m => ⟨F2, q, by rw [hs] at m; exact m⟩
    | false => exact h2 rfl H1 _ e (fun s => s = b) rfl fun s hs F2 H2 σ2 q m => ⟨F2, q, by rw [hs] at m; exact m⟩,
  fun σ2 H2 ⟨F2, q, m⟩ => nxt _ F2 H2 σ2 rfl q m (p_lt P hP)⟩
/-- an expression whose value is dropped -/
theorem q_drop [Rep α] {e : α} (s : Same F H) (he : Tv K te σ F H e) (nxt : forall F1 H1, Gr F H F1 H1 -> u D σ H1) : tSeq (tDrop te) u D σ H :=
  he F H (Gr.refl s) _ fun F2 H2 v g r => nxt F2 H2 g
/-! ### walks: S is what the thing walked needs besides of the heap -/
structure Wk [Rep α] (K : Fg) (J : L2.It) (F2 : Hp) (S : Hp -> Hp -> Prop) (xs : List α) : Prop where
  go : forall i F H, Same F2 F -> Same F H -> S F H -> i < xs.length -> J.go i H
  stop : forall i F H, Same F2 F -> Same F H -> S F H -> xs.length ≤ i -> J.stop i H
  yld : forall i H F3 v H', Same F2 F3 -> Same F3 H -> S F3 H -> J.yld i H v H' -> i < xs.length -> exists F4, Gr F3 H F4 H' ∧ forall x, xs[i]? = some x -> rp K F4 x v
def Itr [Rep α] (K : Fg) (wi : TI) (σ : St) (F H : Hp) (S : Hp -> Hp -> Prop) (xs : List α) : Prop :=
  forall F1 H1, Gr F H F1 H1 -> forall R : L2.It -> Hp -> Prop, (forall J F2 H2, Gr F1 H1 F2 H2 -> Wk K J F2 S xs -> R J H2) -> wi σ H1 R
/-- S holds on -/
structure Stb (S : Hp -> Hp -> Prop) : Prop where
  go : forall {F H F' H' : Hp}, Gr F H F' H' -> S F H -> S F' H'
abbrev ST : Hp -> Hp -> Prop := fun _ _ => True
theorem stb_t : Stb ST := ⟨fun _ _ => trivial⟩
theorem wk_len [Rep α] {xs : List α} {vs : List V} (r : Rps K F xs vs) : vs.length = xs.length := (Paired.length r).symm
theorem rps_at [Rep α] : forall {xs : List α} {vs : List V} {i : Nat} {x : α}, Rps K F xs vs -> xs[i]? = some x -> exists v, vs[i]? = some v ∧ rp K F x v
  | _, _, 0, x, .cons r _, e => by simp at e; subst e; exact ⟨_, rfl, r⟩
  | _, _, i + 1, x, .cons _ t, e => by
    obtain ⟨v, h1, h2⟩ := rps_at (i := i) (x := x) t (by simpa using e)
    exact ⟨v, by simpa using h1, h2⟩
  | _, _, _, _, .nil, e => by simp at e
theorem rps_at' [Rep α] : forall {xs : List α} {vs : List V} {i : Nat} {v : V}, Rps K F xs vs -> vs[i]? = some v -> exists x, xs[i]? = some x ∧ rp K F x v
  | _, _, 0, v, .cons r _, e => by simp at e; subst e; exact ⟨_, rfl, r⟩
  | _, _, i + 1, v, .cons _ t, e => by
    obtain ⟨x, h1, h2⟩ := rps_at' (i := i) (v := v) t (by simpa using e)
    exact ⟨x, by simpa using h1, h2⟩
  | _, _, _, _, .nil, e => by simp at e
theorem wk_list [Rep α] {a : Addr} {vs : List V} {xs : List α} (q : SqL K F a vs) (r : Rps K F xs vs) : Wk K (Itl K a) F ST xs where
  go := fun i G H s0 s1 _ h => by
    have s := s0.trans s1
    exact ⟨vs, vs[i]'(by rw [wk_len r]; exact h), s.seq q, by simp⟩
  stop := fun i G H s0 s1 _ h => by
    have s := s0.trans s1
    exact ⟨vs, s.seq q, by rw [wk_len r]; exact h⟩
  yld := fun i H F3 v H' s s3 _ y h => by
    obtain ⟨rfl, y⟩ := y
    refine ⟨F3, Gr.refl s3, fun x hx => ?_⟩
    obtain ⟨w, e, rw_⟩ := rps_at r hx
    have e2 := y vs ((s.trans s3).seq q)
    rw [e] at e2; cases e2
    exact up s rw_
theorem wk_tup [Rep α] {a : Addr} {vs : List V} {xs : List α} (q : SqT K F a vs) (r : Rps K F xs vs) : Wk K (Itt K a) F ST xs where
  go := fun i G H s0 s1 _ h => by
    have s := s0.trans s1
    exact ⟨vs, vs[i]'(by rw [wk_len r]; exact h), same_sqT s q, by simp⟩
  stop := fun i G H s0 s1 _ h => by
    have s := s0.trans s1
    exact ⟨vs, same_sqT s q, by rw [wk_len r]; exact h⟩
  yld := fun i H F3 v H' s s3 _ y h => by
    obtain ⟨rfl, y⟩ := y
    refine ⟨F3, Gr.refl s3, fun x hx => ?_⟩
    obtain ⟨w, e, rw_⟩ := rps_at r hx
    have e2 := y vs (same_sqT (s.trans s3) q)
    rw [e] at e2; cases e2
    exact up s rw_
/-- over a list that a reading gives -/
theorem it_list [Rep α] {xs : List α} (h : Tv K te σ F H xs) : Itr K (iList K te) σ F H ST xs := fun F1 H1 g R q =>
  h F1 H1 g _ fun F2 H2 v g2 ⟨a, vs, e, hq, hr⟩ => ⟨a, e, ⟨vs, SqL.of (g2.sub a _ hq)⟩, q _ F2 H2 g2 (wk_list (SqL.of hq) hr)⟩
theorem it_tup [Rep α] {xs : Tup α} (h : Tv K te σ F H xs) : Itr K (iTup K te) σ F H ST xs.l := fun F1 H1 g R q =>
  h F1 H1 g _ fun F2 H2 v g2 ⟨a, vs, e, hq, hr⟩ => ⟨a, e, ⟨vs, SqT.of (g2.sub a _ hq)⟩, q _ F2 H2 g2 (wk_tup (SqT.of hq) hr)⟩
/-- over a list of our own that may change still (not in the loop) -/
theorem wk_mut [Rep α] {a : Addr} {xs : List α} : Wk K (Itl K a) F (fun F H => MutL K F H a xs) xs where
  go := fun i G H s0 s1 m h => by
    obtain ⟨f, vs, e, r⟩ := m
    exact ⟨vs, vs[i]'(by rw [wk_len r]; exact h), SqL.of e, by simp⟩
  stop := fun i G H s0 s1 m h => by
    obtain ⟨f, vs, e, r⟩ := m
    exact ⟨vs, SqL.of e, by rw [wk_len r]; exact h⟩
  yld := fun i H F3 v H' s s3 m y h => by
    obtain ⟨rfl, y⟩ := y
    obtain ⟨f, vs, e, r⟩ := m
    refine ⟨F3, Gr.refl s3, fun x hx => ?_⟩
    obtain ⟨w, e1, rw_⟩ := rps_at r hx
    have e2 := y vs (SqL.of e)
    rw [e1] at e2; cases e2
    exact rw_
theorem it_mut [Rep α] {xs : List α} {p : Addr} (hi : σ[i]? = some (some (.ref p))) (m : MutL K F H p xs) : Itr K (iList K (tVar i)) σ F H (fun F H => MutL K F H p xs) xs := fun F1 H1 g R q => by
  obtain ⟨f, vs, e, r⟩ := id (m.go g)
  exact ⟨.ref p, hi, p, rfl, ⟨vs, SqL.of e⟩, q _ F1 H1 (Gr.refl g.sub) wk_mut⟩
theorem stb_mut [Rep α] {xs : List α} {p : Addr} : Stb (fun F H => MutL K F H p xs) := ⟨fun g m => m.go g⟩
/-- the numbers of a range -/
def rng (lo : Int) (n : Nat) : List Int := (List.range n).map fun (k : Nat) => lo + (k : Int)
theorem rng_len (lo : Int) (n : Nat) : (rng lo n).length = n := by simp [rng]
theorem rng_at {lo : Int} {n i : Nat} {x : Int} (h : (rng lo n)[i]? = some x) : x = lo + (i : Int) ∧ i < n := by
  unfold rng at h
  rw [List.getElem?_map] at h
  cases e : (List.range n)[i]? with
  | none => rw [e] at h; cases h
  | some k =>
    rw [e] at h
    obtain ⟨hi, e2⟩ := List.getElem?_eq_some_iff.mp e
    rw [List.getElem_range] at e2
    subst e2
    rw [List.length_range] at hi
    exact ⟨(Option.some.inj h).symm, hi⟩
theorem wk_range {lo : Int} {n : Nat} : Wk K (L2.Itr lo n) F ST (rng lo n) where
  go := fun i G H s s1 _ h => by rw [rng_len] at h; exact h
  stop := fun i G H s s1 _ h => by rw [rng_len] at h; exact h
  yld := fun i H F3 v H' s s3 _ y h => by
    obtain ⟨rfl, rfl⟩ := y
    exact ⟨F3, Gr.refl s3, fun x hx => by rw [(rng_at hx).1]; rfl⟩
theorem it_range1 {n : Int} (h : Tv K te σ H H n) (lo : -(2 ^ 62) ≤ n) (hi : n < 2 ^ 62) : Itr K (iRng1 (tCons te tNil)) σ F H ST (rng 0 n.toNat) := fun F1 H1 g R q =>
  h H1 H1 (Gr.whole g.keep) _ fun F2 H2 v g2 r => ⟨n, by rw [show v = .int n from r], lo, hi, q _ F1 H2 (Gr.up g.sub g2.keep) wk_range⟩
theorem it_range2 {m n : Int} (h : Tv K ta σ H H m) (h' : Tv K te σ H H n) (lo : -(2 ^ 62) ≤ m) (hi : m < 2 ^ 62) (lo' : -(2 ^ 62) ≤ n) (hi' : n < 2 ^ 62) : Itr K (iRng2 (tCons ta (tCons te tNil))) σ F H ST (rng m (n - m).toNat) := fun F1 H1 g R q =>
  h H1 H1 (Gr.whole g.keep) _ fun F2 H2 v g2 r => h' H2 H2 (Gr.whole (g.keep.trans g2.keep)) _ fun F3 H3 w g3 r' => ⟨m, n, by rw [show v = .int m from r, show w = .int n from r'], ⟨lo, hi, lo', hi'⟩, q _ F1 H3 (Gr.up g.sub (g2.keep.trans g3.keep)) wk_range⟩
/-! ### targets of a loop -/
theorem g_name {v : V} {Q : St -> Hp -> Prop} (h : Q (σ.set i (some v)) H) : gName i v σ H Q := h
theorem g_tup2 [Rep α] [Rep β] {x : α × β} {v : V} {j : Nat} {Q : St -> Hp -> Prop} (s : Same F H) (h : rp K F x v) (k : forall a b, rp K F x.1 a -> rp K F x.2 b -> Q ((σ.set i (some a)).set j (some b)) H) : gTup K 2 (gCons (gName i) (gCons (gName j) gNil)) v σ H Q := by
  obtain ⟨p, vs, rfl, q, a, r, rfl, ra, b, rfl, rb⟩ := h
  exact ⟨p, _, rfl, SqT.of (s p _ q), rfl, a, _, rfl, b, _, rfl, rfl, k a b ra rb⟩
theorem g_tup3 [Rep α] [Rep β] [Rep γ] {x : α × β × γ} {v : V} {j l : Nat} {Q : St -> Hp -> Prop} (s : Same F H) (h : rp K F x v) (k : forall a b c, rp K F x.1 a -> rp K F x.2.1 b -> rp K F x.2.2 c -> Q (((σ.set i (some a)).set j (some b)).set l (some c)) H) : gTup K 3 (gCons (gName i) (gCons (gName j) (gCons (gName l) gNil))) v σ H Q := by
  obtain ⟨p, vs, rfl, q, a, r, rfl, ra, b, r2, rfl, rb, c, rfl, rc⟩ := h
  exact ⟨p, _, rfl, SqT.of (s p _ q), rfl, a, _, rfl, b, _, rfl, c, _, rfl, rfl, k a b c ra rb rc⟩
theorem g_tupP [Rep α] [Rep β] {x : Pr α β} {v : V} {j : Nat} {Q : St -> Hp -> Prop} (s : Same F H) (h : rp K F x v) (k : forall a b, rp K F x.fst a -> rp K F x.snd b -> Q ((σ.set i (some a)).set j (some b)) H) : gTup K 2 (gCons (gName i) (gCons (gName j) gNil)) v σ H Q := by
  obtain ⟨p, a, b, rfl, q, ra, rb⟩ := h
  exact ⟨p, _, rfl, SqT.of (s p _ q), rfl, a, _, rfl, b, _, rfl, rfl, k a b ra rb⟩
/-! ### loops -/
/-- a loop: body tells how a turn ends; I: what holds between the turns, at some earlier heaps -/
theorem q_for {S R T : Type} [Rep α] {xs : List α} {s0 : S} {body : S -> α -> Fl S R} {ret : R -> T} {k : S -> T} {P : T -> Prop} {wi : TI} {g : TG} {t : TS} {S' : Hp -> Hp -> Prop} (I : Nat -> Hp -> Hp -> St -> S -> Prop)
    (hP : P (fin (run body s0 xs) ret k)) (s : Same F H) (hx : Itr K wi σ F H S' xs) (hS : Stb S') (h0 : I 0 F H σ s0) (hI : forall i F1 H1 σ1 s, I i F1 H1 σ1 s -> Same F1 H1 ∧ S' F1 H1)
    (hs : forall (i : Nat) x s Fa Ha F1 H1 σ1 v (N B : St -> Hp -> Prop) (P' : Fl S R -> Prop), xs[i]? = some x -> run body s0 (xs.take i) = .nx s -> Same F Fa -> I i Fa Ha σ1 s -> Gr Fa Ha F1 H1 -> rp K F1 x v -> P' (body s x) ->
      (forall s', P' (.nx s') -> forall F2 H2 σ2, Same F1 F2 -> I (i + 1) F2 H2 σ2 s' -> N σ2 H2) -> (forall s', P' (.bk s') -> forall F2 H2 σ2, Same F1 F2 -> I (i + 1) F2 H2 σ2 s' -> B σ2 H2) -> (forall r, P' (.rt r) -> P (ret r)) ->
      g v σ1 H1 fun σ2 H2 => t { D with nx := N, ct := N, bk := B } σ2 H2)
    (hd : forall (i : Nat) Fa Ha F1 H1 σ1 s, i ≤ xs.length -> (run body s0 xs = .nx s ∧ i = xs.length ∨ run body s0 xs = .bk s) -> Same F Fa -> I i Fa Ha σ1 s -> Gr Fa Ha F1 H1 -> P (k s) -> u D σ1 H1) : tSeq (tFor wi g t) u D σ H :=
  hx F H (Gr.refl s) _ fun J F2 H2 g2 W => by
    refine ⟨fun i m σ' H' => m = xs.length - i ∧ i ≤ xs.length ∧ exists Fa Ha F3 s, run body s0 (xs.take i) = .nx s ∧ Same F Fa ∧ I i Fa Ha σ' s ∧ Gr Fa Ha F3 H' ∧ Same F2 F3, ⟨xs.length, by simp, Nat.zero_le _, F, H, F2, s0, rfl, Same.refl F, h0, g2, Same.refl F2⟩, ?_⟩
    rintro i m σ' H' ⟨rfl, hi, Fa, Ha, F3, st, hr, fa, hI1, gg, f23⟩
    by_cases hlt : i < xs.length
    · refine .inr ⟨W.go i F3 H' f23 gg.sub (hS.go gg (hI _ _ _ _ _ hI1).2) hlt, fun σ4 H4 => exists F4 s4, run body s0 (xs.take (i + 1)) = .nx s4 ∧ Same F F4 ∧ I (i + 1) F4 H4 σ4 s4 ∧ Same F2 F4, fun σ4 H4 ⟨F4, s4, a1, a2, a3, a4⟩ => ⟨xs.length - (i + 1), by omega, rfl, hlt, F4, H4, F4, s4, a1, a2, a3, Gr.refl (hI _ _ _ _ _ a3).1, a4⟩, fun v H4 y => ?_⟩
      obtain ⟨F4, g4, hv⟩ := W.yld i H' F3 v H4 f23 gg.sub (hS.go gg (hI _ _ _ _ _ hI1).2) y hlt
      have hxi : xs[i]? = some (xs[i]'hlt) := by simp
      have h24 : Same F2 F4 := f23.trans g4.ex
      have h04 : Same F F4 := g2.ex.trans h24
      refine hs i (xs[i]'hlt) st Fa Ha F4 H4 σ' v _ _ (fun o => body st (xs[i]'hlt) = o) hxi hr fa hI1 (gg.trans g4) (hv _ hxi) rfl (fun s' hb F5 H5 σ5 f5 i5 => ?_) (fun s' hb F5 H5 σ5 f5 i5 => ?_) (fun r hb => ?_)
      · refine ⟨F5, s', ?_, h04.trans f5, i5, h24.trans f5⟩
        rw [take_snoc hxi, run_snoc, hr]
        exact hb
      · have e := run_out hxi hr hb (fun _ z => nomatch z)
        refine hd (i + 1) F5 H5 F5 H5 σ5 s' hlt (.inr e) (h04.trans f5) i5 (Gr.refl (hI _ _ _ _ _ i5).1) ?_
        rw [e, fin_bk] at hP
        exact hP
      · have e := run_out hxi hr hb (fun _ z => nomatch z)
        rw [e, fin_rt] at hP
        exact hP
    · have e : i = xs.length := by omega
      subst e
      rw [List.take_length] at hr
      rw [hr, fin_nx] at hP
      exact .inl ⟨W.stop _ F3 H' f23 gg.sub (hS.go gg (hI _ _ _ _ _ hI1).2) (Nat.le_refl _), hd _ Fa Ha F3 H' σ' st (Nat.le_refl _) (.inl ⟨hr, rfl⟩) fa hI1 gg hP⟩
/-- a loop whose body neither breaks nor returns -/
theorem q_fold {S T : Type} [Rep α] {xs : List α} {s0 : S} {body : S -> α -> S} {k : S -> T} {P : T -> Prop} {wi : TI} {g : TG} {t : TS} {S' : Hp -> Hp -> Prop} (I : Nat -> Hp -> Hp -> St -> S -> Prop)
    (hP : P (lt (xs.foldl body s0) k)) (s : Same F H) (hx : Itr K wi σ F H S' xs) (hS : Stb S') (h0 : I 0 F H σ s0) (hI : forall i F1 H1 σ1 s, I i F1 H1 σ1 s -> Same F1 H1 ∧ S' F1 H1)
    (hs : forall (i : Nat) x s Fa Ha F1 H1 σ1 v (N : St -> Hp -> Prop) (P' : S -> Prop), xs[i]? = some x -> (xs.take i).foldl body s0 = s -> Same F Fa -> I i Fa Ha σ1 s -> Gr Fa Ha F1 H1 -> rp K F1 x v -> P' (body s x) ->
      (forall s', P' s' -> forall F2 H2 σ2, Same F1 F2 -> I (i + 1) F2 H2 σ2 s' -> N σ2 H2) ->
      g v σ1 H1 fun σ2 H2 => t { D with nx := N, ct := N, bk := u D } σ2 H2)
    (hd : forall Fa Ha F1 H1 σ1 s, s = xs.foldl body s0 -> Same F Fa -> I xs.length Fa Ha σ1 s -> Gr Fa Ha F1 H1 -> P (k s) -> u D σ1 H1) : tSeq (tFor wi g t) u D σ H :=
  hx F H (Gr.refl s) _ fun J F2 H2 g2 W => by
    refine ⟨fun i m σ' H' => m = xs.length - i ∧ i ≤ xs.length ∧ exists Fa Ha F3 s, (xs.take i).foldl body s0 = s ∧ Same F Fa ∧ I i Fa Ha σ' s ∧ Gr Fa Ha F3 H' ∧ Same F2 F3, ⟨xs.length, by simp, Nat.zero_le _, F, H, F2, s0, rfl, Same.refl F, h0, g2, Same.refl F2⟩, ?_⟩
    rintro i m σ' H' ⟨rfl, hi, Fa, Ha, F3, st, hr, fa, hI1, gg, f23⟩
    by_cases hlt : i < xs.length
    · refine .inr ⟨W.go i F3 H' f23 gg.sub (hS.go gg (hI _ _ _ _ _ hI1).2) hlt, fun σ4 H4 => exists F4 s4, (xs.take (i + 1)).foldl body s0 = s4 ∧ Same F F4 ∧ I (i + 1) F4 H4 σ4 s4 ∧ Same F2 F4, fun σ4 H4 ⟨F4, s4, a1, a2, a3, a4⟩ => ⟨xs.length - (i + 1), by omega, rfl, hlt, F4, H4, F4, s4, a1, a2, a3, Gr.refl (hI _ _ _ _ _ a3).1, a4⟩, fun v H4 y => ?_⟩
      obtain ⟨F4, g4, hv⟩ := W.yld i H' F3 v H4 f23 gg.sub (hS.go gg (hI _ _ _ _ _ hI1).2) y hlt
      have hxi : xs[i]? = some (xs[i]'hlt) := by simp
      have h24 : Same F2 F4 := f23.trans g4.ex
      have h04 : Same F F4 := g2.ex.trans h24
      refine hs i (xs[i]'hlt) st Fa Ha F4 H4 σ' v _ (fun o => body st (xs[i]'hlt) = o) hxi hr fa hI1 (gg.trans g4) (hv _ hxi) rfl (fun s' hb F5 H5 σ5 f5 i5 => ?_)
      refine ⟨F5, s', ?_, h04.trans f5, i5, h24.trans f5⟩
      rw [take_snoc hxi, List.foldl_append, hr]
      exact hb
    · have e : i = xs.length := by omega
      subst e
      rw [List.take_length] at hr
      exact .inl ⟨W.stop _ F3 H' f23 gg.sub (hS.go gg (hI _ _ _ _ _ hI1).2) (Nat.le_refl _), hd Fa Ha F3 H' σ' st hr.symm fa hI1 gg (by rw [← hr]; exact p_lt P hP)⟩
end
end Rf

/-! ### lists: read -/
namespace Rf
open PySem L2
open Rep (rp)
/-- an item, by Python's own index -/
def ixI {α : Type} [Inhabited α] (xs : List α) (i : Int) : α := if 0 ≤ i then xs.getD i.toNat default else xs.getD (i + xs.length).toNat default
def InB (n : Nat) (i : Int) : Prop := -(n : Int) ≤ i ∧ i < n
theorem atI_ix {α : Type} [Inhabited α] {xs : List α} {i : Int} (h : InB xs.length i) : atI xs i = some (ixI xs i) := by
  obtain ⟨h1, h2⟩ := h
  unfold atI ixN ixI
  by_cases h0 : 0 ≤ i
  · have hj : i.toNat < xs.length := by omega
    rw [if_pos h0, if_pos h2, if_pos h0]
    show xs[i.toNat]? = some _
    rw [List.getElem?_eq_getElem hj]
    simp [List.getD, hj]
  · have hj : (i + xs.length).toNat < xs.length := by omega
    rw [if_neg h0, if_pos h1, if_neg h0]
    show xs[(i + xs.length).toNat]? = some _
    rw [List.getElem?_eq_getElem hj]
    simp [List.getD, hj]
theorem atI_map {α β : Type} (f : α -> β) (xs : List α) (i : Int) : atI (xs.map f) i = (atI xs i).map f := by
  unfold atI
  rw [List.length_map]
  cases ixN xs.length i with
  | none => rfl
  | some j => show (xs.map f)[j]? = _; rw [List.getElem?_map]; rfl
theorem rps_atI [Rep α] {K : Fg} {F : Hp} {xs : List α} {vs : List V} {i : Int} {x : α} (r : Rps K F xs vs) (h : atI xs i = some x) : exists v, atI vs i = some v ∧ rp K F x v := by
  unfold atI at h ⊢
  rw [wk_len r]
  cases e : ixN xs.length i with
  | none => rw [e] at h; cases h
  | some j =>
    rw [e] at h
    exact rps_at r (show xs[j]? = some x from h)
section
variable {K : Fg} {Z : Addr -> Prop} {σ : St} {F H F0 H0 F1 H1 F2 H2 : Hp} {te ta tb tc : TE} {tt : TT} {t1 t2 u : TS} {D : Ends} {i : Nat} {p q : Addr}
theorem op2_ixL [Rep α] [Inhabited α] {xs : List α} {i : Int} (h : InB xs.length i) : Op2 K (rIxL K) xs i (ixI xs i) := fun F H v w s r1 r2 Q q => by
  obtain ⟨a, vs, rfl, e, r⟩ := r1
  obtain ⟨y, hy, ry⟩ := rps_atI r (atI_ix h)
  exact ⟨a, vs, i, y, rfl, r2, SqL.of (s a _ e), hy, q F H y (Gr.refl s) ry⟩
theorem op2_ixC {x : Scr} {i : Int} (h : InB x.l.length i) : Op2 K (rIxL K) x i (ixI x.l i) := fun F H v w s r1 r2 Q q => by
  obtain ⟨a, rfl, e⟩ := r1
  exact ⟨a, _, i, .int (ixI x.l i), rfl, r2, (Le.of s).sqL e, by rw [atI_map, atI_ix h]; rfl, q F H _ (Gr.refl s) rfl⟩
theorem op2_ixTn [Rep α] [Inhabited α] {xs : Tup α} {i : Int} (h : InB xs.l.length i) : Op2 K (rIxT K) xs i (ixI xs.l i) := fun F H v w s r1 r2 Q q => by
  obtain ⟨a, vs, rfl, e, r⟩ := r1
  obtain ⟨y, hy, ry⟩ := rps_atI r (atI_ix h)
  exact ⟨a, vs, i, y, rfl, r2, SqT.of (s a _ e), hy, q F H y (Gr.refl s) ry⟩
/-- places of tuples of written length -/
theorem op2_ixT0 [Rep α] [RepT β] {x : α × β} : Op2 K (rIxT K) x (0 : Int) x.1 := fun F H v w s r1 r2 Q q => by
  obtain ⟨a, vs, rfl, e, v, r, rfl, h1, h2⟩ := r1
  exact ⟨a, _, 0, v, rfl, r2, SqT.of (s a _ e), atI_nat (j := 0) rfl, q F H v (Gr.refl s) h1⟩
theorem atI_suc {v : V} {r : List V} {n : Nat} {w : V} (h : r[n]? = some w) : atI (v :: r) ((n + 1 : Nat) : Int) = some w := atI_nat (by simpa using h)
theorem op2_ixT1 [Rep α] [Rep β] {x : α × β} : Op2 K (rIxT K) x (1 : Int) x.2 := fun F H v w s r1 r2 Q q => by
  obtain ⟨a, vs, rfl, e, v, r, rfl, h1, v2, rfl, h2⟩ := r1
  exact ⟨a, _, 1, v2, rfl, r2, SqT.of (s a _ e), rfl, q F H v2 (Gr.refl s) h2⟩
theorem op2_ixT1m [Rep α] [Rep β] [RepT γ] {x : α × β × γ} : Op2 K (rIxT K) x (1 : Int) x.2.1 := fun F H v w s r1 r2 Q q => by
  obtain ⟨a, vs, rfl, e, v, r, rfl, h1, v2, r2', rfl, h2, h3⟩ := r1
  exact ⟨a, _, 1, v2, rfl, r2, SqT.of (s a _ e), atI_nat (j := 1) rfl, q F H v2 (Gr.refl s) h2⟩
theorem op2_ixT2 [Rep α] [Rep β] [Rep γ] {x : α × β × γ} : Op2 K (rIxT K) x (2 : Int) x.2.2 := fun F H v w s r1 r2 Q q => by
  obtain ⟨a, vs, rfl, e, v, r, rfl, h1, v2, r2', rfl, h2, v3, rfl, h3⟩ := r1
  exact ⟨a, _, 2, v3, rfl, r2, SqT.of (s a _ e), rfl, q F H v3 (Gr.refl s) h3⟩
theorem op2_ixT2m [Rep α] [Rep β] [Rep γ] [RepT δ] {x : α × β × γ × δ} : Op2 K (rIxT K) x (2 : Int) x.2.2.1 := fun F H v w s r1 r2 Q q => by
  obtain ⟨a, vs, rfl, e, v, r, rfl, h1, v2, r2', rfl, h2, v3, r3', rfl, h3, h4⟩ := r1
  exact ⟨a, _, 2, v3, rfl, r2, SqT.of (s a _ e), atI_nat (j := 2) rfl, q F H v3 (Gr.refl s) h3⟩
theorem op2_ixT3 [Rep α] [Rep β] [Rep γ] [Rep δ] {x : α × β × γ × δ} : Op2 K (rIxT K) x (3 : Int) x.2.2.2 := fun F H v w s r1 r2 Q q => by
  obtain ⟨a, vs, rfl, e, v, r, rfl, h1, v2, r2', rfl, h2, v3, r3', rfl, h3, v4, rfl, h4⟩ := r1
  exact ⟨a, _, 3, v4, rfl, r2, SqT.of (s a _ e), rfl, q F H v4 (Gr.refl s) h4⟩
/-- len -/
abbrev rLen' (K : Fg) : List V -> Hp -> VK -> Prop := fun xs H Q => exists p ys, xs = [.ref p] ∧ (SqL K H p ys ∨ SqT K H p ys) ∧ Q (.int ys.length) H
theorem cb_lenL [Rep α] {xs : List α} : CbV K (rLen' K) (fun F vs => exists v r, vs = v :: r ∧ rp K F xs v ∧ r = []) (xs.length : Int) := fun F H vs Q s ⟨v, r, e, ⟨a, ws, e2, e3, r2⟩, e4⟩ q => by
  subst e e2 e4
  exact ⟨a, ws, rfl, .inl (SqL.of (s a _ e3)), q F H _ (Gr.refl s) (by rw [wk_len r2]; rfl)⟩
theorem cb_lenC {x : Scr} : CbV K (rLen' K) (fun F vs => exists v r, vs = v :: r ∧ rp K F x v ∧ r = []) (x.l.length : Int) := fun F H vs Q s ⟨v, r, e, ⟨a, e2, e3⟩, e4⟩ q => by
  subst e e2 e4
  exact ⟨a, _, rfl, .inl ((Le.of s).sqL e3), q F H _ (Gr.refl s) (by rw [List.length_map]; rfl)⟩
theorem cb_lenTn [Rep α] {xs : Tup α} : CbV K (rLen' K) (fun F vs => exists v r, vs = v :: r ∧ rp K F xs v ∧ r = []) (xs.l.length : Int) := fun F H vs Q s ⟨v, r, e, ⟨a, ws, e2, e3, r2⟩, e4⟩ q => by
  subst e e2 e4
  exact ⟨a, ws, rfl, .inr (SqT.of (s a _ e3)), q F H _ (Gr.refl s) (by rw [wk_len r2]; rfl)⟩
class LenT (α : Type) [RepT α] (n : Nat) : Prop where
  len : forall {K : Fg} {F : Hp} {x : α} {vs : List V}, RepT.rt K F x vs -> vs.length = n
instance (priority := low) [Rep α] : LenT α 1 := ⟨fun ⟨v, e, _⟩ => by rw [e]; rfl⟩
instance (priority := high) [Rep α] [RepT β] [LenT β n] : LenT (α × β) (n + 1) := ⟨fun ⟨v, r, e, _, h⟩ => by rw [e, List.length_cons, LenT.len (n := n) h]⟩
theorem cb_lenT [Rep α] [RepT β] {n : Nat} [LenT (α × β) n] {x : α × β} : CbV K (rLen' K) (fun F vs => exists v r, vs = v :: r ∧ rp K F x v ∧ r = []) (n : Int) := fun F H vs Q s ⟨v, r, e, ⟨a, ws, e2, e3, r2⟩, e4⟩ q => by
  subst e e2 e4
  exact ⟨a, ws, rfl, .inr (SqT.of (s a _ e3)), q F H _ (Gr.refl s) (by rw [LenT.len (n := n) r2]; rfl)⟩
abbrev rLenS' : List V -> Hp -> VK -> Prop := fun xs H Q => exists z : PySem.Str, xs = [.str z] ∧ z.length ≤ sizeLine ∧ Q (.int z.length) H
theorem cb_lenS {z : PySem.Str} (h : z.length ≤ 100000) : CbV K rLenS' (fun F vs => exists v r, vs = v :: r ∧ rp K F z v ∧ r = []) (z.length : Int) := fun F H vs Q s ⟨v, r, e, e2, e4⟩ q => by
  subst e e4
  cases e2
  exact ⟨z, rfl, sz h, q F H _ (Gr.refl s) rfl⟩
/-- list(xs), tuple(xs) -/
abbrev rListOf (K : Fg) : List V -> Hp -> VK -> Prop := fun xs H Q => exists p ys, xs = [.ref p] ∧ (SqL K H p ys ∨ SqT K H p ys) ∧ forall l, H l = none -> Q (.ref l) (upd H l (.lst ys))
theorem cl_list [Rep α] {xs : List α} : CbL K (rListOf K) (fun F vs => exists v r, vs = v :: r ∧ rp K F xs v ∧ r = []) xs := fun F H vs Q s ⟨v, r, e, ⟨a, ws, e2, e3, r2⟩, e4⟩ q => by
  subst e e2 e4
  exact ⟨a, ws, rfl, .inl (SqL.of (s a _ e3)), fun l hl => q F _ l (Gr.put s hl) hl ⟨none_of s hl, ws, upd_same, r2⟩⟩
theorem cl_listT [Rep α] {xs : Tup α} : CbL K (rListOf K) (fun F vs => exists v r, vs = v :: r ∧ rp K F xs v ∧ r = []) xs.l := fun F H vs Q s ⟨v, r, e, ⟨a, ws, e2, e3, r2⟩, e4⟩ q => by
  subst e e2 e4
  exact ⟨a, ws, rfl, .inr (SqT.of (s a _ e3)), fun l hl => q F _ l (Gr.put s hl) hl ⟨none_of s hl, ws, upd_same, r2⟩⟩
/-- x in xs, by values -/
theorem inV_val {α : Type} [Rep α] [Flat α] [DecidableEq α] (he : forall a b : α, eqV (Flat.val a) (Flat.val b) = decide (a = b)) (x : α) (xs : List α) : inV (Flat.val x) (xs.map Flat.val) = decide (x ∈ xs) := by
  unfold inV
  induction xs with
  | nil => simp
  | cons y r ih =>
    rw [List.map_cons, List.any_cons, ih, he]
    by_cases h : y = x
    · subst h; simp
    · have h' : ¬ x = y := fun z => h z.symm
      simp [h, h']
/-- what == of the flat things gives -/
class EqF (α : Type) [Rep α] [Flat α] [DecidableEq α] : Prop where
  flat : forall x : α, flatV (Flat.val x) = true
  eq : forall a b : α, eqV (Flat.val a) (Flat.val b) = decide (a = b)
instance : EqF Int := ⟨fun _ => rfl, fun a b => by
  show eqV (.int a) (.int b) = _
  simp [eqV]; rw [Bool.eq_iff_iff]; simp⟩
instance : EqF PySem.Str := ⟨fun _ => rfl, fun a b => by
  show eqV (.str a) (.str b) = _
  simp [eqV]; try (rw [Bool.eq_iff_iff]; simp)⟩
theorem op2_inL [Rep α] [Flat α] [DecidableEq α] [EqF α] {x : α} {xs : List α} : Op2 K (rIn K false) x xs (decide (x ∈ xs)) := fun F H v w s r1 r2 Q q => by
  obtain ⟨a, vs, rfl, e, r⟩ := r2
  rw [Flat.is r1]
  have ev := rps_flat r
  subst ev
  refine ⟨a, _, rfl, .inl (SqL.of (s a _ e)), EqF.flat x, List.all_eq_true.mpr fun y hy => ?_, ?_⟩
  · obtain ⟨z, _, rfl⟩ := List.mem_map.mp hy
    exact EqF.flat z
  · rw [inV_val EqF.eq]
    exact q F H _ (Gr.refl s) rfl
theorem op2_niL [Rep α] [Flat α] [DecidableEq α] [EqF α] {x : α} {xs : List α} : Op2 K (rIn K true) x xs (!decide (x ∈ xs)) := fun F H v w s r1 r2 Q q => by
  obtain ⟨a, vs, rfl, e, r⟩ := r2
  rw [Flat.is r1]
  have ev := rps_flat r
  subst ev
  refine ⟨a, _, rfl, .inl (SqL.of (s a _ e)), EqF.flat x, List.all_eq_true.mpr fun y hy => ?_, ?_⟩
  · obtain ⟨z, _, rfl⟩ := List.mem_map.mp hy
    exact EqF.flat z
  · show Q (.bl (!inV (Flat.val x) (xs.map Flat.val))) H
    rw [inV_val EqF.eq]
    exact q F H _ (Gr.refl s) rfl
theorem op2_inT [Rep α] [Flat α] [DecidableEq α] [EqF α] {x : α} {xs : Tup α} : Op2 K (rIn K false) x xs (decide (x ∈ xs.l)) := fun F H v w s r1 r2 Q q => by
  obtain ⟨a, vs, rfl, e, r⟩ := r2
  rw [Flat.is r1]
  have ev := rps_flat r
  subst ev
  refine ⟨a, _, rfl, .inr (SqT.of (s a _ e)), EqF.flat x, List.all_eq_true.mpr fun y hy => ?_, ?_⟩
  · obtain ⟨z, _, rfl⟩ := List.mem_map.mp hy
    exact EqF.flat z
  · rw [inV_val EqF.eq]
    exact q F H _ (Gr.refl s) rfl
/-! ### lists: made -/
def OpL [Rep α] [Rep β] [Rep γ] (K : Fg) (r : R2) (x : α) (y : β) (zs : List γ) : Prop :=
  forall F H v w, Same F H -> rp K F x v -> rp K F y w -> forall Q : VK, (forall F2 H2 p, Gr F H F2 H2 -> H p = none -> MutL K F2 H2 p zs -> Q (.ref p) H2) -> r v w H Q
theorem tl_op [Rep α] [Rep β] [Rep γ] {x : α} {y : β} {zs : List γ} {r : R2} (ha : Tv K ta σ F H x) (hb : Tv K tb σ F H y) (ho : OpL K r x y zs) : TvL K (tOp r ta tb) σ F H zs := fun F1 H1 g Q q =>
  tv_bin (R := fun v w H => r v w H Q) ha hb g fun F2 H2 v w g2 r1 r2 => ho F2 H2 v w g2.sub r1 r2 Q fun F3 H3 p g3 n m => q F3 H3 p (g2.trans g3) (none_of g2.keep n) m
theorem opL_cat [Rep α] {xs ys : List α} (h : xs.length + ys.length ≤ 100000) : OpL K rCat xs ys (xs ++ ys) := fun F H v w s r1 r2 Q q => by
  obtain ⟨a, vs, rfl, e, r⟩ := r1
  obtain ⟨b, ws, rfl, e', r'⟩ := r2
  exact ⟨a, b, vs, ws, rfl, rfl, s a _ e, s b _ e', by rw [wk_len r, wk_len r']; exact sz h, fun p hp => q F _ p (Gr.put s hp) hp ⟨none_of s hp, vs ++ ws, upd_same, rps_app r r'⟩⟩
/-- xs[lo:hi] -/
def sIxI (n d : Nat) : Option Int -> Nat
  | none => d
  | some v => if v < 0 then (v + (n : Int)).toNat else min v.toNat n
def cutI {α : Type} (xs : List α) (lo hi : Option Int) : List α := (xs.drop (sIxI xs.length 0 lo)).take (sIxI xs.length xs.length hi - sIxI xs.length 0 lo)
theorem sIx_eq (n d : Nat) (o : Option Int) : HT.sIx n d o = sIxI n d o := by cases o <;> rfl
theorem rps_drop [Rep α] : forall (n : Nat) {xs : List α} {vs : List V}, Rps K F xs vs -> Rps K F (xs.drop n) (vs.drop n)
  | 0, _, _, r => r
  | _ + 1, _, _, .nil => .nil
  | n + 1, _, _, .cons _ t => rps_drop n t
theorem rps_take [Rep α] : forall (n : Nat) {xs : List α} {vs : List V}, Rps K F xs vs -> Rps K F (xs.take n) (vs.take n)
  | 0, _, _, _ => .nil
  | _ + 1, _, _, .nil => .nil
  | n + 1, _, _, .cons r t => .cons r (rps_take n t)
theorem rps_cut [Rep α] {xs : List α} {vs : List V} {lo hi : Option Int} (r : Rps K F xs vs) : Rps K F (cutI xs lo hi) (cutV vs lo hi) := by
  unfold cutI cutV
  rw [wk_len r, sIx_eq, sIx_eq]
  exact rps_take _ (rps_drop _ r)
def TvO (to : TO) (σ : St) (H : Hp) (o : Option Int) : Prop := forall H1, Same H H1 -> forall Q : Option Int -> Hp -> Prop, (forall H2, Same H1 H2 -> Q o H2) -> to σ H1 Q
theorem to_none : TvO tNoPart σ H none := fun H1 _ Q q => q H1 (Same.refl H1)
theorem to_some {n : Int} (h : Tv K te σ H H n) : TvO (tPart te) σ H (some n) := fun H1 e Q q => h H1 H1 (Gr.whole e) _ fun F2 H2 v g r => ⟨n, r, q H2 g.keep⟩
theorem tl_slice [Rep α] {xs : List α} {tl th : TO} {lo hi : Option Int} (h : Tv K te σ F H xs) (h1 : TvO tl σ H lo) (h2 : TvO th σ H hi) : TvL K (tSl (rSlL K) te tl th) σ F H (cutI xs lo hi) := fun F1 H1 g Q q =>
  h F1 H1 g _ fun F2 H2 v g2 ⟨a, vs, e, hq, hr⟩ => h1 H2 (g.keep.trans g2.keep) _ fun H3 e3 => h2 H3 ((g.keep.trans g2.keep).trans e3) _ fun H4 e4 =>
    ⟨a, vs, e, SqL.of (e4 a _ (e3 a _ (g2.sub a _ hq))), fun p hp => q F2 _ p (g2.trans ((Gr.up g2.sub (e3.trans e4)).trans (Gr.put ((g2.sub.trans e3).trans e4) hp))) (none_of ((g2.keep.trans e3).trans e4) hp) ⟨none_of ((g2.sub.trans e3).trans e4) hp, _, upd_same, rps_cut hr⟩⟩
/-! ### lists: changed -/
/-- the whole grew, and p holds something else -/
structure Md (p : Addr) (F H F1 H1 : Hp) : Prop where
  fr : F1 p = none
  go : exists H', Gr F H F1 H' ∧ exists o, H1 = upd H' p o
theorem Md.ex (m : Md p F H F1 H1) : Same F F1 := let ⟨_, g, _⟩ := m.go; g.ex
theorem Md.sub (m : Md p F H F1 H1) : Same F1 H1 := by
  obtain ⟨f, H', g, o, rfl⟩ := m
  exact same_mut g.sub f
theorem MutL.md [Rep α] {xs : List α} (m : MutL K F H q xs) (n : q ≠ p) (d : Md p F H F1 H1) : MutL K F1 H1 q xs := by
  obtain ⟨f, H', g, o, rfl⟩ := d
  exact (m.go g).past n
theorem GrZ.md (g : GrZ Z F0 H0 F H) (n : H0 p = none) (d : Md p F H F1 H1) : GrZ Z F0 H0 F1 H1 := by
  obtain ⟨f, H', g', o, rfl⟩ := d
  exact (g.then g').mut n f
theorem Md.of [Rep α] {xs : List α} (m : MutL K F H p xs) (g : Gr F H F1 H1) {o : HO} : Md p F H F1 (upd H1 p o) := ⟨(m.go g).fr, H1, g, o, rfl⟩
theorem q_app [Rep α] {β : Type} {P : β -> Prop} {xs : List α} {y : α} {k : List α -> β} (hP : P (lt (xs ++ [y]) k)) (s : Same F H) (m : MutL K F H p xs) (hi : σ[i]? = some (some (.ref p))) (he : Tv K te σ F H y) (hl : xs.length < 100000)
    (nxt : forall zs F1 H1, zs = xs ++ [y] -> Md p F H F1 H1 -> MutL K F1 H1 p zs -> P (k zs) -> u D σ H1) : tSeq (tDrop (tBM K "list" rAppend (tVar i) (tCons te tNil))) u D σ H := by
  obtain ⟨f, vs, e, r⟩ := id m
  refine ⟨.ref p, hi, .inl ⟨rfl, vs, SqL.of e⟩, he F H (Gr.refl s) _ fun F2 H2 v g rv => ?_⟩
  obtain ⟨f2, vs2, e2, r2⟩ := id (m.go g)
  refine ⟨p, vs2, v, rfl, rfl, e2, by rw [wk_len r2]; exact szl hl, nxt _ F2 _ rfl (Md.of m g) ⟨f2, _, upd_same, rps_app r2 (.cons rv .nil)⟩ (p_lt P hP)⟩
theorem q_clear [Rep α] {β : Type} {P : β -> Prop} {xs : List α} {k : List α -> β} (hP : P (lt ([] : List α) k)) (s : Same F H) (m : MutL K F H p xs) (hi : σ[i]? = some (some (.ref p)))
    (nxt : forall F1 H1, Md p F H F1 H1 -> MutL K F1 H1 p ([] : List α) -> P (k []) -> u D σ H1) : tSeq (tDrop (tBM0 K "list" rClear (tVar i))) u D σ H := by
  obtain ⟨f, vs, e, r⟩ := id m
  exact ⟨.ref p, hi, .inl ⟨rfl, vs, SqL.of e⟩, p, vs, rfl, rfl, e, nxt F _ (Md.of m (Gr.refl s)) ⟨f, _, upd_same, .nil⟩ (p_lt P hP)⟩
/-! ### comprehensions -/
def lc {α β : Type} (xs : List α) (c : α -> Bool) (f : α -> β) : List β := (xs.filter c).map f
theorem lc_snoc {α β : Type} (xs : List α) (x : α) (c : α -> Bool) (f : α -> β) : lc (xs ++ [x]) c f = lc xs c f ++ (if c x = true then [f x] else []) := by
  unfold lc
  rw [List.filter_append, List.map_append]
  congr 1
  by_cases h : c x = true
  · rw [if_pos h, List.filter_cons, if_pos h]; rfl
  · rw [if_neg h, List.filter_cons, if_neg h]; rfl
theorem lc_len {α β : Type} (xs : List α) (c : α -> Bool) (f : α -> β) : (lc xs c f).length ≤ xs.length := by
  unfold lc
  rw [List.length_map]
  exact List.length_filter_le _ _
theorem lc_true_len {α β : Type} (xs : List α) (f : α -> β) : (lc xs (fun _ => true) f).length = xs.length := by
  unfold lc
  rw [List.length_map, List.filter_eq_self.mpr (fun _ _ => rfl)]
theorem Gr.mut {o : HO} (g : Gr F H F1 H1) (n : H p = none) (f : F1 p = none) : Gr F H F1 (upd H1 p o) :=
  ⟨g.ex, fun a u e => by rw [upd_ne (ne_of_none e n)]; exact g.keep a u e, same_mut g.sub f, g.new⟩
theorem tl_lc [Rep α] [Rep β] {xs : List α} {wi : TI} {g : TG} {vs : List Nat} {S' : Hp -> Hp -> Prop} (c : α -> Bool) (f : α -> β) (hx : Itr K wi σ F H S' xs) (hS : Stb S') (h0 : S' F H) (hl : xs.length < 100000)
    (hs : forall (i : Nat) x v F' H', xs[i]? = some x -> Gr F H F' H' -> rp K F' x v -> forall R : St -> Hp -> Prop, (forall σ2, wipe σ2 vs = wipe σ vs -> Tt tt σ2 H' (c x) -> (forall H'', Same H' H'' -> c x = true -> Tv K te σ2 F' H'' (f x)) -> R σ2 H') -> g v (wipe σ vs) H' R) :
    TvL K (tLc wi g tt te vs) σ F H (lc xs c f) := fun F1 H1 gr Q q =>
  hx F1 H1 gr _ fun J F2 H2 g2 W => fun Dl hD => by
    refine ⟨fun i m H' => m = xs.length - i ∧ i ≤ xs.length ∧ exists F3, Gr F2 H2 F3 H' ∧ MutL K F3 H' Dl (lc (xs.take i) c f), ⟨xs.length, by simp, Nat.zero_le _, F2, Gr.put g2.sub hD, none_of g2.sub hD, [], upd_same, .nil⟩, ?_⟩
    rintro i m H' ⟨rfl, hi, F3, g3, md⟩
    have hf3 := md.fr
    by_cases hlt : i < xs.length
    · refine .inr ⟨W.go i F3 H' g3.ex g3.sub (hS.go ((gr.trans g2).trans g3) h0) hlt, fun H4 => exists F4, Gr F2 H2 F4 H4 ∧ MutL K F4 H4 Dl (lc (xs.take (i + 1)) c f), fun H4 ⟨F4, a1, a2⟩ => ⟨xs.length - (i + 1), by omega, rfl, hlt, F4, a1, a2⟩, fun v H4 y => ?_⟩
      obtain ⟨F4, g4, hv⟩ := W.yld i H' F3 v H4 g3.ex g3.sub (hS.go ((gr.trans g2).trans g3) h0) y hlt
      have hxi : xs[i]? = some (xs[i]'hlt) := by simp
      have g24 := g3.trans g4
      refine hs i (xs[i]'hlt) v F4 H4 hxi ((gr.trans g2).trans g24) (hv _ hxi) _ fun σ2 hw ht he => ⟨hw, ht H4 (Same.refl H4) _ fun H5 e5 => ?_⟩
      have g25 := g24.trans (Gr.up g24.sub e5)
      have md5 : MutL K F4 H5 Dl (lc (xs.take i) c f) := (md.go g4).grow e5
      rw [take_snoc hxi, lc_snoc]
      cases hc : c (xs[i]'hlt) with
      | false => exact ⟨F4, g25, by simpa using md5⟩
      | true =>
        refine he H5 e5 hc F4 H5 (Gr.refl (g24.sub.trans e5)) _ fun F6 H6 w g6 rw' => ?_
        obtain ⟨f6, ws, e6, r6⟩ := md5.go g6
        refine ⟨ws, e6, ?_, F6, (g25.trans g6).mut hD f6, f6, _, upd_same, ?_⟩
        · rw [wk_len r6]
          exact szl (Nat.lt_of_le_of_lt (lc_len _ _ _) (Nat.lt_of_le_of_lt (List.length_take_le _ _) (by omega)))
        · rw [if_pos rfl]
          exact rps_app r6 (.cons rw' .nil)
    · have e : i = xs.length := by omega
      subst e
      rw [List.take_length] at md
      exact .inl ⟨W.stop _ F3 H' g3.ex g3.sub (hS.go ((gr.trans g2).trans g3) h0) (Nat.le_refl _), q F3 H' Dl (g2.trans g3) (none_of g2.keep hD) md⟩
theorem tt_yes : Tt tYes σ H true := fun H1 e Q q => q H1 (Same.refl H1)
end
end Rf

/-! ### more: unpacking, zip, enumerate, chains, None, isinstance, data -/
namespace Rf
open PySem L2
open Rep (rp)
theorem GrZ.grow {Z : Addr -> Prop} {F0 H0 F H H1 : Hp} (g : GrZ Z F0 H0 F H) (e : Same H H1) : GrZ Z F0 H0 F H1 := g.then (Gr.up g.sub e)
theorem GrZ.newIn {Z : Addr -> Prop} {F0 H0 F H : Hp} {p : Addr} (g : GrZ Z F0 H0 F H) (n : H p = none) : H0 p = none := by
  cases q : H0 p with
  | none => rfl
  | some o =>
    obtain ⟨o', e⟩ := g.dom p o q
    rw [n] at e; cases e
@[irreducible] def ltL2 {α β : Type} [Inhabited α] (xs : List α) (k : α -> α -> β) : β := k (ixI xs 0) (ixI xs 1)
@[irreducible] def ltL3 {α β : Type} [Inhabited α] (xs : List α) (k : α -> α -> α -> β) : β := k (ixI xs 0) (ixI xs 1) (ixI xs 2)
theorem ltL2_eq {α β : Type} [Inhabited α] (xs : List α) (k : α -> α -> β) : ltL2 xs k = k (ixI xs 0) (ixI xs 1) := by unfold ltL2; rfl
theorem ltL3_eq {α β : Type} [Inhabited α] (xs : List α) (k : α -> α -> α -> β) : ltL3 xs k = k (ixI xs 0) (ixI xs 1) (ixI xs 2) := by unfold ltL3; rfl
section
variable {K : Fg} {Z : Addr -> Prop} {σ : St} {F H F0 H0 F1 H1 F2 H2 : Hp} {te ta tb tc : TE} {tt : TT} {t1 t2 u : TS} {D : Ends} {i j l : Nat} {p q : Addr}
theorem tv_neg {n : Int} (h : Tv K te σ H H n) : Tv K (tUn (rU fun i => .int (-i)) te) σ H H (-n) := fun F1 H1 g Q q =>
  h F1 H1 g _ fun F2 H2 v g2 r => ⟨n, r, q F2 H2 _ g2 rfl⟩
theorem tv_chain [Rep α] [Rep β] [Rep γ] {x : α} {y : β} {z : γ} {r r' : R2} {b c : Bool} (ha : Tv K ta σ H H x) (hb : Tv K tb σ H H y) (ho : Op2 K r x y b) (hc : Tv K tc σ H H z) (ho' : Op2 K r' y z c) : Tv K (tChain r r' ta tb tc) σ H H (b && c) := fun F1 H1 g Q q =>
  ha F1 H1 g _ fun F2 H2 v g2 r1 => hb F2 H2 (g.trans g2) _ fun F3 H3 w g3 r2 => ho F3 H3 v w g3.sub (up g3.ex r1) r2 _ fun F4 H4 k g4 rk => ⟨b, rk, by
    cases b with
    | false => exact q F4 H4 _ ((g2.trans g3).trans g4) rfl
    | true => exact hc F4 H4 (((g.trans g2).trans g3).trans g4) _ fun F5 H5 z' g5 r5 => ho' F5 H5 w z' g5.sub (up (g4.ex.trans g5.ex) r2) r5 _ fun F6 H6 k' g6 rk' => q F6 H6 k' ((((g2.trans g3).trans g4).trans g5).trans g6) rk'⟩
/-- x is None -/
class Nn (α : Type) [Rep α] : Prop where
  nn : forall {K : Fg} {F : Hp} {x : α} {v : V}, rp K F x v -> v ≠ .non
instance : Nn Int := ⟨fun h z => by rw [show _ = V.int _ from h] at z; cases z⟩
instance : Nn Bool := ⟨fun h z => by rw [show _ = V.bl _ from h] at z; cases z⟩
instance : Nn PySem.Str := ⟨fun h z => by rw [show _ = V.str _ from h] at z; cases z⟩
instance [Rep α] : Nn (List α) := ⟨fun ⟨_, _, e, _⟩ z => by rw [e] at z; cases z⟩
instance [Rep α] [RepT β] : Nn (α × β) := ⟨fun ⟨_, _, e, _⟩ z => by rw [e] at z; cases z⟩
instance [Rep α] : Nn (Tup α) := ⟨fun ⟨_, _, e, _⟩ z => by rw [e] at z; cases z⟩
theorem op2_isN [Rep α] [Nn α] {x : Option α} : Op2 K rIsN x () x.isNone := fun F H v w s r1 r2 Q q => by
  refine ⟨r2, q F H _ (Gr.refl s) ?_⟩
  cases x with
  | none => rw [show v = V.non from r1]; rfl
  | some y =>
    have n := Nn.nn (α := α) (x := y) r1
    show V.bl _ = V.bl _
    simp [n]
theorem op2_notN [Rep α] [Nn α] {x : Option α} : Op2 K rNotN x () x.isSome := fun F H v w s r1 r2 Q q => by
  refine ⟨r2, q F H _ (Gr.refl s) ?_⟩
  cases x with
  | none => rw [show v = V.non from r1]; rfl
  | some y =>
    have n := Nn.nn (α := α) (x := y) r1
    show V.bl _ = V.bl _
    simp [n]
theorem op2_isNU : Op2 K rIsN () () true := fun F H v w s r1 r2 Q q => ⟨r2, q F H _ (Gr.refl s) (by rw [show v = V.non from r1]; rfl)⟩
theorem op2_notNU : Op2 K rNotN () () false := fun F H v w s r1 r2 Q q => ⟨r2, q F H _ (Gr.refl s) (by rw [show v = V.non from r1]; rfl)⟩
theorem op2_isNF [Rep α] [Nn α] {x : α} : Op2 K rIsN x () false := fun F H v w s r1 r2 Q q => ⟨r2, q F H _ (Gr.refl s) (by show V.bl _ = V.bl _; simp [Nn.nn r1])⟩
theorem op2_notNF [Rep α] [Nn α] {x : α} : Op2 K rNotN x () true := fun F H v w s r1 r2 Q q => ⟨r2, q F H _ (Gr.refl s) (by show V.bl _ = V.bl _; simp [Nn.nn r1])⟩
/-- isinstance of a thing of a known kind -/
class Typ (α : Type) [Rep α] (n : String) : Prop where
  is : forall {K : Fg} {F H : Hp} {x : α} {v : V}, rp K F x v -> Same F H -> TyX K H v (.type n)
instance : Typ Int "int" := ⟨fun h _ => by rw [show _ = V.int _ from h]; exact .base (.int _)⟩
instance : Typ Bool "bool" := ⟨fun h _ => by rw [show _ = V.bl _ from h]; exact .base (.bl _)⟩
instance : Typ PySem.Str "str" := ⟨fun h _ => by rw [show _ = V.str _ from h]; exact .base (.str _)⟩
instance : Typ Unit "NoneType" := ⟨fun h _ => by rw [show _ = V.non from h]; exact .base .non⟩
instance [Rep α] : Typ (List α) "list" := ⟨fun ⟨a, vs, e, q, _⟩ s => by rw [e]; exact .base (.lst (s a _ q))⟩
instance [Rep α] [RepT β] : Typ (α × β) "tuple" := ⟨fun ⟨a, vs, e, q, _⟩ s => by rw [e]; exact .base (.tup (s a _ q))⟩
instance [Rep α] : Typ (Tup α) "tuple" := ⟨fun ⟨a, vs, e, q, _⟩ s => by rw [e]; exact .base (.tup (s a _ q))⟩
theorem tv_isi [Rep α] {x : α} {n c : String} {b : Bool} [Typ α n] (h : Tv K ta σ H H x) (e : kitB n c = some b) : Tv K (tCB (rIsi K) (tCons ta (tCons (tC (.ty c)) tNil))) σ H H b := fun F1 H1 g Q q =>
  h F1 H1 g _ fun F2 H2 v g2 r => ⟨v, .ty c, .type n, .type c, b, rfl, .ty c, Typ.is r g2.sub, kit_ty e, q F2 H2 _ g2 rfl⟩
/-! ### unpacking -/
theorem q_unp2 [Rep α] [Rep β] {γ : Type} {e : α × β} {k : α -> β -> γ} {P : γ -> Prop} (hP : P (lt2 e k)) (s : Same F H) (he : Tv K te σ F H e)
    (nxt : forall a b F1 H1 v w, (a, b) = e -> Gr F H F1 H1 -> rp K F1 a v -> rp K F1 b w -> P (k a b) -> u D ((σ.set i (some v)).set j (some w)) H1) : tSeq (tAsg te (gTup K 2 (gCons (gName i) (gCons (gName j) gNil)))) u D σ H :=
  he F H (Gr.refl s) _ fun F2 H2 v g r => g_tup2 (Q := fun σ' H' => u D σ' H') g.sub r fun a b ra rb => nxt e.1 e.2 F2 H2 a b rfl g ra rb (by rw [lt2_eq] at hP; exact hP)
theorem q_unp3 [Rep α] [Rep β] [Rep γ] {δ : Type} {e : α × β × γ} {k : α -> β -> γ -> δ} {P : δ -> Prop} (hP : P (lt3 e k)) (s : Same F H) (he : Tv K te σ F H e)
    (nxt : forall a b c F1 H1 v w z, (a, b, c) = e -> Gr F H F1 H1 -> rp K F1 a v -> rp K F1 b w -> rp K F1 c z -> P (k a b c) -> u D (((σ.set i (some v)).set j (some w)).set l (some z)) H1) : tSeq (tAsg te (gTup K 3 (gCons (gName i) (gCons (gName j) (gCons (gName l) gNil))))) u D σ H :=
  he F H (Gr.refl s) _ fun F2 H2 v g r => g_tup3 (Q := fun σ' H' => u D σ' H') g.sub r fun a b c ra rb rc => nxt e.1 e.2.1 e.2.2 F2 H2 a b c rfl g ra rb rc (by rw [lt3_eq] at hP; exact hP)
theorem ixI_0 {α : Type} [Inhabited α] (x : α) (r : List α) : ixI (x :: r) 0 = x := rfl
theorem ixI_1 {α : Type} [Inhabited α] (x y : α) (r : List α) : ixI (x :: y :: r) 1 = y := rfl
theorem ixI_2 {α : Type} [Inhabited α] (x y z : α) (r : List α) : ixI (x :: y :: z :: r) 2 = z := rfl
theorem q_unpL2 [Rep α] [Inhabited α] {γ : Type} {e : List α} {k : α -> α -> γ} {P : γ -> Prop} (hP : P (ltL2 e k)) (s : Same F H) (he : Tv K te σ F H e) (hl : e.length = 2)
    (nxt : forall a b F1 H1 v w, e = [a, b] -> Gr F H F1 H1 -> rp K F1 a v -> rp K F1 b w -> P (k a b) -> u D ((σ.set i (some v)).set j (some w)) H1) : tSeq (tAsg te (gLst K 2 (gCons (gName i) (gCons (gName j) gNil)))) u D σ H := by
  refine he F H (Gr.refl s) _ fun F2 H2 v g r => ?_
  obtain ⟨a, vs, rfl, q, rr⟩ := r
  match e, vs, rr, hl with
  | [x, y], _, .cons rx (.cons ry .nil), _ =>
    rw [ltL2_eq] at hP
    exact ⟨a, _, rfl, SqL.of (g.sub a _ q), rfl, _, _, rfl, _, _, rfl, rfl, nxt x y F2 H2 _ _ rfl g rx ry hP⟩
theorem q_unpL3 [Rep α] [Inhabited α] {γ : Type} {e : List α} {k : α -> α -> α -> γ} {P : γ -> Prop} (hP : P (ltL3 e k)) (s : Same F H) (he : Tv K te σ F H e) (hl : e.length = 3)
    (nxt : forall a b c F1 H1 v w z, e = [a, b, c] -> Gr F H F1 H1 -> rp K F1 a v -> rp K F1 b w -> rp K F1 c z -> P (k a b c) -> u D (((σ.set i (some v)).set j (some w)).set l (some z)) H1) : tSeq (tAsg te (gLst K 3 (gCons (gName i) (gCons (gName j) (gCons (gName l) gNil))))) u D σ H := by
  refine he F H (Gr.refl s) _ fun F2 H2 v g r => ?_
  obtain ⟨a, vs, rfl, q, rr⟩ := r
  match e, vs, rr, hl with
  | [x, y, z], _, .cons rx (.cons ry (.cons rz .nil)), _ =>
    rw [ltL3_eq] at hP
    exact ⟨a, _, rfl, SqL.of (g.sub a _ q), rfl, _, _, rfl, _, _, rfl, _, _, rfl, rfl, nxt x y z F2 H2 _ _ _ rfl g rx ry rz hP⟩
theorem tlen [Rep α] [RepT β] {n : Nat} [LenT (α × β) n] {z : α × β} (hn : n ≤ 100000) : forall F vs, RepT.rt K F z vs -> vs.length ≤ 100000 := fun F vs h => by rw [LenT.len (n := n) h]; exact hn
/-! ### zip, enumerate -/
def zipP {α β : Type} (xs : List α) (ys : List β) : List (Pr α β) := (List.zip xs ys).map fun p => ⟨p.1, p.2⟩
theorem zipP_len {α β : Type} (xs : List α) (ys : List β) : (zipP xs ys).length = min xs.length ys.length := by simp [zipP]
theorem zip_at {α β : Type} {xs : List α} {ys : List β} {i : Nat} {p : Pr α β} (h : (zipP xs ys)[i]? = some p) : xs[i]? = some p.1 ∧ ys[i]? = some p.2 := by
  unfold zipP at h
  rw [List.getElem?_map] at h
  cases e : (List.zip xs ys)[i]? with
  | none => rw [e] at h; cases h
  | some q =>
    rw [e] at h
    cases h
    rw [List.getElem?_zip_eq_some] at e
    exact e
theorem wk_zip [Rep α] [Rep β] {a b : Addr} {vs ws : List V} {xs : List α} {ys : List β} (q : F a = some (.lst vs)) (r : Rps K F xs vs) (q' : F b = some (.lst ws)) (r' : Rps K F ys ws) : Wk K (Itz K a b) F ST (zipP xs ys) where
  go := fun i G H s0 s1 _ h => by
    have s := s0.trans s1
    rw [zipP_len] at h
    exact ⟨vs, ws, vs[i]'(by rw [wk_len r]; omega), ws[i]'(by rw [wk_len r']; omega), SqL.of (s a _ q), SqL.of (s b _ q'), by simp, by simp⟩
  stop := fun i G H s0 s1 _ h => by
    have s := s0.trans s1
    rw [zipP_len] at h
    exact ⟨vs, ws, SqL.of (s a _ q), SqL.of (s b _ q'), by rw [wk_len r, wk_len r']; omega⟩
  yld := fun i H F3 v H' s s3 _ y h => by
    obtain ⟨T, x, z, rfl, hT, rfl, h1, h2⟩ := y
    refine ⟨_, Gr.lay s3 hT, fun p hp => ?_⟩
    obtain ⟨e1, e2⟩ := zip_at hp
    obtain ⟨v1, k1, m1⟩ := rps_at r e1
    obtain ⟨v2, k2, m2⟩ := rps_at r' e2
    have z1 := h1 vs (SqL.of (s3 a _ (s a _ q)))
    have z2 := h2 ws (SqL.of (s3 b _ (s b _ q')))
    rw [k1] at z1; rw [k2] at z2
    cases z1; cases z2
    have n := same_new (o := .tup [x, z]) (none_of s3 hT)
    exact ⟨T, x, z, rfl, upd_same, up (s.trans n) m1, up (s.trans n) m2⟩
theorem it_zip [Rep α] [Rep β] {xs : List α} {ys : List β} (h : Tv K ta σ F H xs) (h' : Tv K tb σ F H ys) : Itr K (iZip K (tCons ta (tCons tb tNil))) σ F H ST (zipP xs ys) := fun F1 H1 g R q =>
  h F1 H1 g _ fun F2 H2 v g2 ⟨a, vs, e, hq, hr⟩ => h' F2 H2 (g.trans g2) _ fun F3 H3 w g3 ⟨b, ws, e', hq', hr'⟩ =>
    ⟨a, b, vs, ws, by rw [e, e'], SqL.of (g3.sub a _ (g3.ex a _ hq)), SqL.of (g3.sub b _ hq'), q _ F3 H3 (g2.trans g3) (wk_zip (g3.ex a _ hq) (rps_mono g3.ex hr) hq' hr')⟩
def enumI {α : Type} (xs : List α) : List (Pr Int α) := zipP (rng 0 xs.length) xs
/-- a loop's or a comprehension's one name -/
theorem g_nameF [Rep α] [Flat α] {x : α} {v : V} {Q : St -> Hp -> Prop} (h : rp K F x v) (k : v = Flat.val x -> Q (σ.set i (some (Flat.val x))) H) : gName i v σ H Q := by
  have e := Flat.is h
  subst e
  exact k rfl
/-! ### == of data -/
class Dat (α : Type) [Rep α] where
  dat : α -> PyData
  dp : forall {K : Fg} {F : Hp} {x : α} {v : V}, rp K F x v -> Dp K F v (dat x)
  ok : α -> Prop
  sh : Nat
  can : forall x : α, ok x -> (dat x).canLay0 = true ∧ (dat x).depth ≤ sh
  eqv : forall x y : α, PyData.eqv (dat x) (dat y) = true ↔ x = y
instance : Dat Int := ⟨fun i => .int i, fun h => by rw [show _ = V.int _ from h]; exact .int _, fun _ => True, 0, fun x _ => ⟨by simp [PyData.canLay0], by simp [PyData.depth]⟩, fun x y => by simp [PyData.eqv]⟩
instance : Dat Bool := ⟨fun i => .bool i, fun h => by rw [show _ = V.bl _ from h]; exact .bl _, fun _ => True, 0, fun x _ => ⟨by simp [PyData.canLay0], by simp [PyData.depth]⟩, fun x y => by simp [PyData.eqv]⟩
instance : Dat Unit := ⟨fun _ => .none, fun h => by rw [show _ = V.non from h]; exact .non, fun _ => True, 0, fun x _ => ⟨by simp [PyData.canLay0], by simp [PyData.depth]⟩, fun x y => by simp [PyData.eqv]⟩
instance : Dat PySem.Str := ⟨fun i => .str i, fun h => by rw [show _ = V.str _ from h]; exact .str _, fun x => PyData.strOk x = true, 0, fun x h => ⟨by simpa [PyData.canLay0] using h, by simp [PyData.depth]⟩, fun x y => by simp [PyData.eqv]⟩
theorem dpAll [Rep α] [Dat α] {K : Fg} {F : Hp} : forall {xs : List α} {vs : List V}, Rps K F xs vs -> DpAll K F vs (xs.map Dat.dat)
  | _, _, .nil => .nil
  | _, _, .cons r t => .cons (Dat.dp r) (dpAll t)
theorem canAll [Rep α] [Dat α] : forall (xs : List α), (forall x, x ∈ xs -> Dat.ok x) -> PyData.canLayAll0 (xs.map Dat.dat) = true ∧ PyData.depthAll (xs.map Dat.dat) ≤ Dat.sh α
  | [], _ => ⟨by simp [PyData.canLayAll0], by simp [PyData.depthAll]⟩
  | x :: r, h => by
    obtain ⟨h1, h2⟩ := canAll r fun y hy => h y (List.mem_cons_of_mem _ hy)
    obtain ⟨h3, h4⟩ := Dat.can x (h x (List.mem_cons_self ..))
    constructor
    · simp [PyData.canLayAll0, h3]; simpa using h1
    · simp only [List.map_cons, PyData.depthAll]; omega
theorem eqvAll [Rep α] [Dat α] : forall (xs ys : List α), PyData.eqvAll (xs.map Dat.dat) (ys.map Dat.dat) = true ↔ xs = ys
  | [], [] => by simp [PyData.eqvAll]
  | [], y :: r => by simp [PyData.eqvAll]
  | x :: r, [] => by simp [PyData.eqvAll]
  | x :: r, y :: r' => by
    simp only [List.map_cons, PyData.eqvAll, Bool.and_eq_true, eqvAll r r', Dat.eqv, List.cons.injEq]
instance [Rep α] [Dat α] : Dat (List α) := ⟨fun xs => .list (xs.map Dat.dat), fun ⟨a, vs, e, q, r⟩ => by rw [e]; exact .lst (SqL.of q) (dpAll r), fun xs => forall x, x ∈ xs -> Dat.ok x, Dat.sh α + 1, fun xs h => by
  obtain ⟨h1, h2⟩ := canAll xs h
  exact ⟨by simpa [PyData.canLay0] using h1, by simp only [PyData.depth]; omega⟩, fun x y => by simp only [PyData.eqv]; exact eqvAll x y⟩
instance [Rep α] [Dat α] : Dat (Tup α) := ⟨fun xs => .tuple (xs.l.map Dat.dat), fun ⟨a, vs, e, q, r⟩ => by rw [e]; exact .tup (SqT.of q) (dpAll r), fun xs => forall x, x ∈ xs.l -> Dat.ok x, Dat.sh α + 1, fun xs h => by
  obtain ⟨h1, h2⟩ := canAll xs.l h
  exact ⟨by simpa [PyData.canLay0] using h1, by simp only [PyData.depth]; omega⟩, fun x y => by
  simp only [PyData.eqv]
  rw [eqvAll x.l y.l]
  cases x; cases y; simp⟩
/-- the items of a tuple -/
class DatT (α : Type) [RepT α] where
  ds : α -> List PyData
  dp : forall {K : Fg} {F : Hp} {x : α} {vs : List V}, RepT.rt K F x vs -> DpAll K F vs (ds x)
  ok : α -> Prop
  sh : Nat
  can : forall x : α, ok x -> PyData.canLayAll0 (ds x) = true ∧ PyData.depthAll (ds x) ≤ sh
  eqv : forall x y : α, PyData.eqvAll (ds x) (ds y) = true ↔ x = y
instance (priority := low) [Rep α] [Dat α] : DatT α := ⟨fun x => [Dat.dat x], fun ⟨v, e, r⟩ => by rw [e]; exact .cons (Dat.dp r) .nil, Dat.ok, Dat.sh α, fun x h => by
  obtain ⟨h1, h2⟩ := Dat.can x h
  exact ⟨by simp [PyData.canLayAll0, h1], by simp only [PyData.depthAll]; omega⟩, fun x y => by simp [PyData.eqvAll, Dat.eqv]⟩
instance (priority := high) [Rep α] [RepT β] [Dat α] [DatT β] : DatT (α × β) := ⟨fun x => Dat.dat x.1 :: DatT.ds x.2, fun ⟨v, r, e, h, t⟩ => by rw [e]; exact .cons (Dat.dp h) (DatT.dp t), fun x => Dat.ok x.1 ∧ DatT.ok x.2, max (Dat.sh α) (DatT.sh β), fun x h => by
  obtain ⟨h1, h2⟩ := Dat.can x.1 h.1
  obtain ⟨h3, h4⟩ := DatT.can x.2 h.2
  exact ⟨by simp [PyData.canLayAll0, h1, h3], by simp only [PyData.depthAll]; omega⟩, fun x y => by
  obtain ⟨x1, x2⟩ := x; obtain ⟨y1, y2⟩ := y
  simp [PyData.eqvAll, Dat.eqv, DatT.eqv]⟩
instance [Rep α] [RepT β] [Dat α] [DatT β] : Dat (α × β) := ⟨fun x => .tuple (DatT.ds x), fun ⟨a, vs, e, q, r⟩ => by rw [e]; exact .tup (SqT.of q) (DatT.dp r), fun x => DatT.ok x, DatT.sh (α × β) + 1, fun x h => by
  obtain ⟨h1, h2⟩ := DatT.can x h
  exact ⟨by simpa [PyData.canLay0] using h1, by simp only [PyData.depth]; omega⟩, fun x y => by simp only [PyData.eqv]; exact DatT.eqv x y⟩
theorem shaped_of [Rep α] [Dat α] {x : α} (h : Dat.ok x) (hs : Dat.sh α ≤ 64) : SeqAt.shaped (Dat.dat x) = true := by
  obtain ⟨h1, h2⟩ := Dat.can x h
  unfold SeqAt.shaped
  rw [h1, decide_eq_true (Nat.le_trans h2 hs)]
  rfl
theorem eqv_dec [Rep α] [Dat α] [DecidableEq α] (x y : α) : PyData.eqv (Dat.dat x) (Dat.dat y) = decide (x = y) := by
  rw [Bool.eq_iff_iff, Dat.eqv, decide_eq_true_iff]
theorem op2_eqD [Rep α] [Dat α] [DecidableEq α] {K : Fg} {x y : α} (hx : Dat.ok x) (hy : Dat.ok y) (hs : Dat.sh α ≤ 64) : Op2 K (rEqD K) x y (decide (x = y)) := fun F H v w s r1 r2 Q q =>
  ⟨Dat.dat x, Dat.dat y, Dat.dp (up s r1), Dat.dp (up s r2), shaped_of hx hs, shaped_of hy hs, by rw [eqv_dec]; exact q F H _ (Gr.refl s) rfl⟩
theorem op2_neD [Rep α] [Dat α] [DecidableEq α] {K : Fg} {x y : α} (hx : Dat.ok x) (hy : Dat.ok y) (hs : Dat.sh α ≤ 64) : Op2 K (rNeD K) x y (!decide (x = y)) := fun F H v w s r1 r2 Q q =>
  ⟨Dat.dat x, Dat.dat y, Dat.dp (up s r1), Dat.dp (up s r2), shaped_of hx hs, shaped_of hy hs, by rw [eqv_dec]; exact q F H _ (Gr.refl s) rfl⟩
/-- tuples of ints -/
class Ints (α : Type) [RepT α] where
  ii : α -> List Int
  is : forall {K : Fg} {F : Hp} {x : α} {vs : List V}, RepT.rt K F x vs -> vs = (ii x).map V.int
instance (priority := low) : Ints Int := ⟨fun x => [x], fun ⟨v, e, r⟩ => by rw [e, show v = V.int _ from r]; rfl⟩
instance (priority := high) [RepT β] [Ints β] : Ints (Int × β) := ⟨fun x => x.1 :: Ints.ii x.2, fun ⟨v, r, e, h, t⟩ => by rw [e, show v = V.int _ from h, Ints.is t]; rfl⟩
theorem op2_ltT [RepT β] [Ints β] {K : Fg} {x y : Int × β} : Op2 K (rLtT K) x y (HT.lexLt (Ints.ii x) (Ints.ii y)) := fun F H v w s ⟨a, vs, e, q, r⟩ ⟨b, ws, e', q', r'⟩ Q k => by
  have h1 := Ints.is (α := Int × β) r
  have h2 := Ints.is (α := Int × β) r'
  subst h1 h2
  exact ⟨a, b, _, _, e, e', SqT.of (s a _ q), SqT.of (s b _ q'), k F H _ (Gr.refl s) rfl⟩
end
end Rf

/-! ### defs of the text -/
namespace Rf
open PySem PySem.Spec PyProof.Rows L2
abbrev FnP (K : Fg) (x : PySem.Str) (st : Stmt) (f : Addr) (fd : FuncData) : Prop := FunD K x x (defArgs st) (defBody st) (defScope st) [] [] f fd
/-- the module's def x is there and keeps its promise -/
def Dn (P : Program) (w : World) (K : Fg) (mg : PySem.Str → Option Value) (base : Heap) (CX : CXT) (x : PySem.Str) (k : Nat) (ps : List PySem.Str) (sp : Sp) : Prop :=
  ∃ f fd, FnOk P w K mg base CX k f fd ps sp ∧ mg x = some (.ref f) ∧ PySem.W.keepIn K (.ref f) = true ∧ Binds K fd ps []
end Rf

/-! ### rules whose reading names the written part, K written out (within a comprehension's block the context is a bound one) -/
namespace Rf
open PySem PySem.Spec PyProof.Rows L2
section
variable {X : Cx} {K : Fg}
theorem ix_listK (K : Fg) (h : X.K = K := by rfl) : IxR X (rIxL K) := h ▸ ix_list
theorem ix_tupK (K : Fg) (h : X.K = K := by rfl) : IxR X (rIxT K) := h ▸ ix_tup
theorem len_seqK (K : Fg) (h : X.K = K := by rfl) : CallR X (.builtin "len") (rLen' K) := h ▸ call_len_seq
theorem list_ofK (K : Fg) (h : X.K = K := by rfl) : CallR X (.type "list") (rListOf K) := h ▸ call_list_of
theorem in_seqK (K : Fg) (h : X.K = K := by rfl) : OpR X (compareOp .In) (rIn K false) := h ▸ op_in_seq
theorem notIn_seqK (K : Fg) (h : X.K = K := by rfl) : OpR X (compareOp .NotIn) (rIn K true) := h ▸ op_notIn_seq
theorem sl_listK (K : Fg) (h : X.K = K := by rfl) : SlR X (rSlL K) := h ▸ sl_list
theorem eqDK (K : Fg) (hu : X.A.units + 64 < cLine) (h : X.K = K := by rfl) : OpR X (compareOp .Eq) (rEqD K) := h ▸ op_eqD hu
theorem neDK (K : Fg) (hu : X.A.units + 64 < cLine) (h : X.K = K := by rfl) : OpR X (compareOp .NotEq) (rNeD K) := h ▸ op_neD hu
theorem ltTK (K : Fg) (hu : X.A.units < cLine) (h : X.K = K := by rfl) : OpR X (compareOp .Lt) (rLtT K) := h ▸ op_ltT hu
theorem isiK (K : Fg) (h : X.K = K := by rfl) : CallR X (.builtin "isinstance") (rIsi K) := h ▸ call_isi
theorem pi_listK (K : Fg) {tg l : Expr} {tl : TE} (hl : PE X l tl) (h : X.K = K := by rfl) : PI X tg l (iList K tl) := h ▸ pi_list hl
theorem pi_tupK (K : Fg) {tg l : Expr} {tl : TE} (hl : PE X l tl) (h : X.K = K := by rfl) : PI X tg l (iTup K tl) := h ▸ pi_tup hl
theorem pi_zipK (K : Fg) {e e2 : Expr} {ta : TA} {p pos tpos : Pos} {elts : List Expr} {kk : Nat} (hg : Gl X "zip") (hm : X.mg "zip" = none) (ha : PA X [e, e2] ta) (h : X.K = K := by rfl)
    (hs : starEach [e, e2] X.env = (false, eval e X.env) :: starEach [e2] X.env := by rfl) (hpl : (backTo pos (starEach [e2] X.env)).any (·.1) = false := by rfl) :
    PI X (.Tuple elts kk tpos) (.Call (.Name "zip" p) [e, e2] [] pos) (iZip K ta) := h ▸ pi_zip hg hm ha hs hpl
theorem pg_tupK (K : Fg) {es : List Expr} {k : Nat} {t : TGs} {n : Nat} {pos : Pos} (hc : X.calm = true) (hp : PGs X es t) (h : X.K = K := by rfl)
    (hn : (assignEach es X.env).length = n := by rfl) (hst : (assignEach es X.env).findIdx? (·.1) = none := by rfl) : PG X (.Tuple es k pos) (gTup K n t) := h ▸ pg_tup hc hp hn hst
end
end Rf
namespace Rf
open PySem PySem.Spec PyProof.Rows L2
open Rep (rp)
/-- the items of a tuple whose items are of one kind -/
class ItemsT (τ : Type) (β : outParam Type) [RepT τ] [Rep β] where
  its : τ -> List β
  is : forall {K : Fg} {F : Hp} {x : τ} {vs : List V}, RepT.rt K F x vs -> Rps K F (its x) vs
instance (priority := low) [Rep β] : ItemsT β β := ⟨fun x => [x], fun ⟨v, e, r⟩ => by rw [e]; exact .cons r .nil⟩
instance (priority := high) [Rep β] [RepT τ] [ItemsT τ β] : ItemsT (β × τ) β := ⟨fun x => x.1 :: ItemsT.its x.2, fun ⟨v, r, e, h, t⟩ => by rw [e]; exact .cons h (ItemsT.is t)⟩
theorem it_tupI [Rep β] [RepT τ] [ItemsT τ β] {K : Fg} {te : TE} {σ : St} {F H : Hp} {x : β × τ} (h : Tv K te σ F H x) : Itr K (iTup K te) σ F H ST (ItemsT.its (τ := β × τ) x) := fun F1 H1 g R q =>
  h F1 H1 g _ fun F2 H2 v g2 ⟨a, vs, e, hq, hr⟩ => ⟨a, e, ⟨vs, SqT.of (g2.sub a _ hq)⟩, q _ F2 H2 g2 (wk_tup (SqT.of hq) (ItemsT.is (τ := β × τ) hr))⟩
end Rf
/-! ### copies out of a list that may change still -/
namespace Rf
open PySem PySem.Spec PyProof.Rows L2
open Rep (rp)
section
variable {K : Fg} {σ : St} {F H : Hp} {tb : TE} {i : Nat} {p : Addr}
theorem tl_sliceM [Rep α] {xs : List α} {tl th : TO} {lo hi : Option Int} (e : σ[i]? = some (some (.ref p))) (m : MutL K F H p xs) (h1 : TvO tl σ H lo) (h2 : TvO th σ H hi) : TvL K (tSl (rSlL K) (tVar i) tl th) σ F H (cutI xs lo hi) := fun F1 H1 g Q q => by
  obtain ⟨f, vs, e1, r⟩ := m.go g
  exact ⟨.ref p, e, h1 H1 g.keep _ fun H3 e3 => h2 H3 (g.keep.trans e3) _ fun H4 e4 =>
    ⟨p, vs, rfl, SqL.of (e4 p _ (e3 p _ e1)), fun l hl => q F1 _ l ((Gr.up g.sub (e3.trans e4)).trans (Gr.put ((g.sub.trans e3).trans e4) hl)) (none_of (e3.trans e4) hl) ⟨none_of ((g.sub.trans e3).trans e4) hl, _, upd_same, rps_cut r⟩⟩⟩
theorem tl_listM [Rep α] {xs : List α} (e : σ[i]? = some (some (.ref p))) (m : MutL K F H p xs) : TvL K (tCB (rListOf K) (tCons (tVar i) tNil)) σ F H xs := fun F1 H1 g Q q => by
  obtain ⟨f, vs, e1, r⟩ := m.go g
  exact ⟨.ref p, e, p, vs, rfl, .inl (SqL.of e1), fun l hl => q F1 _ l (Gr.put g.sub hl) hl ⟨none_of g.sub hl, vs, upd_same, r⟩⟩
theorem tv_ixM [Rep α] [Inhabited α] {xs : List α} {n : Int} (e : σ[i]? = some (some (.ref p))) (m : MutL K F H p xs) (hi : Tv K tb σ H H n) (h : InB xs.length n) : Tv K (tOp (rIxL K) (tVar i) tb) σ F H (ixI xs n) := fun F1 H1 g Q q =>
  ⟨.ref p, e, hi H1 H1 (Gr.whole g.keep) _ fun F2 H2 v g2 r2 => by
    obtain ⟨f, vs, e1, r⟩ := m.go g
    obtain ⟨y, hy, ry⟩ := rps_atI r (atI_ix h)
    exact ⟨p, vs, n, y, rfl, r2, SqL.of (g2.keep p _ e1), hy, q F1 H2 y (Gr.up g.sub g2.keep) ry⟩⟩
end
end Rf

/-! ### texts; numbers as texts; sorted; list(range(n)); pop -/
namespace Rf
open PySem PySem.Spec PyProof.Rows L2
open Rep (rp)
abbrev strI (i : Int) : PySem.Str := toString i
def fj (ys : List PySem.Str) : PySem.Str := ys.foldl (· ++ ·) Str.empty
def chI (z : PySem.Str) (i : Int) : PySem.Str := ⟨#[ixI z.cps.toList i]⟩
def signs (z : PySem.Str) : List PySem.Str := z.cps.toList.map fun c => ⟨#[c]⟩
/-- in order -/
def insI (x : Int) : List Int -> List Int
  | [] => [x]
  | y :: r => cond (decide (x ≤ y)) (x :: y :: r) (y :: insI x r)
def sortI (xs : List Int) : List Int := xs.foldr insI []
theorem insI_perm (x : Int) : forall xs : List Int, (insI x xs).Perm (x :: xs)
  | [] => .refl _
  | y :: r => by
    unfold insI
    cases decide (x ≤ y)
    · exact ((insI_perm x r).cons y).trans (.swap x y r)
    · exact .refl _
theorem sortI_perm : forall xs : List Int, (sortI xs).Perm xs
  | [] => .refl _
  | x :: r => (insI_perm x _).trans ((sortI_perm r).cons x)
theorem insI_sorted (x : Int) : forall xs : List Int, xs.Pairwise (· ≤ ·) -> (insI x xs).Pairwise (· ≤ ·)
  | [], _ => .cons (fun _ h => nomatch h) .nil
  | y :: r, h => by
    unfold insI
    cases hd : decide (x ≤ y)
    · have hxy : y ≤ x := by have := of_decide_eq_false hd; omega
      obtain ⟨h1, h2⟩ := List.pairwise_cons.mp h
      refine .cons (fun z hz => ?_) (insI_sorted x r h2)
      rcases List.mem_cons.mp ((insI_perm x r).mem_iff.mp hz) with rfl | hz
      · exact hxy
      · exact h1 z hz
    · have hxy : x ≤ y := of_decide_eq_true hd
      refine .cons (fun z hz => ?_) h
      rcases List.mem_cons.mp hz with rfl | hz
      · exact hxy
      · exact Int.le_trans hxy ((List.pairwise_cons.mp h).1 z hz)
theorem sortI_sorted : forall xs : List Int, (sortI xs).Pairwise (· ≤ ·)
  | [] => .nil
  | x :: r => insI_sorted x _ (sortI_sorted r)
theorem sorted_one : forall {xs ys : List Int}, xs.Perm ys -> xs.Pairwise (· ≤ ·) -> ys.Pairwise (· ≤ ·) -> xs = ys
  | [], ys, p, _, _ => (List.nil_perm.mp p).symm
  | x :: r, [], p, _, _ => nomatch List.perm_nil.mp p
  | x :: r, y :: r', p, hx, hy => by
    obtain ⟨h1, h2⟩ := List.pairwise_cons.mp hx
    obtain ⟨h3, h4⟩ := List.pairwise_cons.mp hy
    have e : x = y := by
      have m1 := p.mem_iff.mp (List.mem_cons_self (a := x) (l := r))
      have m2 := p.mem_iff.mpr (List.mem_cons_self (a := y) (l := r'))
      rcases List.mem_cons.mp m1 with e | m1
      · exact e
      · rcases List.mem_cons.mp m2 with e | m2
        · exact e.symm
        · exact Int.le_antisymm (h1 _ m2) (h3 _ m1)
    subst e
    rw [sorted_one (List.Perm.cons_inv p) h2 h4]
theorem sorted_is {xs ys : List Int} (p : ys.Perm xs) (h : ys.Pairwise (· ≤ ·)) : ys = sortI xs := sorted_one (p.trans (sortI_perm xs).symm) h (sortI_sorted xs)
theorem sortI_len (xs : List Int) : (sortI xs).length = xs.length := (sortI_perm xs).length_eq
section
variable {K : Fg} {Z : Addr -> Prop} {σ : St} {F H F0 H0 F1 H1 F2 H2 : Hp} {te ta tb tc to : TE} {tt : TT} {t1 t2 u : TS} {D : Ends} {i j l : Nat} {p q : Addr}
theorem op2_cats {x y : PySem.Str} (h : x.length + y.length ≤ 100000) : Op2 K rAddS x y (x ++ y) := fun F H v w s r1 r2 Q q =>
  ⟨x, y, r1, r2, sz h, q F H _ (Gr.refl s) rfl⟩
theorem op2_ixS {z : PySem.Str} {i : Int} (hz : z.length ≤ 100000) (h : InB z.length i) : Op2 K rIxS z i (chI z i) := fun F H v w s r1 r2 Q q =>
  ⟨z, i, ixI z.cps.toList i, r1, r2, sz hz, atI_ix (by rw [Array.length_toList]; exact h), q F H _ (Gr.refl s) rfl⟩
abbrev rStrI : List V -> Hp -> VK -> Prop := fun xs H Q => ∃ i, xs = [.int i] ∧ i.natAbs.log2 < 1920 ∧ Q (.str (toString i)) H
theorem cb_strI {n : Int} (h : n.natAbs.log2 < 1920) : CbV K rStrI (fun F vs => exists v r, vs = v :: r ∧ rp K F n v ∧ r = []) (strI n) := fun F H vs Q s ⟨v, r, e, e2, e4⟩ q => by
  subst e e4
  cases e2
  exact ⟨n, rfl, h, q F H _ (Gr.refl s) rfl⟩
theorem log_small {n : Int} (h1 : -(2 ^ 64) ≤ n) (h2 : n ≤ 2 ^ 64) : n.natAbs.log2 < 1920 := by
  by_cases h0 : n.natAbs = 0
  · rw [h0]; decide
  · have h3 : n.natAbs < 2 ^ 1920 := Nat.lt_of_le_of_lt (show n.natAbs ≤ 2 ^ 64 by omega) (Nat.pow_lt_pow_right (by decide) (by decide))
    exact (Nat.log2_lt h0).mpr h3
theorem cb_strS {z : PySem.Str} : CbV K (fun xs H Q => ∃ a, xs = [.str a] ∧ Q (.str a) H) (fun F vs => exists v r, vs = v :: r ∧ rp K F z v ∧ r = []) z := fun F H vs Q s ⟨v, r, e, e2, e4⟩ q => by
  subst e e4
  cases e2
  exact ⟨z, rfl, q F H _ (Gr.refl s) rfl⟩
theorem tv_bits {n : Int} (h : Tv K to σ H H n) : Tv K (tBits to) σ H H ((Builtin.Int.intBits n : Nat) : Int) := fun F1 H1 g Q q =>
  h F1 H1 g _ fun F2 H2 v g2 r => ⟨n, r, q F2 H2 _ g2 rfl⟩
/-- f'..' -/
def TvJ (ts : List TE) (σ : St) (H : Hp) (ys : List PySem.Str) : Prop := forall H1, Same H H1 -> forall (acc : PySem.Str) (Q : PySem.Str -> Hp -> Prop), acc.length + (ys.map (·.length)).sum ≤ 100000 -> (forall H2, Same H1 H2 -> Q (ys.foldl (· ++ ·) acc) H2) -> tJs ts acc σ H1 Q
theorem app_len (a b : PySem.Str) : (a ++ b).length = a.length + b.length := Array.size_append
theorem tj_nil : TvJ [] σ H [] := fun H1 _ acc Q _ q => q H1 (Same.refl H1)
theorem tj_cons {t : TE} {ts : List TE} {y : PySem.Str} {ys : List PySem.Str} (h : Tv K t σ H H y) (hr : TvJ ts σ H ys) : TvJ (t :: ts) σ H (y :: ys) := fun H1 e acc Q hl q =>
  h H1 H1 (Gr.whole e) _ fun F2 H2 v g r => ⟨y, r, by
    rw [List.map_cons, List.sum_cons] at hl
    rw [app_len]
    exact sz (by omega), hr H2 (e.trans g.keep) (acc ++ y) Q (by rw [List.map_cons, List.sum_cons] at hl; rw [app_len]; omega) fun H3 e3 => q H3 (g.keep.trans e3)⟩
theorem tv_fmtI {n : Int} (h : Tv K te σ H H n) (hn : n.natAbs.log2 < 1920) : Tv K (tFmt te) σ H H (strI n) := fun F1 H1 g Q q =>
  h F1 H1 g _ fun F2 H2 v g2 r => .inr ⟨n, r, hn, q F2 H2 _ g2 rfl⟩
theorem tv_fmtS {z : PySem.Str} (h : Tv K te σ H H z) (hz : z.length ≤ 100000) : Tv K (tFmt te) σ H H z := fun F1 H1 g Q q =>
  h F1 H1 g _ fun F2 H2 v g2 r => .inl ⟨z, r, sz hz, q F2 H2 _ g2 rfl⟩
theorem tv_joined {ts : List TE} {ys : List PySem.Str} (h : TvJ ts σ H ys) (hl : (ys.map (·.length)).sum ≤ 100000) : Tv K (fun σ H Q => tJs ts Str.empty σ H fun out H1 => Q (.str out) H1) σ H H (fj ys) := fun F1 H1 g Q q =>
  h H1 g.keep Str.empty _ (by show 0 + _ ≤ _; omega) fun H2 e => q F1 H2 _ (Gr.up g.sub e) rfl
/-- sep.join(xs) -/
abbrev rJoin (K : Fg) : V -> List V -> Hp -> VK -> Prop := fun x xs H Q => ∃ a p, ∃ ys : List PySem.Str, x = .str a ∧ xs = [.ref p] ∧ (SqL K H p (ys.map V.str) ∨ SqT K H p (ys.map V.str)) ∧
    (ys.map (·.length)).sum + ys.length * a.length ≤ 16777216 ∧ Q (.str (Txt.join a ys)) H
theorem tv_join {a : PySem.Str} {ys : List PySem.Str} (ha : Tv K ta σ H H a) (hb : Tv K tb σ H H ys) (hl : (ys.map (·.length)).sum + ys.length * a.length ≤ 16777216) : Tv K (tM1 (rJoin K) ta tb) σ H H (Txt.join a ys) := fun F1 H1 g Q q =>
  ha F1 H1 g _ fun F2 H2 v g2 r1 => ⟨⟨a, r1⟩, hb F2 H2 (g.trans g2) _ fun F3 H3 w g3 ⟨b, vs, e, e2, rr⟩ => by
    have ev := rps_flat rr
    subst ev
    subst e
    exact ⟨a, b, ys, r1, rfl, .inl (SqL.of (g3.sub b _ e2)), hl, q F3 H3 _ (g2.trans g3) rfl⟩⟩
theorem join_mK {X : Cx} (K : Fg) (h : X.K = K := by rfl) : MtR X "str.join" (rJoin K) := h ▸ mt_join
/-- list(range(n)) -/
theorem tl_listRg {n : Int} (h : Tv K ta σ H H n) (h0 : -(2 ^ 62) ≤ n) (hn : n ≤ 100000) : TvL K (tLstRg (tRg1 ta)) σ F H (rng 0 n.toNat) := fun F1 H1 g Q q =>
  h H1 H1 (Gr.whole g.keep) _ fun F2 H2 v g2 r => ⟨n, r, ⟨by omega, by omega, by omega, by omega, by omega⟩, fun p hp => q F1 _ p ((Gr.up g.sub g2.keep).trans (Gr.put (g.sub.trans g2.keep) hp)) (none_of g2.keep hp)
    ⟨none_of (g.sub.trans g2.keep) hp, _, upd_same, by
      have e : rgV 0 n = (rng 0 n.toNat).map (Flat.val (α := Int)) := by
        unfold rgV rng
        rw [List.map_map, Int.sub_zero]
        rfl
      rw [e]
      exact rps_of _⟩⟩
/-- sorted, ints -/
theorem sortedK {X : Cx} (K : Fg) (h : X.K = K := by rfl) : CallR X (.builtin "sorted") (rSortedI K) := h ▸ cr_sortedI
theorem cl_sorted {xs : List Int} : CbL K (rSortedI K) (fun F vs => exists v r, vs = v :: r ∧ rp K F xs v ∧ r = []) (sortI xs) := fun F H vs Q s ⟨v, r, e, ⟨a, ws, e2, e3, r2⟩, e4⟩ q => by
  subst e e2 e4
  have ev := rps_flat r2
  subst ev
  refine ⟨a, xs, rfl, SqL.of (s a _ e3), fun ns' p hp hs hn => ?_⟩
  rw [sorted_is hp hs]
  exact q F _ p (Gr.put s hn) hn ⟨none_of s hn, _, upd_same, rps_of _⟩
theorem tl_sortedM {xs : List Int} (e : σ[i]? = some (some (.ref p))) (m : MutL K F H p xs) : TvL K (tCB (rSortedI K) (tCons (tVar i) tNil)) σ F H (sortI xs) := fun F1 H1 g Q q => by
  obtain ⟨f, vs, e1, r⟩ := m.go g
  have ev := rps_flat r
  subst ev
  refine ⟨.ref p, e, p, xs, rfl, SqL.of e1, fun ns' l hp hs hn => ?_⟩
  rw [sorted_is hp hs]
  exact q F1 _ l (Gr.put g.sub hn) hn ⟨none_of g.sub hn, _, upd_same, rps_of _⟩
/-- xs.append(ys.pop(n)) -/
def popI {α : Type} (xs : List α) (n : Int) : List α := xs.eraseIdx (if n < 0 then n + xs.length else n).toNat
theorem popI_len {α : Type} {xs : List α} {n : Int} (h : InB xs.length n) : (popI xs n).length + 1 = xs.length := by
  obtain ⟨h1, h2⟩ := h
  unfold popI
  rw [List.length_eraseIdx_of_lt]
  · omega
  · split <;> omega
theorem rps_erase [Rep α] : forall (n : Nat) {xs : List α} {vs : List V}, Rps K F xs vs -> Rps K F (xs.eraseIdx n) (vs.eraseIdx n)
  | _, _, _, .nil => .nil
  | 0, _, _, .cons _ t => t
  | n + 1, _, _, .cons r t => .cons r (rps_erase n t)
theorem pop_at {n : Int} {m : Nat} (h : InB m n) : seqIndex? n m = some (if n < 0 then n + m else n).toNat := by
  obtain ⟨h1, h2⟩ := h
  unfold seqIndex?
  by_cases h0 : n < 0
  · simp only [h0, if_true]
    rw [decide_eq_true (show 0 ≤ n + (m : Int) by omega), decide_eq_true (show n + (m : Int) < m by omega)]
    rfl
  · simp only [h0, if_false]
    rw [decide_eq_true (show 0 ≤ n by omega), decide_eq_true (show n < (m : Int) by omega)]
    rfl
theorem ix_pop {α : Type} [Inhabited α] {xs : List α} {n : Int} (h : InB xs.length n) : xs[(if n < 0 then n + xs.length else n).toNat]? = some (ixI xs n) := by
  have h1 := atI_ix h
  obtain ⟨h2, h3⟩ := h
  unfold atI ixN at h1
  by_cases h0 : 0 ≤ n
  · rw [if_pos h0, if_pos h3] at h1
    rw [if_neg (by omega)]
    exact h1
  · rw [if_neg h0, if_pos h2] at h1
    rw [if_pos (by omega)]
    exact h1
theorem q_appPop [Rep α] [Inhabited α] {β : Type} {P : β -> Prop} {xs ys : List α} {n : Int} {k : List α -> List α -> β} (hP : P (lt2 (xs ++ [ixI ys n], popI ys n) k)) (s : Same F H) (m : MutL K F H p xs) (m2 : MutL K F H q ys) (hpq : q ≠ p)
    (hi : σ[i]? = some (some (.ref p))) (hj : σ[j]? = some (some (.ref q))) (hn : Tv K te σ H H n) (hl : xs.length < 100000) (h1 : InB ys.length n) (h2 : ys.length ≤ 100000)
    (nxt : forall zs ws F1 H1 H2, zs = xs ++ [ixI ys n] -> ws = popI ys n -> Md q F H F1 H1 -> Md p F1 H1 F1 H2 -> MutL K F1 H2 p zs -> MutL K F1 H2 q ws -> P (k zs ws) -> u D σ H2) :
    tSeq (tDrop (tBM K "list" rAppend (tVar i) (tCons (tBM K "list" rPopAt (tVar j) (tCons te tNil)) tNil))) u D σ H := by
  obtain ⟨f, vs, e, r⟩ := id m
  obtain ⟨f', vs', e', r'⟩ := id m2
  refine ⟨.ref p, hi, .inl ⟨rfl, vs, SqL.of e⟩, .ref q, hj, .inl ⟨rfl, vs', SqL.of e'⟩, hn H H (Gr.self H) _ fun F2 H2 v g rv => ?_⟩
  have g' : Gr F H F H2 := Gr.up s g.keep
  obtain ⟨f3, vs3, e3, r3⟩ := id (m2.go g')
  obtain ⟨y, hy, ry⟩ := rps_at r3 (ix_pop h1)
  have hm1 : Md q F H F (upd H2 q (.lst (vs3.eraseIdx (if n < 0 then n + (ys.length : Int) else n).toNat))) := Md.of m2 g'
  obtain ⟨f4, vs4, e4, r4⟩ := id (m.md (fun z => hpq z.symm) hm1)
  have hb := h1
  obtain ⟨hb1, hb2⟩ := hb
  refine ⟨q, vs3, n, _, y, rfl, by rw [show v = V.int n from rv], e3, by omega, by omega, by rw [wk_len r3]; exact pop_at h1, hy, p, vs4, y, rfl, rfl, e4, by rw [wk_len r4]; exact szl hl, ?_⟩
  have hm2 : Md p F (upd H2 q (.lst (vs3.eraseIdx (if n < 0 then n + (ys.length : Int) else n).toNat))) F (upd (upd H2 q (.lst (vs3.eraseIdx (if n < 0 then n + (ys.length : Int) else n).toNat))) p (.lst (vs4 ++ [y]))) :=
    Md.of (m.md (fun z => hpq z.symm) hm1) (Gr.refl hm1.sub)
  refine nxt _ _ F _ _ rfl rfl hm1 hm2 ⟨f4, _, upd_same, rps_app r4 (.cons ry .nil)⟩ ⟨f3, _, by rw [upd_ne hpq]; exact upd_same, rps_erase _ r3⟩ ?_
  rw [lt2_eq] at hP
  exact hP
/-! ### lengths, codes -/
theorem strI_len {n : Int} (h : n.natAbs.log2 < 1920) : (strI n).length ≤ 1921 := int_text_len_1921 h
theorem ok_char (d : Char) : d.toNat < 0x110000 := by
  have h := d.valid
  unfold UInt32.isValidChar Nat.isValidChar at h
  show d.val.toNat < _
  omega
theorem ok_str (s : String) : PyData.strOk (Str.ofString s) = true := by
  rw [Str.ofString_eq_toList]
  unfold PyData.strOk
  rw [← Array.all_toList, List.all_eq_true]
  intro c hc
  obtain ⟨d, _, rfl⟩ := List.mem_map.mp hc
  exact decide_eq_true (ok_char d)
theorem ok_app {a b : PySem.Str} (h1 : PyData.strOk a = true) (h2 : PyData.strOk b = true) : PyData.strOk (a ++ b) = true := by
  obtain ⟨⟨a⟩⟩ := a
  obtain ⟨⟨b⟩⟩ := b
  show (Array.all (⟨a⟩ ++ ⟨b⟩) _) = true
  rw [Array.all_append]
  exact Bool.and_eq_true_iff.mpr ⟨h1, h2⟩
/-! ### a text's signs -/
theorem signs_at {z : PySem.Str} {i c : Nat} (h : z.cps[i]? = some c) : (signs z)[i]? = some ⟨#[c]⟩ := by
  unfold signs
  rw [List.getElem?_map, Array.getElem?_toList, h]
  rfl
theorem signs_len (z : PySem.Str) : (signs z).length = z.cps.size := by simp [signs]
theorem wk_str {z : PySem.Str} : Wk K (Its z) F ST (signs z) where
  go := fun i G H s s1 _ h => by rw [signs_len] at h; exact h
  stop := fun i G H s s1 _ h => by rw [signs_len] at h; exact h
  yld := fun i H F3 v H' s s3 _ y h => by
    obtain ⟨rfl, c, hc, rfl⟩ := y
    exact ⟨F3, Gr.refl s3, fun x hx => by rw [signs_at hc] at hx; cases hx; rfl⟩
theorem it_str {z : PySem.Str} (h : Tv K te σ H H z) : Itr K (iStr te) σ F H ST (signs z) := fun F1 H1 g R q =>
  h H1 H1 (Gr.whole g.keep) _ fun F2 H2 v g2 r => ⟨z, r, q _ F1 H2 (Gr.up g.sub g2.keep) wk_str⟩
/-- x in z, x one sign -/
def inS (x z : PySem.Str) : Bool := decide (ixI x.cps.toList 0 ∈ z.cps.toList)
theorem op2_inS {x z : PySem.Str} (h : x.length = 1) : Op2 K (fun x y H Q => ∃ (c : Nat) (z : PySem.Str), x = .str ⟨#[c]⟩ ∧ y = .str z ∧ Q (.bl (decide (c ∈ z.cps.toList))) H) x z (inS x z) := fun F H v w s r1 r2 Q q => by
  obtain ⟨⟨l⟩⟩ := x
  match l, h with
  | [c], _ => exact ⟨c, z, r1, r2, q F H _ (Gr.refl s) rfl⟩
end
end Rf

set_option Elab.async false
set_option linter.all false
set_option maxRecDepth 100000
set_option maxHeartbeats 400000000
namespace Th
open PySem PySem.Spec PyProof.Rows L2 Rf
open Rep (rp)
def top (i : Nat) : Stmt := PySem.Challenge.pw_threeroofs_k74_rows_of_a_weaving.main.body.getD i (.Pass ⟨0, 0, 0, 0⟩)
structure Bs (mg : PySem.Str → Option Value) : Prop where
  b_int : mg "int" = none
  b_isinstance : mg "isinstance" = none
  b_bool : mg "bool" = none
  b_len : mg "len" = none
  b_range : mg "range" = none
  b_str : mg "str" = none
  b_list : mg "list" = none
  b_sorted : mg "sorted" = none
  c_NAMES : ∃ t, mg "NAMES" = some (Value.str "abcde" t)
def m_is_whole (thing : Int) : Bool := (true && (!false))
abbrev s_is_whole : Stmt := top 4
def sp_is_whole (K : Fg) : Sp := fun vs H Q _ => ∃ (F : Hp) (thing : Int) (w0 : V), vs = [w0] ∧ Same F H ∧ rp K F thing w0 ∧ Ret K Z0 F H Q (m_is_whole thing)
theorem sv_is_whole {K : Fg} {thing : Int} : SpV K (sp_is_whole K) (fun (F : Hp) (vs : List V) => ∃ v r, vs = v :: r ∧ rp K F thing v ∧ (fun (_ : Hp) (vs : List V) => vs = []) F r) (m_is_whole thing) := by
  intro F H vs Q E s h hQ
  obtain ⟨v0, r0, e0, h0, h⟩ := h
  subst h
  subst e0
  exact ⟨F, thing, v0, rfl, s, h0, fun F' H' p g r => hQ F' H' p g.gr r⟩
theorem sc_is_whole : FnScope ["thing"] ["thing"] (defScope s_is_whole) := ⟨rfl, rfl, rfl, by decide +kernel, rfl, by decide +kernel, by decide +kernel⟩
theorem ok_is_whole {P : Program} {w : World} {K : Fg} {mg : PySem.Str → Option Value} {base : Heap} (B : Bs mg) {f : Addr} {fd : FuncData} (F : FnP K "is_whole" s_is_whole f fd) : FnOk P w K mg base CX0 1 f fd ["thing"] (sp_is_whole K) := by
  have nd : (["thing"] : List PySem.Str).Nodup := sc_is_whole.nd
  refine F.ok sc_is_whole (fun vs H Q E h => ?_) (fun cdv A outer s H0 vs Q E hr h => ?_)
  · obtain ⟨F0, thing, w0, rfl, s, hw0, hP⟩ := h
    rfl
  · obtain ⟨F0, thing, w0, rfl, s, hw0, hP⟩ := h
    obtain rfl := Flat.is hw0
    have g : GrZ Z0 F0 H0 F0 H0 := GrZ.refl s
    refine ⟨_, PSs.nox (by exact (pss_cons (ps_ret (pe_and (pe_callB (isiK K) (by rfl) B.b_isinstance (by decide +kernel) (pa_cons (pv 0) (pa_cons (pe_bltn (v := .ty "int") (by rfl) B.b_int (by decide +kernel) rfl) pa_nil))) (pe_one (pe_not (pe_callB (isiK K) (by rfl) B.b_isinstance (by decide +kernel) (pa_cons (pv 0) (pa_cons (pe_bltn (v := .ty "bool") (by rfl) B.b_bool (by decide +kernel) rfl) pa_nil))))))) pss_nil)), ?_⟩
    exact q_retF hP g (tv_and (tv_isi (α := Int) (n := "int") (c := "int") (b := true) (tv_var rfl (Flat.of _)) (by decide +kernel)) (fun hq1 => (tv_not (tv_isi (α := Int) (n := "int") (c := "bool") (b := false) (tv_var rfl (Flat.of _)) (by decide +kernel)))))
def m_need_counts (copies : Int) (reads : Int) (writes : Int) : Unit := (fin (run (R := Unit) (fun (st : Unit) (count : Int) => (cond ((!(m_is_whole count)) || (decide (count < (1 : Int)))) (Fl.rt default) (Fl.nx ()))) () ([copies, reads, writes] : List Int)) (fun r => r) (fun (_ : Unit) => (cond ((decide (copies > (("abcde" : PySem.Str).length : Int))) || ((decide (reads > copies)) || (decide (writes > copies)))) default ())))
abbrev s_need_counts : Stmt := top 7
def sp_need_counts (K : Fg) : Sp := fun vs H Q _ => ∃ (F : Hp) (copies : Int) (reads : Int) (writes : Int) (w0 : V) (w1 : V) (w2 : V), vs = [w0, w1, w2] ∧ Same F H ∧ rp K F copies w0 ∧ rp K F reads w1 ∧ rp K F writes w2 ∧ (1 ≤ copies ∧ copies ≤ 5 ∧ 1 ≤ reads ∧ reads ≤ copies ∧ 1 ≤ writes ∧ writes ≤ copies) ∧ Ret K Z0 F H Q (m_need_counts copies reads writes)
theorem sv_need_counts {K : Fg} {copies : Int} {reads : Int} {writes : Int} (hpre : 1 ≤ copies ∧ copies ≤ 5 ∧ 1 ≤ reads ∧ reads ≤ copies ∧ 1 ≤ writes ∧ writes ≤ copies) : SpV K (sp_need_counts K) (fun (F : Hp) (vs : List V) => ∃ v r, vs = v :: r ∧ rp K F copies v ∧ (fun (F : Hp) (vs : List V) => ∃ v r, vs = v :: r ∧ rp K F reads v ∧ (fun (F : Hp) (vs : List V) => ∃ v r, vs = v :: r ∧ rp K F writes v ∧ (fun (_ : Hp) (vs : List V) => vs = []) F r) F r) F r) (m_need_counts copies reads writes) := by
  intro F H vs Q E s h hQ
  obtain ⟨v0, r0, e0, h0, h⟩ := h
  obtain ⟨v1, r1, e1, h1, h⟩ := h
  obtain ⟨v2, r2, e2, h2, h⟩ := h
  subst h
  subst e2
  subst e1
  subst e0
  exact ⟨F, copies, reads, writes, v0, v1, v2, rfl, s, h0, h1, h2, hpre, fun F' H' p g r => hQ F' H' p g.gr r⟩
theorem sc_need_counts : FnScope ["copies", "reads", "writes", "count"] ["copies", "reads", "writes"] (defScope s_need_counts) := ⟨rfl, rfl, rfl, by decide +kernel, rfl, by decide +kernel, by decide +kernel⟩
theorem ok_need_counts {P : Program} {w : World} {K : Fg} {mg : PySem.Str → Option Value} {base : Heap} (B : Bs mg) (D_is_whole : Dn P w K mg base CX0 "is_whole" 1 ["thing"] (sp_is_whole K)) {f : Addr} {fd : FuncData} (F : FnP K "need_counts" s_need_counts f fd) : FnOk P w K mg base CX0 2 f fd ["copies", "reads", "writes"] (sp_need_counts K) := by
  obtain ⟨f_is_whole, d_is_whole, G_is_whole, g_is_whole, k_is_whole, b_is_whole⟩ := D_is_whole
  obtain ⟨t_NAMES, c_NAMES⟩ := B.c_NAMES
  have nd : (["copies", "reads", "writes", "count"] : List PySem.Str).Nodup := sc_need_counts.nd
  refine F.ok sc_need_counts (fun vs H Q E h => ?_) (fun cdv A outer s H0 vs Q E hr h => ?_)
  · obtain ⟨F0, copies, reads, writes, w0, w1, w2, rfl, s, hw0, hw1, hw2, hpre, hP⟩ := h
    rfl
  · obtain ⟨F0, copies, reads, writes, w0, w1, w2, rfl, s, hw0, hw1, hw2, hpre, hP⟩ := h
    obtain rfl := Flat.is hw0
    obtain rfl := Flat.is hw1
    obtain rfl := Flat.is hw2
    have hN : ((("abcde" : PySem.Str).length : Nat) : Int) = 5 := by decide +kernel
    have g : GrZ Z0 F0 H0 F0 H0 := GrZ.refl s
    refine ⟨_, PSs.nox (by exact (pss_cons (ps_for PassesOwn.never rfl (pi_listK K (pe_lst (pa_cons (pv 0) (pa_cons (pv 1) (pa_cons (pv 2) pa_nil))))) (pg_name (i := 3) nd rfl (Or.inl rfl)) (pss_cons (ps_if (PW.pt (pw_or (pt_not (pt_val (pe_call G_is_whole (hr.mono (by omega)) rfl g_is_whole k_is_whole b_is_whole .nil pass0 (pa_cons (pv 3) pa_nil)))) (pw_or1 (pt_cmpR op_lt (pv 3) pe_int (nomark _))))) (pss_cons ps_never pss_nil) pss_nil) pss_nil)) (pss_cons (ps_if (PW.pt (pw_or (pt_cmpR op_gt (pv 0) (pe_callB call_len_str (by rfl) B.b_len (by decide +kernel) (pa_cons (pe_glob (v := .str "abcde") rfl c_NAMES ⟨_, rfl⟩) pa_nil)) (nomark _)) (pw_or (pt_cmpR op_gt (pv 1) (pv 0) (nomark _)) (pw_or1 (pt_cmpR op_gt (pv 2) (pv 0) (nomark _)))))) (pss_cons ps_never pss_nil) pss_nil) pss_nil))), ?_⟩
    refine q_for (K := K) (P := (Ret K Z0 F0 H0 Q)) (fun (i : Nat) F H σ st => ∃ (ew_count : Option V), σ = [some (Flat.val copies), some (Flat.val reads), some (Flat.val writes), ew_count] ∧ GrZ Z0 F0 H0 F H) hP s (it_list (K := K) (TvL.tv (tl_lst (ta_rcons (tv_flat (tv_var rfl (Flat.of _))) (ta_rcons (tv_flat (tv_var rfl (Flat.of _))) (ta_rcons (tv_flat (tv_var rfl (Flat.of _))) ta_rnil))) (by show 3 ≤ 100000; decide)))) stb_t ⟨_, rfl, g⟩ (fun i F1 H1 σ1 st h => (by obtain ⟨_, _, gq⟩ := h; exact ⟨gq.sub, trivial⟩)) ?_ ?_
    · rintro i1 count ⟨⟩ Fa1 Ha1 Fl1 Hl1 σ1 vt1 Nl1 Bl1 Pl1 hx1 hr1 fa1 ⟨wj1_3, rfl, g⟩ gl1 hv1 hP hN1 hB1 hR1
      have s := gl1.sub
      have g := g.then gl1
      have sml1 := Same.refl Fl1
      have hil1 := (List.getElem?_eq_some_iff.mp hx1).1
      obtain rfl := Flat.is hv1
      refine g_name ?_
      refine q_if (P := Pl1) hP (tt_or (tt_not (tt_B (K := K) (tv_call (ta_cons (tv_var rfl (Flat.of _)) ta_nil) (sv_is_whole )))) (fun hq2 => (tt_test (K := K) (tv_op (tv_var rfl (Flat.of _)) tv_int op2_lt)))) ?_ ?_
      · intro hc4 H4 e4 hP
        have s := s.trans e4
        have g := g.grow e4
        exact False.elim (by /- 1 never -/ (have hq : count = copies ∨ count = reads ∨ count = writes := by (have := List.mem_of_getElem? hx1; simpa using this)); (simp only [m_is_whole, Bool.or_eq_true, decide_eq_true_eq, Bool.not_eq_true', Bool.not_false, Bool.and_true, Bool.and_self] at hc4); (first | omega | (simp at hc4; omega)))
      · intro hc4 H4 e4 hP
        first | refine q_endS ?_ | refine q_endC ?_ | refine q_end ?_
        have s := s.trans e4
        have g := g.grow e4
        first | refine q_endS ?_ | refine q_endC ?_ | refine q_end ?_
        exact hN1 _ hP _ _ _ sml1 ⟨_, rfl, g⟩
    · rintro i5 Fa5 Ha5 Fe5 He5 σ5 ⟨⟩ hi5 hrun5 fa5 ⟨wj5_3, rfl, g⟩ gl5 hP
      have s := gl5.sub
      have g := g.then gl5
      refine q_if (P := (Ret K Z0 F0 H0 Q)) hP (tt_or (tt_test (K := K) (tv_op (tv_var rfl (Flat.of _)) (tv_cb (ta_cons tv_str ta_nil) (cb_lenS (by /- 2 strlen1 -/ first | decide +kernel | omega))) op2_gt)) (fun hq6 => (tt_or (tt_test (K := K) (tv_op (tv_var rfl (Flat.of _)) (tv_var rfl (Flat.of _)) op2_gt)) (fun hq7 => (tt_test (K := K) (tv_op (tv_var rfl (Flat.of _)) (tv_var rfl (Flat.of _)) op2_gt)))))) ?_ ?_
      · intro hc9 H9 e9 hP
        have s := s.trans e9
        have g := g.grow e9
        exact False.elim (by /- 3 never -/ first | (first | decide | assumption | omega) | ((try simp only [decide_eq_true_eq, decide_eq_false_iff_not, Bool.not_eq_true', Bool.not_eq_false', Bool.and_eq_true, Bool.and_eq_false_iff, Bool.or_eq_true, Bool.or_eq_false_iff] at hc9); (first | decide | assumption | omega)))
      · intro hc9 H9 e9 hP
        first | refine q_endS ?_ | refine q_endC ?_ | refine q_end ?_
        have s := s.trans e9
        have g := g.grow e9
        first | refine q_endS ?_ | refine q_endC ?_ | refine q_end ?_
        exact hP _ _ _ g rfl
theorem bits_small : ∀ n : _root_.Fin 32, Builtin.Int.intBits (n.val : Int) ≤ 5 := by decide +kernel
theorem bits_ok {n : Int} (h : 0 ≤ n ∧ n < 32) : Builtin.Int.intBits n ≤ 5 := by
  have := bits_small ⟨n.toNat, by omega⟩
  have e : ((n.toNat : Nat) : Int) = n := by omega
  rw [← e]; exact this
def m_homes_in (some' : Int) : (List Int) := (lc (rng 0 (((Builtin.Int.intBits some' : Nat) : Int)).toNat) (fun (at' : Int) => (decide ((Builtin.bitAnd (some' / 2 ^ (at').toNat) (1 : Int)) = (1 : Int)))) (fun (at' : Int) => at'))
theorem hin_small : ∀ n : _root_.Fin 32, (m_homes_in (n.val : Int)).length ≤ 5 ∧ ∀ x ∈ m_homes_in (n.val : Int), 0 ≤ x ∧ x ≤ 4 := by decide +kernel
theorem hin_ok {n : Int} (h : 0 ≤ n ∧ n < 32) : (m_homes_in n).length ≤ 5 ∧ ∀ x ∈ m_homes_in n, 0 ≤ x ∧ x ≤ 4 := by
  have := hin_small ⟨n.toNat, by omega⟩
  have e : ((n.toNat : Nat) : Int) = n := by omega
  rw [← e]; exact this
abbrev s_homes_in : Stmt := top 8
def sp_homes_in (K : Fg) : Sp := fun vs H Q _ => ∃ (F : Hp) (some' : Int) (w0 : V), vs = [w0] ∧ Same F H ∧ rp K F some' w0 ∧ (0 ≤ some' ∧ some' < 32) ∧ RetL K Z0 F H Q (m_homes_in some')
theorem sv_homes_in {K : Fg} {some' : Int} (hpre : 0 ≤ some' ∧ some' < 32) : SpL K (sp_homes_in K) (fun (F : Hp) (vs : List V) => ∃ v r, vs = v :: r ∧ rp K F some' v ∧ (fun (_ : Hp) (vs : List V) => vs = []) F r) (m_homes_in some') := by
  intro F H vs Q E s h hQ
  obtain ⟨v0, r0, e0, h0, h⟩ := h
  subst h
  subst e0
  exact ⟨F, some', v0, rfl, s, h0, hpre, fun F' H' p g n m => hQ F' H' p g.gr n m⟩
theorem sc_homes_in : FnScope ["some", "at"] ["some"] (defScope s_homes_in) := ⟨rfl, rfl, rfl, by decide +kernel, rfl, by decide +kernel, by decide +kernel⟩
theorem ok_homes_in {P : Program} {w : World} {K : Fg} {mg : PySem.Str → Option Value} {base : Heap} (B : Bs mg) {f : Addr} {fd : FuncData} (F : FnP K "homes_in" s_homes_in f fd) : FnOk P w K mg base CX0 1 f fd ["some"] (sp_homes_in K) := by
  have nd : (["some", "at"] : List PySem.Str).Nodup := sc_homes_in.nd
  refine F.ok sc_homes_in (fun vs H Q E h => ?_) (fun cdv A outer s H0 vs Q E hr h => ?_)
  · obtain ⟨F0, some', w0, rfl, s, hw0, hpre, hP⟩ := h
    rfl
  · obtain ⟨F0, some', w0, rfl, s, hw0, hpre, hP⟩ := h
    obtain rfl := Flat.is hw0
    have hb := bits_ok hpre
    have g : GrZ Z0 F0 H0 F0 H0 := GrZ.refl s
    refine ⟨_, PSs.nox (by exact (pss_cons (ps_ret (pe_lc (own := [("at", 1)]) (g := gName 1) (tt := _) rfl nd (pi_range1 rfl B.b_range (pa_cons (pe_bits (pv 0)) pa_nil)) (blkOk_by (own := [("at", 1)]) (N := ["some", "at"]) (sc := defScope s_homes_in) (by decide +kernel)) (fun _ _ _ _ _ => pg_name (i := 1) nd rfl (Or.inl rfl)) (fun _ _ _ _ _ => (pts_one (pt_cmpR op_eq (pe_op op_and (pe_op op_shr (pv 0) (pv 1)) pe_int) pe_int (nomark _)))) (fun _ _ _ _ _ => (pv 1)))) pss_nil)), ?_⟩
    exact q_retL hP g (tl_lc (fun (at' : Int) => (decide ((Builtin.bitAnd (some' / 2 ^ (at').toNat) (1 : Int)) = (1 : Int)))) (fun (at' : Int) => at') (it_range1 (K := K) (tv_bits (tv_var rfl (Flat.of _))) (by /- 1 rlo -/ omega) (by /- 2 rhi -/ omega)) stb_t trivial (by /- 4 lclen -/ first | (simp only [rng_len]; omega) | omega) (fun i1 at' v1 F1 H1 hx1 gr1 hv1 R1 k1 => g_nameF hv1 fun _ =>  (k1 _ rfl ((tt_test (K := K) (tv_op (tv_op (tv_op (tv_var rfl (Flat.of _)) (tv_var rfl (Flat.of _)) (op2_shr (by /- 3 nn -/ first | (first | decide | omega) | (have hr_hx1 := rng_at hx1; (first | decide | omega))))) tv_int op2_band) tv_int op2_eqI))) (fun H1' e1 hcl1 => (tv_flat (tv_var rfl (Flat.of _)))))))
def m_bring_rows (numbers : (List Int)) : (List PySem.Str) := (lc numbers (fun (number : Int) => true) (fun (number : Int) => (("bring " : PySem.Str) ++ (strI number))))
theorem bring_len (xs : List Int) : (m_bring_rows xs).length = xs.length := by
  unfold m_bring_rows
  exact lc_true_len _ _
theorem lc_shift {xs : List Int} {d lo hi : Int} (h : ∀ x ∈ xs, lo ≤ x ∧ x ≤ hi) : ∀ x ∈ lc xs (fun _ => true) (fun at' => d + at'), d + lo ≤ x ∧ x ≤ d + hi := by
  intro x hx
  unfold lc at hx
  obtain ⟨y, hy, rfl⟩ := List.mem_map.mp hx
  have := h y (List.mem_filter.mp hy).1
  omega
theorem rng_mem {n : Nat} : ∀ x ∈ rng 0 n, 0 ≤ x ∧ x ≤ (n : Int) - 1 := by
  intro x hx
  obtain ⟨i, hi, e⟩ := List.getElem_of_mem hx
  have := rng_at (show (rng 0 n)[i]? = some x by rw [List.getElem?_eq_getElem hi, e])
  omega
abbrev s_bring_rows : Stmt := top 9
def sp_bring_rows (K : Fg) : Sp := fun vs H Q _ => ∃ (F : Hp) (numbers : (List Int)) (w0 : V), vs = [w0] ∧ Same F H ∧ rp K F numbers w0 ∧ (numbers.length ≤ 100 ∧ ∀ x ∈ numbers, 0 ≤ x ∧ x ≤ 1000) ∧ RetL K Z0 F H Q (m_bring_rows numbers)
theorem sv_bring_rows {K : Fg} {numbers : (List Int)} (hpre : numbers.length ≤ 100 ∧ ∀ x ∈ numbers, 0 ≤ x ∧ x ≤ 1000) : SpL K (sp_bring_rows K) (fun (F : Hp) (vs : List V) => ∃ v r, vs = v :: r ∧ rp K F numbers v ∧ (fun (_ : Hp) (vs : List V) => vs = []) F r) (m_bring_rows numbers) := by
  intro F H vs Q E s h hQ
  obtain ⟨v0, r0, e0, h0, h⟩ := h
  subst h
  subst e0
  exact ⟨F, numbers, v0, rfl, s, h0, hpre, fun F' H' p g n m => hQ F' H' p g.gr n m⟩
theorem sc_bring_rows : FnScope ["numbers", "number"] ["numbers"] (defScope s_bring_rows) := ⟨rfl, rfl, rfl, by decide +kernel, rfl, by decide +kernel, by decide +kernel⟩
theorem ok_bring_rows {P : Program} {w : World} {K : Fg} {mg : PySem.Str → Option Value} {base : Heap} (B : Bs mg) {f : Addr} {fd : FuncData} (F : FnP K "bring_rows" s_bring_rows f fd) : FnOk P w K mg base CX0 1 f fd ["numbers"] (sp_bring_rows K) := by
  have nd : (["numbers", "number"] : List PySem.Str).Nodup := sc_bring_rows.nd
  refine F.ok sc_bring_rows (fun vs H Q E h => ?_) (fun cdv A outer s H0 vs Q E hr h => ?_)
  · obtain ⟨F0, numbers, vp_0, rfl, s, hp_0, hpre, hP⟩ := h
    rfl
  · obtain ⟨F0, numbers, vp_0, rfl, s, hp_0, hpre, hP⟩ := h
    have g : GrZ Z0 F0 H0 F0 H0 := GrZ.refl s
    refine ⟨_, PSs.nox (by exact (pss_cons (ps_ret (pe_lc (own := [("number", 1)]) (g := gName 1) (tt := _) rfl nd (pi_listK K (pv 0)) (blkOk_by (own := [("number", 1)]) (N := ["numbers", "number"]) (sc := defScope s_bring_rows) (by decide +kernel)) (fun _ _ _ _ _ => pg_name (i := 1) nd rfl (Or.inl rfl)) (fun _ _ _ _ _ => pts_nil) (fun _ _ _ _ _ => (pe_op op_add_str pe_str (pe_callTy call_str_int (by rfl) B.b_str (by decide +kernel) (pa_cons (pv 1) pa_nil)))))) pss_nil)), ?_⟩
    exact q_retL hP g (tl_lc (fun (number : Int) => true) (fun (number : Int) => (("bring " : PySem.Str) ++ (strI number))) (it_list (K := K) (tv_var rfl hp_0)) stb_t trivial (by /- 3 lclen -/ first | (simp only [rng_len]; omega) | omega) (fun i1 number v1 F1 H1 hx1 gr1 hv1 R1 k1 => g_nameF hv1 fun _ =>  (k1 _ rfl (tt_yes) (fun H1' e1 hcl1 => (tv_flat (tv_op tv_str (tv_cb (ta_cons (tv_var rfl (Flat.of _)) ta_nil) (cb_strI (by /- 1 log -/ first | (exact log_small (by omega) (by omega)) | (have hm_hx1 := hpre.2 _ (List.mem_of_getElem? hx1); (try simp only [decide_eq_true_eq, decide_eq_false_iff_not, Bool.not_eq_true', Bool.not_eq_false', Bool.and_eq_true, Bool.and_eq_false_iff, Bool.or_eq_true, Bool.or_eq_false_iff] at hcl1); (exact log_small (by omega) (by omega)))))) (op2_cats (by /- 2 strlen -/ first | ((have : (("bring " : PySem.Str)).length = 6 := by decide +kernel); (have := strI_len (n := number) (log_small (by omega) (by omega))); ((try simp only [app_len, List.map_cons, List.map_nil, List.sum_cons, List.sum_nil, List.length_cons, List.length_nil]); omega)) | (have hm_hx1 := hpre.2 _ (List.mem_of_getElem? hx1); (try simp only [decide_eq_true_eq, decide_eq_false_iff_not, Bool.not_eq_true', Bool.not_eq_false', Bool.and_eq_true, Bool.and_eq_false_iff, Bool.or_eq_true, Bool.or_eq_false_iff] at hcl1); ((have : (("bring " : PySem.Str)).length = 6 := by decide +kernel); (have := strI_len (n := number) (log_small (by omega) (by omega))); ((try simp only [app_len, List.map_cons, List.map_nil, List.sum_cons, List.sum_nil, List.length_cons, List.length_nil]); omega)))))))))))
def m_rows_of (copies : Int) (reads : Int) (writes : Int) (weaving : (Int × Int × Int)) : (List PySem.Str) := (ltL3 (lc (ItemsT.its (τ := (Int × Int × Int)) weaving) (fun (some' : Int) => true) (fun (some' : Int) => (m_homes_in some'))) fun (had : (List Int)) (late : (List Int)) (heard : (List Int)) => (lt (lc (rng 0 (copies).toNat) (fun (at' : Int) => true) (fun (at' : Int) => (((("come " : PySem.Str) ++ (chI ("abcde" : PySem.Str) at')) ++ (".a.a " : PySem.Str)) ++ (strI at')))) fun (rows : (List PySem.Str)) => (lt (rows ++ ([(fj [("thing 0 " : PySem.Str), (strI copies), (" " : PySem.Str), (strI reads), (" " : PySem.Str), (strI writes)]), ("write x 0 v" : PySem.Str)] : List PySem.Str)) fun (rows : (List PySem.Str)) => (lt (rows ++ (m_bring_rows (lc had (fun (at' : Int) => true) (fun (at' : Int) => ((1 : Int) + at'))))) fun (rows : (List PySem.Str)) => (lt (rows ++ (m_bring_rows (lc (rng 0 ((had.length : Int)).toNat) (fun (at' : Int) => true) (fun (at' : Int) => ((copies + (1 : Int)) + at'))))) fun (rows : (List PySem.Str)) => (lt ((rows ++ ([("read y 0" : PySem.Str)] : List PySem.Str)) ++ (m_bring_rows (lc late (fun (at' : Int) => true) (fun (at' : Int) => ((1 : Int) + at'))))) fun (rows : (List PySem.Str)) => (lt (copies + (had.length : Int)) fun (queries : Int) => (lt (rows ++ (m_bring_rows (lc heard (fun (at' : Int) => true) (fun (at' : Int) => ((queries + (1 : Int)) + at'))))) fun (rows : (List PySem.Str)) => (lt ((queries + copies) + (late.length : Int)) fun (answers : Int) => (rows ++ (m_bring_rows (lc (rng 0 ((heard.length : Int)).toNat) (fun (at' : Int) => true) (fun (at' : Int) => ((answers + (1 : Int)) + at'))))))))))))))
abbrev s_rows_of : Stmt := top 10
def sp_rows_of (K : Fg) : Sp := fun vs H Q _ => ∃ (F : Hp) (copies : Int) (reads : Int) (writes : Int) (weaving : (Int × Int × Int)) (w0 : V) (w1 : V) (w2 : V) (w3 : V), vs = [w0, w1, w2, w3] ∧ Same F H ∧ rp K F copies w0 ∧ rp K F reads w1 ∧ rp K F writes w2 ∧ rp K F weaving w3 ∧ ((1 ≤ copies ∧ copies ≤ 5 ∧ 1 ≤ reads ∧ reads ≤ copies ∧ 1 ≤ writes ∧ writes ≤ copies) ∧ (0 ≤ weaving.1 ∧ weaving.1 < 32) ∧ (0 ≤ weaving.2.1 ∧ weaving.2.1 < 32) ∧ (0 ≤ weaving.2.2 ∧ weaving.2.2 < 32)) ∧ RetL K Z0 F H Q (m_rows_of copies reads writes weaving)
theorem sv_rows_of {K : Fg} {copies : Int} {reads : Int} {writes : Int} {weaving : (Int × Int × Int)} (hpre : (1 ≤ copies ∧ copies ≤ 5 ∧ 1 ≤ reads ∧ reads ≤ copies ∧ 1 ≤ writes ∧ writes ≤ copies) ∧ (0 ≤ weaving.1 ∧ weaving.1 < 32) ∧ (0 ≤ weaving.2.1 ∧ weaving.2.1 < 32) ∧ (0 ≤ weaving.2.2 ∧ weaving.2.2 < 32)) : SpL K (sp_rows_of K) (fun (F : Hp) (vs : List V) => ∃ v r, vs = v :: r ∧ rp K F copies v ∧ (fun (F : Hp) (vs : List V) => ∃ v r, vs = v :: r ∧ rp K F reads v ∧ (fun (F : Hp) (vs : List V) => ∃ v r, vs = v :: r ∧ rp K F writes v ∧ (fun (F : Hp) (vs : List V) => ∃ v r, vs = v :: r ∧ rp K F weaving v ∧ (fun (_ : Hp) (vs : List V) => vs = []) F r) F r) F r) F r) (m_rows_of copies reads writes weaving) := by
  intro F H vs Q E s h hQ
  obtain ⟨v0, r0, e0, h0, h⟩ := h
  obtain ⟨v1, r1, e1, h1, h⟩ := h
  obtain ⟨v2, r2, e2, h2, h⟩ := h
  obtain ⟨v3, r3, e3, h3, h⟩ := h
  subst h
  subst e3
  subst e2
  subst e1
  subst e0
  exact ⟨F, copies, reads, writes, weaving, v0, v1, v2, v3, rfl, s, h0, h1, h2, h3, hpre, fun F' H' p g n m => hQ F' H' p g.gr n m⟩
theorem sc_rows_of : FnScope ["copies", "reads", "writes", "weaving", "had", "late", "heard", "rows", "queries", "answers", "some", "at"] ["copies", "reads", "writes", "weaving"] (defScope s_rows_of) := ⟨rfl, rfl, rfl, by decide +kernel, rfl, by decide +kernel, by decide +kernel⟩
theorem ok_rows_of {P : Program} {w : World} {K : Fg} {mg : PySem.Str → Option Value} {base : Heap} (B : Bs mg) (D_need_counts : Dn P w K mg base CX0 "need_counts" 2 ["copies", "reads", "writes"] (sp_need_counts K)) (D_homes_in : Dn P w K mg base CX0 "homes_in" 1 ["some"] (sp_homes_in K)) (D_bring_rows : Dn P w K mg base CX0 "bring_rows" 1 ["numbers"] (sp_bring_rows K)) {f : Addr} {fd : FuncData} (F : FnP K "rows_of" s_rows_of f fd) : FnOk P w K mg base CX0 3 f fd ["copies", "reads", "writes", "weaving"] (sp_rows_of K) := by
  obtain ⟨f_need_counts, d_need_counts, G_need_counts, g_need_counts, k_need_counts, b_need_counts⟩ := D_need_counts
  obtain ⟨f_homes_in, d_homes_in, G_homes_in, g_homes_in, k_homes_in, b_homes_in⟩ := D_homes_in
  obtain ⟨f_bring_rows, d_bring_rows, G_bring_rows, g_bring_rows, k_bring_rows, b_bring_rows⟩ := D_bring_rows
  obtain ⟨t_NAMES, c_NAMES⟩ := B.c_NAMES
  have nd : (["copies", "reads", "writes", "weaving", "had", "late", "heard", "rows", "queries", "answers", "some", "at"] : List PySem.Str).Nodup := sc_rows_of.nd
  refine F.ok sc_rows_of (fun vs H Q E h => ?_) (fun cdv A outer s H0 vs Q E hr h => ?_)
  · obtain ⟨F0, copies, reads, writes, weaving, w0, w1, w2, vp_3, rfl, s, hw0, hw1, hw2, hp_3, hpre, hP⟩ := h
    rfl
  · obtain ⟨F0, copies, reads, writes, weaving, w0, w1, w2, vp_3, rfl, s, hw0, hw1, hw2, hp_3, hpre, hP⟩ := h
    obtain rfl := Flat.is hw0
    obtain rfl := Flat.is hw1
    obtain rfl := Flat.is hw2
    have hN : (("abcde" : PySem.Str)).length = 5 := by decide +kernel
    have hh1 := hin_ok hpre.2.1
    have hh2 := hin_ok hpre.2.2.1
    have hh3 := hin_ok hpre.2.2.2
    have g : GrZ Z0 F0 H0 F0 H0 := GrZ.refl s
    refine ⟨_, PSs.nox (by exact (pss_cons (ps_expr (pe_call G_need_counts (hr.mono (by omega)) rfl g_need_counts k_need_counts b_need_counts .nil pass0 (pa_cons (pv 0) (pa_cons (pv 1) (pa_cons (pv 2) pa_nil))))) (pss_cons (ps_asg (pe_lc (own := [("some", 10)]) (g := gName 10) (tt := _) rfl nd (pi_tupK K (pv 3)) (blkOk_by (own := [("some", 10)]) (N := ["copies", "reads", "writes", "weaving", "had", "late", "heard", "rows", "queries", "answers", "some", "at"]) (sc := defScope s_rows_of) (by decide +kernel)) (fun _ _ _ _ _ => pg_name (i := 10) nd rfl (Or.inl rfl)) (fun _ _ _ _ _ => pts_nil) (fun _ _ _ _ _ => (pe_call G_homes_in (hr.mono (by omega)) rfl g_homes_in k_homes_in b_homes_in .nil pass0 (pa_cons (pv 10) pa_nil)))) (pg_lst (by rfl) (pgs_cons (pg_name (i := 4) nd rfl (Or.inl rfl)) (pgs_cons (pg_name (i := 5) nd rfl (Or.inl rfl)) (pgs_cons (pg_name (i := 6) nd rfl (Or.inl rfl)) pgs_nil))))) (pss_cons (ps_setLc (i := 7) (own := [("at", 11)]) (g := gName 11) (tt := _) rfl nd rfl rfl (sw_true rfl rfl rfl (by decide +kernel)) (pi_range1 rfl B.b_range (pa_cons (pv 0) pa_nil)) (blkOk_by (own := [("at", 11)]) (N := ["copies", "reads", "writes", "weaving", "had", "late", "heard", "rows", "queries", "answers", "some", "at"]) (sc := defScope s_rows_of) (by decide +kernel)) (fun _ _ _ _ _ => pg_name (i := 11) nd rfl (Or.inl rfl)) (fun _ _ _ _ _ => pts_nil) (fun _ _ _ _ _ => (pe_op op_add_str (pe_op op_add_str (pe_op op_add_str pe_str (pe_ix ix_str (pe_glob (v := .str "abcde") rfl c_NAMES ⟨_, rfl⟩) (pv 11) (fun _ _ => rfl))) pe_str) (pe_callTy call_str_int (by rfl) B.b_str (by decide +kernel) (pa_cons (pv 11) pa_nil))))) (pss_cons (ps_set (i := 7) nd rfl (Or.inl rfl) (pe_op op_cat (pv 7) (pe_lst (pa_cons (pe_joined (PJ.cons pe_str (PJ.cons (pe_fmt (pv 0)) (PJ.cons pe_str (PJ.cons (pe_fmt (pv 1)) (PJ.cons pe_str (PJ.cons (pe_fmt (pv 2)) PJ.nil))))))) (pa_cons pe_str pa_nil))))) (pss_cons (ps_set (i := 7) nd rfl (Or.inl rfl) (pe_op op_cat (pv 7) (pe_call G_bring_rows (hr.mono (by omega)) rfl g_bring_rows k_bring_rows b_bring_rows .nil pass0 (pa_cons (pe_lc (own := [("at", 11)]) (g := gName 11) (tt := _) rfl nd (pi_listK K (pv 4)) (blkOk_by (own := [("at", 11)]) (N := ["copies", "reads", "writes", "weaving", "had", "late", "heard", "rows", "queries", "answers", "some", "at"]) (sc := defScope s_rows_of) (by decide +kernel)) (fun _ _ _ _ _ => pg_name (i := 11) nd rfl (Or.inl rfl)) (fun _ _ _ _ _ => pts_nil) (fun _ _ _ _ _ => (pe_op op_add pe_int (pv 11)))) pa_nil)))) (pss_cons (ps_set (i := 7) nd rfl (Or.inl rfl) (pe_op op_cat (pv 7) (pe_call G_bring_rows (hr.mono (by omega)) rfl g_bring_rows k_bring_rows b_bring_rows .nil pass0 (pa_cons (pe_lc (own := [("at", 11)]) (g := gName 11) (tt := _) rfl nd (pi_range1 rfl B.b_range (pa_cons (pe_callB (len_seqK K) (by rfl) B.b_len (by decide +kernel) (pa_cons (pv 4) pa_nil)) pa_nil)) (blkOk_by (own := [("at", 11)]) (N := ["copies", "reads", "writes", "weaving", "had", "late", "heard", "rows", "queries", "answers", "some", "at"]) (sc := defScope s_rows_of) (by decide +kernel)) (fun _ _ _ _ _ => pg_name (i := 11) nd rfl (Or.inl rfl)) (fun _ _ _ _ _ => pts_nil) (fun _ _ _ _ _ => (pe_op op_add (pe_op op_add (pv 0) pe_int) (pv 11)))) pa_nil)))) (pss_cons (ps_set (i := 7) nd rfl (Or.inl rfl) (pe_op op_cat (pe_op op_cat (pv 7) (pe_lst (pa_cons pe_str pa_nil))) (pe_call G_bring_rows (hr.mono (by omega)) rfl g_bring_rows k_bring_rows b_bring_rows .nil pass0 (pa_cons (pe_lc (own := [("at", 11)]) (g := gName 11) (tt := _) rfl nd (pi_listK K (pv 5)) (blkOk_by (own := [("at", 11)]) (N := ["copies", "reads", "writes", "weaving", "had", "late", "heard", "rows", "queries", "answers", "some", "at"]) (sc := defScope s_rows_of) (by decide +kernel)) (fun _ _ _ _ _ => pg_name (i := 11) nd rfl (Or.inl rfl)) (fun _ _ _ _ _ => pts_nil) (fun _ _ _ _ _ => (pe_op op_add pe_int (pv 11)))) pa_nil)))) (pss_cons (ps_set (i := 8) nd rfl (Or.inr rfl) (pe_op op_add (pv 0) (pe_callB (len_seqK K) (by rfl) B.b_len (by decide +kernel) (pa_cons (pv 4) pa_nil)))) (pss_cons (ps_set (i := 7) nd rfl (Or.inl rfl) (pe_op op_cat (pv 7) (pe_call G_bring_rows (hr.mono (by omega)) rfl g_bring_rows k_bring_rows b_bring_rows .nil pass0 (pa_cons (pe_lc (own := [("at", 11)]) (g := gName 11) (tt := _) rfl nd (pi_listK K (pv 6)) (blkOk_by (own := [("at", 11)]) (N := ["copies", "reads", "writes", "weaving", "had", "late", "heard", "rows", "queries", "answers", "some", "at"]) (sc := defScope s_rows_of) (by decide +kernel)) (fun _ _ _ _ _ => pg_name (i := 11) nd rfl (Or.inl rfl)) (fun _ _ _ _ _ => pts_nil) (fun _ _ _ _ _ => (pe_op op_add (pe_op op_add (pv 8) pe_int) (pv 11)))) pa_nil)))) (pss_cons (ps_set (i := 9) nd rfl (Or.inr rfl) (pe_op op_add (pe_op op_add (pv 8) (pv 0)) (pe_callB (len_seqK K) (by rfl) B.b_len (by decide +kernel) (pa_cons (pv 5) pa_nil)))) (pss_cons (ps_ret (pe_op op_cat (pv 7) (pe_call G_bring_rows (hr.mono (by omega)) rfl g_bring_rows k_bring_rows b_bring_rows .nil pass0 (pa_cons (pe_lc (own := [("at", 11)]) (g := gName 11) (tt := _) rfl nd (pi_range1 rfl B.b_range (pa_cons (pe_callB (len_seqK K) (by rfl) B.b_len (by decide +kernel) (pa_cons (pv 6) pa_nil)) pa_nil)) (blkOk_by (own := [("at", 11)]) (N := ["copies", "reads", "writes", "weaving", "had", "late", "heard", "rows", "queries", "answers", "some", "at"]) (sc := defScope s_rows_of) (by decide +kernel)) (fun _ _ _ _ _ => pg_name (i := 11) nd rfl (Or.inl rfl)) (fun _ _ _ _ _ => pts_nil) (fun _ _ _ _ _ => (pe_op op_add (pe_op op_add (pv 9) pe_int) (pv 11)))) pa_nil)))) pss_nil)))))))))))), ?_⟩
    refine q_drop s (tv_flat (tv_call (ta_cons (tv_var rfl (Flat.of _)) (ta_cons (tv_var rfl (Flat.of _)) (ta_cons (tv_var rfl (Flat.of _)) ta_nil))) (sv_need_counts (by /- 1 pre:need_counts -/ first | decide | assumption | omega)))) ?_
    intro F1 H2 gr3
    have s := gr3.sub
    have g := g.then gr3
    have hp_3 := up gr3.ex hp_3
    refine q_unpL3 (K := K) (P := (RetL K Z0 F0 H0 Q)) hP s (TvL.tv (tl_lc (fun (some' : Int) => true) (fun (some' : Int) => (m_homes_in some')) (it_tupI (K := K) (tv_var rfl hp_3)) stb_t trivial (by /- 3 lclen -/ (show 3 < 100000); decide) (fun i4 some' v4 F4 H4 hx4 gr4 hv4 R4 k4 => g_nameF hv4 fun _ =>  (k4 _ rfl (tt_yes) (fun H4' e4 hcl4 => (TvL.tv (tl_call (ta_cons (tv_flat (tv_var rfl (Flat.of _))) ta_nil) (sv_homes_in (by /- 2 pre:homes_in -/ (have hq : some' = weaving.1 ∨ some' = weaving.2.1 ∨ some' = weaving.2.2 := by (have := List.mem_of_getElem? hx4; simpa [ItemsT.its] using this)); omega))))))))) (by /- 4 unp -/ rfl) ?_
    intro had late heard F5 H6 v7_0 v7_1 v7_2 hu_had gr7 h7_0 h7_1 h7_2 hP
    obtain ⟨e1, e2, e3⟩ : m_homes_in weaving.1 = had ∧ m_homes_in weaving.2.1 = late ∧ m_homes_in weaving.2.2 = heard := by (have e3 : [m_homes_in weaving.1, m_homes_in weaving.2.1, m_homes_in weaving.2.2] = [had, late, heard] := hu_had); simpa using e3
    rw [e1] at hh1
    rw [e2] at hh2
    rw [e3] at hh3
    clear hu_had
    have s := gr7.sub
    have g := g.then gr7
    have hp_3 := up gr7.ex hp_3
    refine q_set (K := K) (P := (RetL K Z0 F0 H0 Q)) hP s (TvL.tv (tl_lc (fun (at' : Int) => true) (fun (at' : Int) => (((("come " : PySem.Str) ++ (chI ("abcde" : PySem.Str) at')) ++ (".a.a " : PySem.Str)) ++ (strI at'))) (it_range1 (K := K) (tv_var rfl (Flat.of _)) (by /- 5 rlo -/ omega) (by /- 6 rhi -/ omega)) stb_t trivial (by /- 13 lclen -/ first | (simp only [rng_len]; omega) | omega) (fun i8 at' v8 F8 H8 hx8 gr8 hv8 R8 k8 => g_nameF hv8 fun _ =>  (k8 _ rfl (tt_yes) (fun H8' e8 hcl8 => (tv_flat (tv_op (tv_op (tv_op tv_str (tv_op tv_str (tv_var rfl (Flat.of _)) (op2_ixS (by /- 7 strlen1 -/ first | (first | decide +kernel | omega) | (have hr_hx8 := rng_at hx8; (try simp only [decide_eq_true_eq, decide_eq_false_iff_not, Bool.not_eq_true', Bool.not_eq_false', Bool.and_eq_true, Bool.and_eq_false_iff, Bool.or_eq_true, Bool.or_eq_false_iff] at hcl8); (first | decide +kernel | omega))) (by /- 8 ixs -/ first | (exact ⟨by omega, by omega⟩) | (have hr_hx8 := rng_at hx8; (try simp only [decide_eq_true_eq, decide_eq_false_iff_not, Bool.not_eq_true', Bool.not_eq_false', Bool.and_eq_true, Bool.and_eq_false_iff, Bool.or_eq_true, Bool.or_eq_false_iff] at hcl8); (exact ⟨by omega, by omega⟩))))) (op2_cats (by /- 9 strlen -/ first | ((have : (("come " : PySem.Str)).length = 5 := by decide +kernel); (have : (("abcde" : PySem.Str)).length = 5 := by decide +kernel); (have : (chI ("abcde" : PySem.Str) at').length = 1 := rfl); ((try simp only [app_len, List.map_cons, List.map_nil, List.sum_cons, List.sum_nil, List.length_cons, List.length_nil]); omega)) | (have hr_hx8 := rng_at hx8; (try simp only [decide_eq_true_eq, decide_eq_false_iff_not, Bool.not_eq_true', Bool.not_eq_false', Bool.and_eq_true, Bool.and_eq_false_iff, Bool.or_eq_true, Bool.or_eq_false_iff] at hcl8); ((have : (("come " : PySem.Str)).length = 5 := by decide +kernel); (have : (("abcde" : PySem.Str)).length = 5 := by decide +kernel); (have : (chI ("abcde" : PySem.Str) at').length = 1 := rfl); ((try simp only [app_len, List.map_cons, List.map_nil, List.sum_cons, List.sum_nil, List.length_cons, List.length_nil]); omega)))))) tv_str (op2_cats (by /- 10 strlen -/ first | ((have : (("come " : PySem.Str)).length = 5 := by decide +kernel); (have : (("abcde" : PySem.Str)).length = 5 := by decide +kernel); (have : ((".a.a " : PySem.Str)).length = 5 := by decide +kernel); (have : (chI ("abcde" : PySem.Str) at').length = 1 := rfl); ((try simp only [app_len, List.map_cons, List.map_nil, List.sum_cons, List.sum_nil, List.length_cons, List.length_nil]); omega)) | (have hr_hx8 := rng_at hx8; (try simp only [decide_eq_true_eq, decide_eq_false_iff_not, Bool.not_eq_true', Bool.not_eq_false', Bool.and_eq_true, Bool.and_eq_false_iff, Bool.or_eq_true, Bool.or_eq_false_iff] at hcl8); ((have : (("come " : PySem.Str)).length = 5 := by decide +kernel); (have : (("abcde" : PySem.Str)).length = 5 := by decide +kernel); (have : ((".a.a " : PySem.Str)).length = 5 := by decide +kernel); (have : (chI ("abcde" : PySem.Str) at').length = 1 := rfl); ((try simp only [app_len, List.map_cons, List.map_nil, List.sum_cons, List.sum_nil, List.length_cons, List.length_nil]); omega)))))) (tv_cb (ta_cons (tv_var rfl (Flat.of _)) ta_nil) (cb_strI (by /- 11 log -/ first | (exact log_small (by omega) (by omega)) | (have hr_hx8 := rng_at hx8; (try simp only [decide_eq_true_eq, decide_eq_false_iff_not, Bool.not_eq_true', Bool.not_eq_false', Bool.and_eq_true, Bool.and_eq_false_iff, Bool.or_eq_true, Bool.or_eq_false_iff] at hcl8); (exact log_small (by omega) (by omega)))))) (op2_cats (by /- 12 strlen -/ first | ((have : (("come " : PySem.Str)).length = 5 := by decide +kernel); (have : (("abcde" : PySem.Str)).length = 5 := by decide +kernel); (have : ((".a.a " : PySem.Str)).length = 5 := by decide +kernel); (have := strI_len (n := at') (log_small (by omega) (by omega))); (have : (chI ("abcde" : PySem.Str) at').length = 1 := rfl); ((try simp only [app_len, List.map_cons, List.map_nil, List.sum_cons, List.sum_nil, List.length_cons, List.length_nil]); omega)) | (have hr_hx8 := rng_at hx8; (try simp only [decide_eq_true_eq, decide_eq_false_iff_not, Bool.not_eq_true', Bool.not_eq_false', Bool.and_eq_true, Bool.and_eq_false_iff, Bool.or_eq_true, Bool.or_eq_false_iff] at hcl8); ((have : (("come " : PySem.Str)).length = 5 := by decide +kernel); (have : (("abcde" : PySem.Str)).length = 5 := by decide +kernel); (have : ((".a.a " : PySem.Str)).length = 5 := by decide +kernel); (have := strI_len (n := at') (log_small (by omega) (by omega))); (have : (chI ("abcde" : PySem.Str) at').length = 1 := rfl); ((try simp only [app_len, List.map_cons, List.map_nil, List.sum_cons, List.sum_nil, List.length_cons, List.length_nil]); omega)))))))))))) ?_
    intro rows F9 H10 v12 hrows gr11 h_12 hP
    have s := gr11.sub
    have g := g.then gr11
    have hp_3 := up gr11.ex hp_3
    have h7_0 := up gr11.ex h7_0
    have h7_1 := up gr11.ex h7_1
    have h7_2 := up gr11.ex h7_2
    have hlen13 := congrArg List.length hrows
    try simp only [List.length_append, List.length_cons, List.length_nil, lc_true_len, rng_len, bring_len] at hlen13
    refine q_set (K := K) (P := (RetL K Z0 F0 H0 Q)) hP s (TvL.tv (tl_op (tv_var rfl h_12) (TvL.tv (tl_lst (ta_rcons (tv_flat (tv_joined (tj_cons (K := K) tv_str (tj_cons (K := K) (tv_fmtI (tv_var rfl (Flat.of _)) (by /- 14 log -/ exact log_small (by omega) (by omega))) (tj_cons (K := K) tv_str (tj_cons (K := K) (tv_fmtI (tv_var rfl (Flat.of _)) (by /- 15 log -/ exact log_small (by omega) (by omega))) (tj_cons (K := K) tv_str (tj_cons (K := K) (tv_fmtI (tv_var rfl (Flat.of _)) (by /- 16 log -/ exact log_small (by omega) (by omega))) tj_nil)))))) (by /- 17 fjlen -/ (have : (("thing 0 " : PySem.Str)).length = 8 := by decide +kernel); (have : ((" " : PySem.Str)).length = 1 := by decide +kernel); (have := strI_len (n := copies) (log_small (by omega) (by omega))); (have := strI_len (n := reads) (log_small (by omega) (by omega))); (have := strI_len (n := writes) (log_small (by omega) (by omega))); ((try simp only [app_len, List.map_cons, List.map_nil, List.sum_cons, List.sum_nil, List.length_cons, List.length_nil]); omega)))) (ta_rcons (tv_flat tv_str) ta_rnil)) (by show 2 ≤ 100000; decide))) (opL_cat (by /- 18 len -/ first | (simp only [List.length_append, List.length_cons, List.length_nil, lc_true_len, rng_len, bring_len]; omega) | omega)))) ?_
    intro rows F14 H15 v17 hrows gr16 h_17 hP
    have s := gr16.sub
    have g := g.then gr16
    have hp_3 := up gr16.ex hp_3
    have h7_0 := up gr16.ex h7_0
    have h7_1 := up gr16.ex h7_1
    have h7_2 := up gr16.ex h7_2
    have h_12 := up gr16.ex h_12
    have hlen18 := congrArg List.length hrows
    try simp only [List.length_append, List.length_cons, List.length_nil, lc_true_len, rng_len, bring_len] at hlen18
    refine q_set (K := K) (P := (RetL K Z0 F0 H0 Q)) hP s (TvL.tv (tl_op (tv_var rfl h_17) (TvL.tv (tl_call (ta_cons (TvL.tv (tl_lc (fun (at' : Int) => true) (fun (at' : Int) => ((1 : Int) + at')) (it_list (K := K) (tv_var rfl h7_0)) stb_t trivial (by /- 19 lclen -/ first | (simp only [rng_len]; omega) | omega) (fun i19 at' v19 F19 H19 hx19 gr19 hv19 R19 k19 => g_nameF hv19 fun _ =>  (k19 _ rfl (tt_yes) (fun H19' e19 hcl19 => (tv_flat (tv_op tv_int (tv_var rfl (Flat.of _)) op2_add))))))) ta_nil) (sv_bring_rows (by /- 20 pre:bring_rows -/ exact ⟨by simp only [lc_true_len]; omega, fun x hx => by have := lc_shift hh1.2 x hx; omega⟩)))) (opL_cat (by /- 21 len -/ first | (simp only [List.length_append, List.length_cons, List.length_nil, lc_true_len, rng_len, bring_len]; omega) | omega)))) ?_
    intro rows F20 H21 v23 hrows gr22 h_23 hP
    have s := gr22.sub
    have g := g.then gr22
    have hp_3 := up gr22.ex hp_3
    have h7_0 := up gr22.ex h7_0
    have h7_1 := up gr22.ex h7_1
    have h7_2 := up gr22.ex h7_2
    have h_17 := up gr22.ex h_17
    have hlen24 := congrArg List.length hrows
    try simp only [List.length_append, List.length_cons, List.length_nil, lc_true_len, rng_len, bring_len] at hlen24
    refine q_set (K := K) (P := (RetL K Z0 F0 H0 Q)) hP s (TvL.tv (tl_op (tv_var rfl h_23) (TvL.tv (tl_call (ta_cons (TvL.tv (tl_lc (fun (at' : Int) => true) (fun (at' : Int) => ((copies + (1 : Int)) + at')) (it_range1 (K := K) (tv_cb (ta_cons (tv_var rfl (up s h7_0)) ta_nil) cb_lenL) (by /- 22 rlo -/ omega) (by /- 23 rhi -/ omega)) stb_t trivial (by /- 24 lclen -/ first | (simp only [rng_len]; omega) | omega) (fun i25 at' v25 F25 H25 hx25 gr25 hv25 R25 k25 => g_nameF hv25 fun _ =>  (k25 _ rfl (tt_yes) (fun H25' e25 hcl25 => (tv_flat (tv_op (tv_op (tv_var rfl (Flat.of _)) tv_int op2_add) (tv_var rfl (Flat.of _)) op2_add))))))) ta_nil) (sv_bring_rows (by /- 25 pre:bring_rows -/ exact ⟨by simp only [lc_true_len, rng_len]; omega, fun x hx => by have := lc_shift rng_mem x hx; omega⟩)))) (opL_cat (by /- 26 len -/ first | (simp only [List.length_append, List.length_cons, List.length_nil, lc_true_len, rng_len, bring_len]; omega) | omega)))) ?_
    intro rows F26 H27 v29 hrows gr28 h_29 hP
    have s := gr28.sub
    have g := g.then gr28
    have hp_3 := up gr28.ex hp_3
    have h7_0 := up gr28.ex h7_0
    have h7_1 := up gr28.ex h7_1
    have h7_2 := up gr28.ex h7_2
    have h_23 := up gr28.ex h_23
    have hlen30 := congrArg List.length hrows
    try simp only [List.length_append, List.length_cons, List.length_nil, lc_true_len, rng_len, bring_len] at hlen30
    refine q_set (K := K) (P := (RetL K Z0 F0 H0 Q)) hP s (TvL.tv (tl_op (TvL.tv (tl_op (tv_var rfl h_29) (TvL.tv (tl_lst (ta_rcons (tv_flat tv_str) ta_rnil) (by show 1 ≤ 100000; decide))) (opL_cat (by /- 27 len -/ first | (simp only [List.length_append, List.length_cons, List.length_nil, lc_true_len, rng_len, bring_len]; omega) | omega)))) (TvL.tv (tl_call (ta_cons (TvL.tv (tl_lc (fun (at' : Int) => true) (fun (at' : Int) => ((1 : Int) + at')) (it_list (K := K) (tv_var rfl h7_1)) stb_t trivial (by /- 28 lclen -/ first | (simp only [rng_len]; omega) | omega) (fun i31 at' v31 F31 H31 hx31 gr31 hv31 R31 k31 => g_nameF hv31 fun _ =>  (k31 _ rfl (tt_yes) (fun H31' e31 hcl31 => (tv_flat (tv_op tv_int (tv_var rfl (Flat.of _)) op2_add))))))) ta_nil) (sv_bring_rows (by /- 29 pre:bring_rows -/ exact ⟨by simp only [lc_true_len]; omega, fun x hx => by have := lc_shift hh2.2 x hx; omega⟩)))) (opL_cat (by /- 30 len -/ first | (simp only [List.length_append, List.length_cons, List.length_nil, lc_true_len, rng_len, bring_len]; omega) | omega)))) ?_
    intro rows F32 H33 v35 hrows gr34 h_35 hP
    have s := gr34.sub
    have g := g.then gr34
    have hp_3 := up gr34.ex hp_3
    have h7_0 := up gr34.ex h7_0
    have h7_1 := up gr34.ex h7_1
    have h7_2 := up gr34.ex h7_2
    have h_29 := up gr34.ex h_29
    have hlen36 := congrArg List.length hrows
    try simp only [List.length_append, List.length_cons, List.length_nil, lc_true_len, rng_len, bring_len] at hlen36
    refine q_setF (K := K) (P := (RetL K Z0 F0 H0 Q)) hP (tv_op (tv_var rfl (Flat.of _)) (tv_cb (ta_cons (tv_var rfl (up s h7_0)) ta_nil) cb_lenL) op2_add) ?_
    intro queries H37 hqueries e37 hP
    have s := s.trans e37
    have g := g.grow e37
    refine q_set (K := K) (P := (RetL K Z0 F0 H0 Q)) hP s (TvL.tv (tl_op (tv_var rfl h_35) (TvL.tv (tl_call (ta_cons (TvL.tv (tl_lc (fun (at' : Int) => true) (fun (at' : Int) => ((queries + (1 : Int)) + at')) (it_list (K := K) (tv_var rfl h7_2)) stb_t trivial (by /- 31 lclen -/ first | (simp only [rng_len]; omega) | omega) (fun i38 at' v38 F38 H38 hx38 gr38 hv38 R38 k38 => g_nameF hv38 fun _ =>  (k38 _ rfl (tt_yes) (fun H38' e38 hcl38 => (tv_flat (tv_op (tv_op (tv_var rfl (Flat.of _)) tv_int op2_add) (tv_var rfl (Flat.of _)) op2_add))))))) ta_nil) (sv_bring_rows (by /- 32 pre:bring_rows -/ exact ⟨by simp only [lc_true_len]; omega, fun x hx => by have := lc_shift hh3.2 x hx; omega⟩)))) (opL_cat (by /- 33 len -/ first | (simp only [List.length_append, List.length_cons, List.length_nil, lc_true_len, rng_len, bring_len]; omega) | omega)))) ?_
    intro rows F39 H40 v42 hrows gr41 h_42 hP
    have s := gr41.sub
    have g := g.then gr41
    have hp_3 := up gr41.ex hp_3
    have h7_0 := up gr41.ex h7_0
    have h7_1 := up gr41.ex h7_1
    have h7_2 := up gr41.ex h7_2
    have h_35 := up gr41.ex h_35
    have hlen43 := congrArg List.length hrows
    try simp only [List.length_append, List.length_cons, List.length_nil, lc_true_len, rng_len, bring_len] at hlen43
    refine q_setF (K := K) (P := (RetL K Z0 F0 H0 Q)) hP (tv_op (tv_op (tv_var rfl (Flat.of _)) (tv_var rfl (Flat.of _)) op2_add) (tv_cb (ta_cons (tv_var rfl (up s h7_1)) ta_nil) cb_lenL) op2_add) ?_
    intro answers H44 hanswers e44 hP
    have s := s.trans e44
    have g := g.grow e44
    exact q_retL hP g (tl_op (tv_var rfl h_42) (TvL.tv (tl_call (ta_cons (TvL.tv (tl_lc (fun (at' : Int) => true) (fun (at' : Int) => ((answers + (1 : Int)) + at')) (it_range1 (K := K) (tv_cb (ta_cons (tv_var rfl (up s h7_2)) ta_nil) cb_lenL) (by /- 34 rlo -/ omega) (by /- 35 rhi -/ omega)) stb_t trivial (by /- 36 lclen -/ first | (simp only [rng_len]; omega) | omega) (fun i45 at' v45 F45 H45 hx45 gr45 hv45 R45 k45 => g_nameF hv45 fun _ =>  (k45 _ rfl (tt_yes) (fun H45' e45 hcl45 => (tv_flat (tv_op (tv_op (tv_var rfl (Flat.of _)) tv_int op2_add) (tv_var rfl (Flat.of _)) op2_add))))))) ta_nil) (sv_bring_rows (by /- 37 pre:bring_rows -/ exact ⟨by simp only [lc_true_len, rng_len]; omega, fun x hx => by have := lc_shift rng_mem x hx; omega⟩)))) (opL_cat (by /- 38 len -/ first | (simp only [List.length_append, List.length_cons, List.length_nil, lc_true_len, rng_len, bring_len]; omega) | omega)))
def m__law_cell (script : Scr) (k : Int) : Int := (cond (decide (k < (script.l.length : Int))) (ixI script.l k) (0 : Int))
abbrev s__law_cell : Stmt := top 12
def sp__law_cell (K : Fg) : Sp := fun vs H Q _ => ∃ (F : Hp) (script : Scr) (k : Int) (w0 : V) (w1 : V), vs = [w0, w1] ∧ Same F H ∧ rp K F script w0 ∧ rp K F k w1 ∧ (0 ≤ k) ∧ Ret K Z0 F H Q (m__law_cell script k)
theorem sv__law_cell {K : Fg} {script : Scr} {k : Int} (hpre : 0 ≤ k) : SpV K (sp__law_cell K) (fun (F : Hp) (vs : List V) => ∃ v r, vs = v :: r ∧ rp K F script v ∧ (fun (F : Hp) (vs : List V) => ∃ v r, vs = v :: r ∧ rp K F k v ∧ (fun (_ : Hp) (vs : List V) => vs = []) F r) F r) (m__law_cell script k) := by
  intro F H vs Q E s h hQ
  obtain ⟨v0, r0, e0, h0, h⟩ := h
  obtain ⟨v1, r1, e1, h1, h⟩ := h
  subst h
  subst e1
  subst e0
  exact ⟨F, script, k, v0, v1, rfl, s, h0, h1, hpre, fun F' H' p g r => hQ F' H' p g.gr r⟩
theorem sc__law_cell : FnScope ["script", "k"] ["script", "k"] (defScope s__law_cell) := ⟨rfl, rfl, rfl, by decide +kernel, rfl, by decide +kernel, by decide +kernel⟩
theorem ok__law_cell {P : Program} {w : World} {K : Fg} {mg : PySem.Str → Option Value} {base : Heap} (B : Bs mg) {f : Addr} {fd : FuncData} (F : FnP K "_law_cell" s__law_cell f fd) : FnOk P w K mg base CX0 1 f fd ["script", "k"] (sp__law_cell K) := by
  have nd : (["script", "k"] : List PySem.Str).Nodup := sc__law_cell.nd
  refine F.ok sc__law_cell (fun vs H Q E h => ?_) (fun cdv A outer s H0 vs Q E hr h => ?_)
  · obtain ⟨F0, script, k, vp_0, w1, rfl, s, hp_0, hw1, hpre, hP⟩ := h
    rfl
  · obtain ⟨F0, script, k, vp_0, w1, rfl, s, hp_0, hw1, hpre, hP⟩ := h
    obtain rfl := Flat.is hw1
    have g : GrZ Z0 F0 H0 F0 H0 := GrZ.refl s
    refine ⟨_, PSs.nox (by exact (pss_cons (ps_if (pt_cmpR op_lt (pv 1) (pe_callB (len_seqK K) (by rfl) B.b_len (by decide +kernel) (pa_cons (pv 0) pa_nil)) (nomark _)) (pss_cons (ps_ret (pe_ix (ix_listK K) (pv 0) (pv 1) (fun _ _ => rfl))) pss_nil) pss_nil) (pss_cons (ps_ret pe_int) pss_nil))), ?_⟩
    refine q_if (P := (Ret K Z0 F0 H0 Q)) hP (tt_test (K := K) (tv_op (tv_var rfl (Flat.of _)) (tv_cb (ta_cons (tv_var rfl (up s hp_0)) ta_nil) cb_lenC) op2_lt)) ?_ ?_
    · intro hc1 H1 e1 hP
      have s := s.trans e1
      have g := g.grow e1
      exact q_retF hP g (tv_op (tv_var rfl (up s hp_0)) (tv_var rfl (Flat.of _)) (op2_ixC (by /- 1 ix -/ first | (first | exact ⟨by decide, by decide⟩ | exact ⟨by omega, by omega⟩) | ((try simp only [decide_eq_true_eq, decide_eq_false_iff_not, Bool.not_eq_true', Bool.not_eq_false', Bool.and_eq_true, Bool.and_eq_false_iff, Bool.or_eq_true, Bool.or_eq_false_iff] at hc1); (first | exact ⟨by decide, by decide⟩ | exact ⟨by omega, by omega⟩)))))
    · intro hc1 H1 e1 hP
      first | refine q_endS ?_ | refine q_endC ?_ | refine q_end ?_
      have s := s.trans e1
      have g := g.grow e1
      exact q_retF hP g tv_int
def m__law_whole (found : Int) : Bool := (true && (!false))
abbrev s__law_whole : Stmt := top 13
def sp__law_whole (K : Fg) : Sp := fun vs H Q _ => ∃ (F : Hp) (found : Int) (w0 : V), vs = [w0] ∧ Same F H ∧ rp K F found w0 ∧ Ret K Z0 F H Q (m__law_whole found)
theorem sv__law_whole {K : Fg} {found : Int} : SpV K (sp__law_whole K) (fun (F : Hp) (vs : List V) => ∃ v r, vs = v :: r ∧ rp K F found v ∧ (fun (_ : Hp) (vs : List V) => vs = []) F r) (m__law_whole found) := by
  intro F H vs Q E s h hQ
  obtain ⟨v0, r0, e0, h0, h⟩ := h
  subst h
  subst e0
  exact ⟨F, found, v0, rfl, s, h0, fun F' H' p g r => hQ F' H' p g.gr r⟩
theorem sc__law_whole : FnScope ["found"] ["found"] (defScope s__law_whole) := ⟨rfl, rfl, rfl, by decide +kernel, rfl, by decide +kernel, by decide +kernel⟩
theorem ok__law_whole {P : Program} {w : World} {K : Fg} {mg : PySem.Str → Option Value} {base : Heap} (B : Bs mg) {f : Addr} {fd : FuncData} (F : FnP K "_law_whole" s__law_whole f fd) : FnOk P w K mg base CX0 1 f fd ["found"] (sp__law_whole K) := by
  have nd : (["found"] : List PySem.Str).Nodup := sc__law_whole.nd
  refine F.ok sc__law_whole (fun vs H Q E h => ?_) (fun cdv A outer s H0 vs Q E hr h => ?_)
  · obtain ⟨F0, found, w0, rfl, s, hw0, hP⟩ := h
    rfl
  · obtain ⟨F0, found, w0, rfl, s, hw0, hP⟩ := h
    obtain rfl := Flat.is hw0
    have g : GrZ Z0 F0 H0 F0 H0 := GrZ.refl s
    refine ⟨_, PSs.nox (by exact (pss_cons (ps_ret (pe_and (pe_callB (isiK K) (by rfl) B.b_isinstance (by decide +kernel) (pa_cons (pv 0) (pa_cons (pe_bltn (v := .ty "int") (by rfl) B.b_int (by decide +kernel) rfl) pa_nil))) (pe_one (pe_not (pe_callB (isiK K) (by rfl) B.b_isinstance (by decide +kernel) (pa_cons (pv 0) (pa_cons (pe_bltn (v := .ty "bool") (by rfl) B.b_bool (by decide +kernel) rfl) pa_nil))))))) pss_nil)), ?_⟩
    exact q_retF hP g (tv_and (tv_isi (α := Int) (n := "int") (c := "int") (b := true) (tv_var rfl (Flat.of _)) (by decide +kernel)) (fun hq1 => (tv_not (tv_isi (α := Int) (n := "int") (c := "bool") (b := false) (tv_var rfl (Flat.of _)) (by decide +kernel)))))
def m__law_counts (script : Scr) : (List Int) := (lt ((1 : Int) + ((m__law_cell script (0 : Int)) % (4 : Int))) fun (copies : Int) => (lt (cond (decide ((((m__law_cell script (0 : Int)) / (4 : Int)) % (8 : Int)) = (1 : Int))) (lt (5 : Int) fun (copies : Int) => (copies)) (copies)) (fun (copies : Int) => ([copies, ((1 : Int) + ((m__law_cell script (1 : Int)) % copies)), ((1 : Int) + ((m__law_cell script (2 : Int)) % copies))] : List Int))))
abbrev s__law_counts : Stmt := top 14
def sp__law_counts (K : Fg) : Sp := fun vs H Q _ => ∃ (F : Hp) (script : Scr) (w0 : V), vs = [w0] ∧ Same F H ∧ rp K F script w0 ∧ RetL K Z0 F H Q (m__law_counts script)
theorem sv__law_counts {K : Fg} {script : Scr} : SpL K (sp__law_counts K) (fun (F : Hp) (vs : List V) => ∃ v r, vs = v :: r ∧ rp K F script v ∧ (fun (_ : Hp) (vs : List V) => vs = []) F r) (m__law_counts script) := by
  intro F H vs Q E s h hQ
  obtain ⟨v0, r0, e0, h0, h⟩ := h
  subst h
  subst e0
  exact ⟨F, script, v0, rfl, s, h0, fun F' H' p g n m => hQ F' H' p g.gr n m⟩
theorem sc__law_counts : FnScope ["script", "copies"] ["script"] (defScope s__law_counts) := ⟨rfl, rfl, rfl, by decide +kernel, rfl, by decide +kernel, by decide +kernel⟩
theorem ok__law_counts {P : Program} {w : World} {K : Fg} {mg : PySem.Str → Option Value} {base : Heap} (B : Bs mg) (D__law_cell : Dn P w K mg base CX0 "_law_cell" 1 ["script", "k"] (sp__law_cell K)) {f : Addr} {fd : FuncData} (F : FnP K "_law_counts" s__law_counts f fd) : FnOk P w K mg base CX0 2 f fd ["script"] (sp__law_counts K) := by
  obtain ⟨f__law_cell, d__law_cell, G__law_cell, g__law_cell, k__law_cell, b__law_cell⟩ := D__law_cell
  have nd : (["script", "copies"] : List PySem.Str).Nodup := sc__law_counts.nd
  refine F.ok sc__law_counts (fun vs H Q E h => ?_) (fun cdv A outer s H0 vs Q E hr h => ?_)
  · obtain ⟨F0, script, vp_0, rfl, s, hp_0, hP⟩ := h
    rfl
  · obtain ⟨F0, script, vp_0, rfl, s, hp_0, hP⟩ := h
    have g : GrZ Z0 F0 H0 F0 H0 := GrZ.refl s
    refine ⟨_, PSs.nox (by exact (pss_cons (ps_set (i := 1) nd rfl (Or.inl rfl) (pe_op op_add pe_int (pe_op op_mod (pe_call G__law_cell (hr.mono (by omega)) rfl g__law_cell k__law_cell b__law_cell .nil pass0 (pa_cons (pv 0) (pa_cons pe_int pa_nil))) pe_int))) (Evl.pss_cut (ps_if (pt_cmpR op_eq (pe_op op_mod (pe_op op_fdiv (pe_call G__law_cell (hr.mono (by omega)) rfl g__law_cell k__law_cell b__law_cell .nil pass0 (pa_cons (pv 0) (pa_cons pe_int pa_nil))) pe_int) pe_int) pe_int (nomark _)) (pss_cons (ps_set (i := 1) nd rfl (Or.inl rfl) pe_int) pss_nil) pss_nil) (pss_cons (ps_ret (pe_lst (pa_cons (pv 1) (pa_cons (pe_op op_add pe_int (pe_op op_mod (pe_call G__law_cell (hr.mono (by omega)) rfl g__law_cell k__law_cell b__law_cell .nil pass0 (pa_cons (pv 0) (pa_cons pe_int pa_nil))) (pv 1))) (pa_cons (pe_op op_add pe_int (pe_op op_mod (pe_call G__law_cell (hr.mono (by omega)) rfl g__law_cell k__law_cell b__law_cell .nil pass0 (pa_cons (pv 0) (pa_cons pe_int pa_nil))) (pv 1))) pa_nil))))) pss_nil)))), ?_⟩
    refine q_setF (K := K) (P := (RetL K Z0 F0 H0 Q)) hP (tv_op tv_int (tv_op (tv_call (ta_cons (tv_var rfl (up s hp_0)) (ta_cons tv_int ta_nil)) (sv__law_cell (by /- 1 pre:_law_cell -/ first | decide | assumption | omega))) tv_int (op2_mod (by /- 2 pos -/ first | decide | omega))) op2_add) ?_
    intro copies H1 hcopies e1 hP
    have s := s.trans e1
    have g := g.grow e1
    refine q_ifJ (F := F0) (P := (RetL K Z0 F0 H0 Q)) hP (tt_test (K := K) (tv_op (tv_op (tv_op (tv_call (ta_cons (tv_var rfl (up s hp_0)) (ta_cons tv_int ta_nil)) (sv__law_cell (by /- 3 pre:_law_cell -/ first | decide | assumption | omega))) tv_int (op2_div (by /- 4 CDiv -/ first | exact ⟨by decide, by decide⟩ | exact ⟨by omega, by omega⟩))) tv_int (op2_mod (by /- 5 pos -/ first | decide | omega))) tv_int op2_eqI)) (fun F H σ st => σ = [some vp_0, some (Flat.val st)] ∧ GrZ Z0 F0 H0 F H ∧ (1 ≤ st ∧ st ≤ 5)) ?_ ?_ ?_
    · intro hc2 Hc2 Nj2 ec2 Pj2 hP hN2
      have smj2 := Same.refl F0
      have s := s.trans ec2
      have g := g.grow ec2
      refine q_setF (K := K) (P := Pj2) hP tv_int ?_
      intro copies H3 hcopies e3 hP
      have s := s.trans e3
      have g := g.grow e3
      first | refine q_endS ?_ | refine q_endC ?_ | refine q_end ?_
      exact hN2 _ hP _ _ _ smj2 ⟨rfl, g, (by /- 6 inv -/ first | (first | omega | ((try simp only [hcopies, List.length_append, List.length_cons, List.length_nil, lc_true_len, rng_len]); omega) | rfl | (subst_vars; first | omega | (simp; done) | (simp; omega))) | ((try simp only [decide_eq_true_eq, decide_eq_false_iff_not, Bool.not_eq_true', Bool.not_eq_false', Bool.and_eq_true, Bool.and_eq_false_iff, Bool.or_eq_true, Bool.or_eq_false_iff] at hc2); (first | omega | ((try simp only [hcopies, List.length_append, List.length_cons, List.length_nil, lc_true_len, rng_len]); omega) | rfl | (subst_vars; first | omega | (simp; done) | (simp; omega)))))⟩
    · intro hc2 Hc2 Nj2 ec2 Pj2 hP hN2
      have smj2 := Same.refl F0
      have s := s.trans ec2
      have g := g.grow ec2
      first | refine q_endS ?_ | refine q_endC ?_ | refine q_end ?_
      exact hN2 _ hP _ _ _ smj2 ⟨rfl, g, (by /- 7 inv -/ first | (first | omega | ((try simp only [hcopies, List.length_append, List.length_cons, List.length_nil, lc_true_len, rng_len]); omega) | rfl | (subst_vars; first | omega | (simp; done) | (simp; omega))) | ((try simp only [decide_eq_true_eq, decide_eq_false_iff_not, Bool.not_eq_true', Bool.not_eq_false', Bool.and_eq_true, Bool.and_eq_false_iff, Bool.or_eq_true, Bool.or_eq_false_iff] at hc2); (first | omega | ((try simp only [hcopies, List.length_append, List.length_cons, List.length_nil, lc_true_len, rng_len]); omega) | rfl | (subst_vars; first | omega | (simp; done) | (simp; omega)))))⟩
    · rintro copies Fj2 Hj2 σ2 hst2 fj2 ⟨rfl, g, hx_2⟩ hP
      have s := g.sub
      try dsimp only at hx_2
      have hp_0 := up fj2 hp_0
      exact q_retL hP g (tl_lst (ta_rcons (tv_flat (tv_var rfl (Flat.of _))) (ta_rcons (tv_flat (tv_op tv_int (tv_op (tv_call (ta_cons (tv_var rfl (up s hp_0)) (ta_cons tv_int ta_nil)) (sv__law_cell (by /- 8 pre:_law_cell -/ first | decide | assumption | omega))) (tv_var rfl (Flat.of _)) (op2_mod (by /- 9 pos -/ first | decide | omega))) op2_add)) (ta_rcons (tv_flat (tv_op tv_int (tv_op (tv_call (ta_cons (tv_var rfl (up s hp_0)) (ta_cons tv_int ta_nil)) (sv__law_cell (by /- 10 pre:_law_cell -/ first | decide | assumption | omega))) (tv_var rfl (Flat.of _)) (op2_mod (by /- 11 pos -/ first | decide | omega))) op2_add)) ta_rnil))) (by show 3 ≤ 100000; decide))
def m__law_taken (homes : (List Int)) (many : Int) (cell : Int) : (List Int) := (lt homes fun (left : (List Int)) => (lt ([] : List Int) fun (found : (List Int)) => (lt (List.foldl (fun (st : ((List Int) × (List Int))) (k : Int) => (lt2 st fun (found : (List Int)) (left : (List Int)) => (lt2 (found ++ [ixI left ((cell / (k + (1 : Int))) % (left.length : Int))], popI left ((cell / (k + (1 : Int))) % (left.length : Int))) fun (found : (List Int)) (left : (List Int)) => (found, left)))) (found, left) (rng 0 (many).toNat)) (fun (st : ((List Int) × (List Int))) => (lt2 st fun (found : (List Int)) (left : (List Int)) => (sortI found))))))
theorem pop_perm {α : Type} [Inhabited α] {xs : List α} {n : Int} (h : InB xs.length n) : (ixI xs n :: popI xs n).Perm xs := by
  have e := ix_pop h
  unfold popI
  obtain ⟨hi, e2⟩ := List.getElem?_eq_some_iff.mp e
  rw [← e2]
  have e3 : xs = xs.take (if n < 0 then n + (xs.length : Int) else n).toNat ++ xs[(if n < 0 then n + (xs.length : Int) else n).toNat] :: xs.drop ((if n < 0 then n + (xs.length : Int) else n).toNat + 1) := by
    rw [List.getElem_cons_drop, List.take_append_drop]
  rw [List.eraseIdx_eq_take_drop_succ]
  exact List.perm_middle.symm.trans (by rw [← e3])
theorem pop_mod {α : Type} {xs ys : List α} {a : Int} (h : ys = popI xs (a % (xs.length : Int))) (h0 : 0 < xs.length) : ys.length + 1 = xs.length := by
  rw [h]
  exact popI_len ⟨by have := Int.emod_nonneg a (show (xs.length : Int) ≠ 0 by omega); omega, Int.emod_lt_of_pos a (by omega)⟩
theorem taken_ok {homes : List Int} {many cell : Int} (h0 : 0 ≤ many) (h1 : many ≤ homes.length) (hn : homes.Nodup) : (m__law_taken homes many cell).Pairwise (· < ·) ∧ (m__law_taken homes many cell).length = many.toNat ∧ ∀ x ∈ m__law_taken homes many cell, x ∈ homes := by
  unfold m__law_taken
  simp only [lt_eq, lt2_eq]
  have key : ∀ (n : Nat), n ≤ homes.length → ∀ st : List Int × List Int, st = List.foldl (fun (st : List Int × List Int) (k : Int) => (st.1 ++ [ixI st.2 (cell / (k + 1) % (st.2.length : Int))], popI st.2 (cell / (k + 1) % (st.2.length : Int)))) ([], homes) (rng 0 n) → (st.1 ++ st.2).Perm homes ∧ st.1.length = n := by
    intro n
    induction n with
    | zero => intro _ st e; subst e; exact ⟨.refl _, rfl⟩
    | succ n ih =>
      intro hl st e
      have er : rng 0 (n + 1) = rng 0 n ++ [(0 : Int) + (n : Int)] := by unfold rng; rw [List.range_succ, List.map_append]; rfl
      rw [er, List.foldl_append] at e
      obtain ⟨p1, p2⟩ := ih (by omega) _ rfl
      generalize List.foldl _ _ (rng 0 n) = s0 at e p1 p2
      obtain ⟨found, left⟩ := s0
      simp only [List.foldl_cons, List.foldl_nil] at e
      have hlen := p1.length_eq
      rw [List.length_append] at hlen
      simp only at p1 p2 hlen
      have hb : InB left.length (cell / ((0 : Int) + (n : Int) + 1) % (left.length : Int)) := by
        have hp : (0 : Int) < left.length := by omega
        have q1 := Int.emod_nonneg (cell / ((0 : Int) + (n : Int) + 1)) (show (left.length : Int) ≠ 0 by omega)
        have q2 := Int.emod_lt_of_pos (cell / ((0 : Int) + (n : Int) + 1)) hp
        exact ⟨by omega, q2⟩
      subst e
      refine ⟨?_, by simp [p2]⟩
      rw [List.append_assoc]
      exact ((pop_perm hb).append_left found).trans p1
  obtain ⟨p1, p2⟩ := key many.toNat (by omega) _ rfl
  generalize List.foldl _ _ (rng 0 many.toNat) = s0 at p1 p2 ⊢
  have nd : (s0.1 ++ s0.2).Nodup := p1.symm.nodup hn
  have nd1 : s0.1.Nodup := (List.nodup_append.mp nd).1
  have nd2 : (sortI s0.1).Nodup := (sortI_perm _).symm.nodup nd1
  refine ⟨?_, by rw [sortI_len]; exact p2, fun x hx => ?_⟩
  · refine List.Pairwise.imp₂ (fun a b (h1 : a ≤ b) (h2 : a ≠ b) => ?_) (sortI_sorted s0.1) nd2
    omega
  · exact p1.mem_iff.mp (List.mem_append_left _ ((sortI_perm _).mem_iff.mp hx))
abbrev s__law_taken : Stmt := top 15
def sp__law_taken (K : Fg) : Sp := fun vs H Q _ => ∃ (F : Hp) (homes : (List Int)) (many : Int) (cell : Int) (w0 : V) (w1 : V) (w2 : V), vs = [w0, w1, w2] ∧ Same F H ∧ rp K F homes w0 ∧ rp K F many w1 ∧ rp K F cell w2 ∧ (0 ≤ many ∧ many ≤ homes.length ∧ homes.length ≤ 5) ∧ RetL K Z0 F H Q (m__law_taken homes many cell)
theorem sv__law_taken {K : Fg} {homes : (List Int)} {many : Int} {cell : Int} (hpre : 0 ≤ many ∧ many ≤ homes.length ∧ homes.length ≤ 5) : SpL K (sp__law_taken K) (fun (F : Hp) (vs : List V) => ∃ v r, vs = v :: r ∧ rp K F homes v ∧ (fun (F : Hp) (vs : List V) => ∃ v r, vs = v :: r ∧ rp K F many v ∧ (fun (F : Hp) (vs : List V) => ∃ v r, vs = v :: r ∧ rp K F cell v ∧ (fun (_ : Hp) (vs : List V) => vs = []) F r) F r) F r) (m__law_taken homes many cell) := by
  intro F H vs Q E s h hQ
  obtain ⟨v0, r0, e0, h0, h⟩ := h
  obtain ⟨v1, r1, e1, h1, h⟩ := h
  obtain ⟨v2, r2, e2, h2, h⟩ := h
  subst h
  subst e2
  subst e1
  subst e0
  exact ⟨F, homes, many, cell, v0, v1, v2, rfl, s, h0, h1, h2, hpre, fun F' H' p g n m => hQ F' H' p g.gr n m⟩
theorem sc__law_taken : FnScope ["homes", "many", "cell", "left", "found", "k"] ["homes", "many", "cell"] (defScope s__law_taken) := ⟨rfl, rfl, rfl, by decide +kernel, rfl, by decide +kernel, by decide +kernel⟩
theorem ok__law_taken {P : Program} {w : World} {K : Fg} {mg : PySem.Str → Option Value} {base : Heap} (B : Bs mg) {f : Addr} {fd : FuncData} (F : FnP K "_law_taken" s__law_taken f fd) : FnOk P w K mg base CX0 1 f fd ["homes", "many", "cell"] (sp__law_taken K) := by
  have nd : (["homes", "many", "cell", "left", "found", "k"] : List PySem.Str).Nodup := sc__law_taken.nd
  refine F.ok sc__law_taken (fun vs H Q E h => ?_) (fun cdv A outer s H0 vs Q E hr h => ?_)
  · obtain ⟨F0, homes, many, cell, vp_0, w1, w2, rfl, s, hp_0, hw1, hw2, hpre, hP⟩ := h
    rfl
  · obtain ⟨F0, homes, many, cell, vp_0, w1, w2, rfl, s, hp_0, hw1, hw2, hpre, hP⟩ := h
    obtain rfl := Flat.is hw1
    obtain rfl := Flat.is hw2
    have g : GrZ Z0 F0 H0 F0 H0 := GrZ.refl s
    refine ⟨_, PSs.nox (by exact (pss_cons (ps_set (i := 3) nd rfl (Or.inl rfl) (pe_callTy (list_ofK K) (by rfl) B.b_list (by decide +kernel) (pa_cons (pv 0) pa_nil))) (pss_cons (ps_set (i := 4) nd rfl (Or.inl rfl) (pe_lst pa_nil)) (pss_cons (ps_for PassesOwn.never rfl (pi_range1 rfl B.b_range (pa_cons (pv 1) pa_nil)) (pg_name (i := 5) nd rfl (Or.inl rfl)) (pss_cons (ps_expr (pe_bm PySem.F.plainAttrs_list PySem.F.slot_list_append PySem.F.type_list_append mt_append (pv 4) (pa_cons (pe_bm PySem.F.plainAttrs_list PySem.F.slot_list_pop PySem.F.type_list_pop mt_popAt (pv 3) (pa_cons (pe_op op_mod (pe_op op_fdiv (pv 2) (pe_op op_add (pv 5) pe_int)) (pe_callB (len_seqK K) (by rfl) B.b_len (by decide +kernel) (pa_cons (pv 3) pa_nil))) pa_nil)) pa_nil))) pss_nil)) (pss_cons (ps_ret (pe_callB (sortedK K) (by rfl) B.b_sorted (by decide +kernel) (pa_cons (pv 4) pa_nil))) pss_nil))))), ?_⟩
    refine q_setM (K := K) (P := (RetL K Z0 F0 H0 Q)) hP s (tl_cb (ta_cons (tv_var rfl hp_0) ta_nil) cl_list) ?_
    intro left F1 H2 p4 hleft gr3 nw4 m_4 hP
    have n_4 := g.newIn nw4
    have s := gr3.sub
    have g := g.then gr3
    have hp_0 := up gr3.ex hp_0
    refine q_setM (K := K) (P := (RetL K Z0 F0 H0 Q)) hP s (tl_lst ta_rnil (by decide)) ?_
    intro found F5 H6 p8 hfound gr7 nw8 m_8 hP
    have ne8_p4 := m_4.ne nw8
    have n_8 := g.newIn nw8
    have s := gr7.sub
    have g := g.then gr7
    have hp_0 := up gr7.ex hp_0
    have m_4 := m_4.go gr7
    refine q_fold (K := K) (P := (RetL K Z0 F0 H0 Q)) (fun (i : Nat) F H σ st => ∃ (ew_k : Option V), σ = [some vp_0, some (Flat.val many), some (Flat.val cell), some (.ref p4), some (.ref p8), ew_k] ∧ GrZ Z0 F0 H0 F H ∧ MutL K F H p8 st.1 ∧ MutL K F H p4 st.2 ∧ (st.2.length + i = homes.length ∧ st.1.length = i)) hP s (it_range1 (K := K) (tv_var rfl (Flat.of _)) (by /- 1 rlo -/ omega) (by /- 2 rhi -/ omega)) stb_t ⟨_, rfl, g, m_8, m_4, (by /- 9 inv0 -/ first | omega | ((try simp only [hleft, hfound, List.length_append, List.length_cons, List.length_nil, lc_true_len, rng_len]); omega) | rfl | (subst_vars; first | omega | (simp; done) | (simp; omega)))⟩ (fun i F1 H1 σ1 st h => (by obtain ⟨_, _, gq, _⟩ := h; exact ⟨gq.sub, trivial⟩)) ?_ ?_
    · rintro i9 k ⟨found, left⟩ Fa9 Ha9 Fl9 Hl9 σ9 vt9 Nl9 Pl9 hx9 hr9 fa9 ⟨wj9_5, rfl, g, m_8, m_4, hx_9⟩ gl9 hv9 hP hN9
      have s := gl9.sub
      have g := g.then gl9
      have sml9 := Same.refl Fl9
      try dsimp only at hx_9
      have hp_0 := up (fa9.trans gl9.ex) hp_0
      try dsimp only at m_4
      have m_4 := m_4.go gl9
      try dsimp only at m_8
      have m_8 := m_8.go gl9
      have hil9 := (List.getElem?_eq_some_iff.mp hx9).1
      simp only [rng_len] at hil9
      replace hP := p_lt2 Pl9 hP
      obtain rfl := Flat.is hv9
      refine g_name ?_
      refine q_appPop (K := K) (P := Pl9) hP s m_8 m_4 ne8_p4 rfl rfl (tv_op (tv_op (tv_var rfl (Flat.of _)) (tv_op (tv_var rfl (Flat.of _)) tv_int op2_add) (op2_div (by /- 3 CDiv -/ first | (first | exact ⟨by decide, by decide⟩ | exact ⟨by omega, by omega⟩) | (have hr_hx9 := rng_at hx9; (first | exact ⟨by decide, by decide⟩ | exact ⟨by omega, by omega⟩))))) (tv_cb (ta_cons (tv_var rfl (m_4.rd s)) ta_nil) cb_lenL) (op2_mod (by /- 4 pos -/ first | (first | decide | omega) | (have hr_hx9 := rng_at hx9; (first | decide | omega))))) (by /- 5 app -/ first | (first | decide | assumption | omega) | (have hr_hx9 := rng_at hx9; (first | decide | assumption | omega))) (by /- 6 ix -/ (have q1 := Int.emod_nonneg (cell / (k + 1)) (show (left.length : Int) ≠ 0 by omega)); (have q2 := Int.emod_lt_of_pos (cell / (k + 1)) (show (0 : Int) < left.length by omega)); exact ⟨by omega, q2⟩) (by /- 7 poplen -/ first | (omega) | (have hr_hx9 := rng_at hx9; (omega))) ?_
      intro found left F11 H10 H12 hfound hleft md13 md14 m_8 m_4 hP
      have s := md14.sub
      have g := (g.md n_4 md13).md n_8 md14
      have sml9 := (sml9.trans md13.ex).trans md14.ex
      have hp_0 := up md14.ex (up md13.ex hp_0)
      first | refine q_endS ?_ | refine q_endC ?_ | refine q_end ?_
      exact hN9 _ hP _ _ _ sml9 ⟨_, rfl, g, m_8, m_4, (by /- 8 inv -/ (have hp := pop_mod hleft (by omega)); dsimp only; (have hf := congrArg List.length hfound); (rw [List.length_append, List.length_cons, List.length_nil] at hf); omega)⟩
    · rintro Fa15 Ha15 Fe15 He15 σ15 ⟨found, left⟩ hst15 fa15 ⟨wj15_5, rfl, g, m_8, m_4, hx_15⟩ gl15 hP
      have s := gl15.sub
      have g := g.then gl15
      try dsimp only at hx_15
      try simp only [rng_len] at hx_15
      have hp_0 := up (fa15.trans gl15.ex) hp_0
      try dsimp only at m_4
      have m_4 := m_4.go gl15
      try dsimp only at m_8
      have m_8 := m_8.go gl15
      replace hP := p_lt2 (RetL K Z0 F0 H0 Q) hP
      exact q_retL hP g (tl_sortedM rfl m_8)
def m__law_number (homes : (List Int)) : Int := (lt (0 : Int) fun (found : Int) => (lt (List.foldl (fun (found : (Int)) (home : Int) => (lt (found + (ixI ([(1 : Int), (2 : Int), (4 : Int), (8 : Int), (16 : Int)] : List Int) home)) fun (found : Int) => (found))) (found) homes) (fun (found : Int) => found)))
abbrev Gd (xs : List Int) : Prop := xs.Pairwise (· < ·) ∧ ∀ x ∈ xs, 0 ≤ x ∧ x ≤ 4
def ofb (a b c d e : Bool) : List Int := [((0 : Int), a), (1, b), (2, c), (3, d), (4, e)].filterMap fun p => cond p.2 (some p.1) none
theorem gd_is {xs : List Int} (h : Gd xs) : ∃ a b c d e, xs = ofb a b c d e := by
  refine ⟨decide (0 ∈ xs), decide (1 ∈ xs), decide (2 ∈ xs), decide (3 ∈ xs), decide (4 ∈ xs), ?_⟩
  have hs : ∀ a b c d e, (ofb a b c d e).Pairwise (· < ·) ∧ (ofb a b c d e).length ≤ 5 := by decide +kernel
  obtain ⟨h1, h2⟩ := h
  have nd : xs.Nodup := h1.imp fun {a b} q => by omega
  have nd2 : (ofb (decide (0 ∈ xs)) (decide (1 ∈ xs)) (decide (2 ∈ xs)) (decide (3 ∈ xs)) (decide (4 ∈ xs))).Nodup := (hs _ _ _ _ _).1.imp fun {a b} q => by omega
  refine sorted_one ((List.perm_ext_iff_of_nodup nd nd2).mpr fun x => ?_) (h1.imp fun {a b} q => by omega) ((hs _ _ _ _ _).1.imp fun {a b} q => by omega)
  unfold ofb
  simp only [List.mem_filterMap, List.mem_cons, List.not_mem_nil, or_false]
  constructor
  · intro hx
    have hb := h2 x hx
    have : x = 0 ∨ x = 1 ∨ x = 2 ∨ x = 3 ∨ x = 4 := by omega
    rcases this with rfl | rfl | rfl | rfl | rfl
    · exact ⟨(0, _), .inl rfl, by simp [hx]⟩
    · exact ⟨(1, _), .inr (.inl rfl), by simp [hx]⟩
    · exact ⟨(2, _), .inr (.inr (.inl rfl)), by simp [hx]⟩
    · exact ⟨(3, _), .inr (.inr (.inr (.inl rfl))), by simp [hx]⟩
    · exact ⟨(4, _), .inr (.inr (.inr (.inr rfl))), by simp [hx]⟩
  · rintro ⟨p, rfl | rfl | rfl | rfl | rfl, e⟩
    · by_cases q : (0 : Int) ∈ xs
      · simp [q] at e; rw [← e]; exact q
      · simp [q] at e
    · by_cases q : (1 : Int) ∈ xs
      · simp [q] at e; rw [← e]; exact q
      · simp [q] at e
    · by_cases q : (2 : Int) ∈ xs
      · simp [q] at e; rw [← e]; exact q
      · simp [q] at e
    · by_cases q : (3 : Int) ∈ xs
      · simp [q] at e; rw [← e]; exact q
      · simp [q] at e
    · by_cases q : (4 : Int) ∈ xs
      · simp [q] at e; rw [← e]; exact q
      · simp [q] at e
theorem num_all : ∀ a b c d e, (0 ≤ m__law_number (ofb a b c d e) ∧ m__law_number (ofb a b c d e) < 32) ∧ m_homes_in (m__law_number (ofb a b c d e)) = ofb a b c d e := by decide +kernel
theorem num_ok {xs : List Int} (h : Gd xs) : (0 ≤ m__law_number xs ∧ m__law_number xs < 32) ∧ m_homes_in (m__law_number xs) = xs := by
  obtain ⟨a, b, c, d, e, rfl⟩ := gd_is h
  exact num_all a b c d e
theorem gd_len {xs : List Int} (h : Gd xs) : xs.length ≤ 5 := by
  obtain ⟨a, b, c, d, e, rfl⟩ := gd_is h
  have hs : ∀ a b c d e, (ofb a b c d e).length ≤ 5 := by decide +kernel
  exact hs a b c d e
abbrev s__law_number : Stmt := top 16
def sp__law_number (K : Fg) : Sp := fun vs H Q _ => ∃ (F : Hp) (homes : (List Int)) (w0 : V), vs = [w0] ∧ Same F H ∧ rp K F homes w0 ∧ (∀ x ∈ homes, 0 ≤ x ∧ x ≤ 4) ∧ Ret K Z0 F H Q (m__law_number homes)
theorem sv__law_number {K : Fg} {homes : (List Int)} (hpre : ∀ x ∈ homes, 0 ≤ x ∧ x ≤ 4) : SpV K (sp__law_number K) (fun (F : Hp) (vs : List V) => ∃ v r, vs = v :: r ∧ rp K F homes v ∧ (fun (_ : Hp) (vs : List V) => vs = []) F r) (m__law_number homes) := by
  intro F H vs Q E s h hQ
  obtain ⟨v0, r0, e0, h0, h⟩ := h
  subst h
  subst e0
  exact ⟨F, homes, v0, rfl, s, h0, hpre, fun F' H' p g r => hQ F' H' p g.gr r⟩
theorem sc__law_number : FnScope ["homes", "found", "home"] ["homes"] (defScope s__law_number) := ⟨rfl, rfl, rfl, by decide +kernel, rfl, by decide +kernel, by decide +kernel⟩
theorem ok__law_number {P : Program} {w : World} {K : Fg} {mg : PySem.Str → Option Value} {base : Heap} (B : Bs mg) {f : Addr} {fd : FuncData} (F : FnP K "_law_number" s__law_number f fd) : FnOk P w K mg base CX0 1 f fd ["homes"] (sp__law_number K) := by
  have nd : (["homes", "found", "home"] : List PySem.Str).Nodup := sc__law_number.nd
  refine F.ok sc__law_number (fun vs H Q E h => ?_) (fun cdv A outer s H0 vs Q E hr h => ?_)
  · obtain ⟨F0, homes, vp_0, rfl, s, hp_0, hpre, hP⟩ := h
    rfl
  · obtain ⟨F0, homes, vp_0, rfl, s, hp_0, hpre, hP⟩ := h
    have g : GrZ Z0 F0 H0 F0 H0 := GrZ.refl s
    refine ⟨_, PSs.nox (by exact (pss_cons (ps_set (i := 1) nd rfl (Or.inl rfl) pe_int) (pss_cons (ps_for PassesOwn.never rfl (pi_listK K (pv 0)) (pg_name (i := 2) nd rfl (Or.inl rfl)) (pss_cons (ps_set (i := 1) nd rfl (Or.inl rfl) (pe_op op_add (pv 1) (pe_ix (ix_listK K) (pe_lst (pa_cons pe_int (pa_cons pe_int (pa_cons pe_int (pa_cons pe_int (pa_cons pe_int pa_nil)))))) (pv 2) (fun _ _ => rfl)))) pss_nil)) (pss_cons (ps_ret (pv 1)) pss_nil)))), ?_⟩
    refine q_setF (K := K) (P := (Ret K Z0 F0 H0 Q)) hP tv_int ?_
    intro found H1 hfound e1 hP
    have s := s.trans e1
    have g := g.grow e1
    refine q_fold (K := K) (P := (Ret K Z0 F0 H0 Q)) (fun (i : Nat) F H σ st => ∃ (ew_home : Option V), σ = [some vp_0, some (Flat.val st), ew_home] ∧ GrZ Z0 F0 H0 F H) hP s (it_list (K := K) (tv_var rfl hp_0)) stb_t ⟨_, rfl, g⟩ (fun i F1 H1 σ1 st h => (by obtain ⟨_, _, gq⟩ := h; exact ⟨gq.sub, trivial⟩)) ?_ ?_
    · rintro i2 home found Fa2 Ha2 Fl2 Hl2 σ2 vt2 Nl2 Pl2 hx2 hr2 fa2 ⟨wj2_2, rfl, g⟩ gl2 hv2 hP hN2
      have s := gl2.sub
      have g := g.then gl2
      have sml2 := Same.refl Fl2
      have hp_0 := up (fa2.trans gl2.ex) hp_0
      have hil2 := (List.getElem?_eq_some_iff.mp hx2).1
      obtain rfl := Flat.is hv2
      refine g_name ?_
      refine q_setF (K := K) (P := Pl2) hP (tv_op (tv_var rfl (Flat.of _)) (tv_op (TvL.tv (tl_lst (ta_rcons tv_int (ta_rcons tv_int (ta_rcons tv_int (ta_rcons tv_int (ta_rcons tv_int ta_rnil))))) (by show 5 ≤ 100000; decide))) (tv_var rfl (Flat.of _)) (op2_ixL (by /- 1 ixd -/ first | ((refine ⟨?_, ?_⟩ <;> simp only [List.length_cons, List.length_nil] <;> omega)) | (have hm_hx2 := hpre _ (List.mem_of_getElem? hx2); ((refine ⟨?_, ?_⟩ <;> simp only [List.length_cons, List.length_nil] <;> omega)))))) op2_add) ?_
      intro found H3 hfound e3 hP
      have s := s.trans e3
      have g := g.grow e3
      first | refine q_endS ?_ | refine q_endC ?_ | refine q_end ?_
      exact hN2 _ hP _ _ _ sml2 ⟨_, rfl, g⟩
    · rintro Fa4 Ha4 Fe4 He4 σ4 found hst4 fa4 ⟨wj4_2, rfl, g⟩ gl4 hP
      have s := gl4.sub
      have g := g.then gl4
      have hp_0 := up (fa4.trans gl4.ex) hp_0
      exact q_retF hP g (tv_var rfl (Flat.of _))
def m__law_drawn (script : Scr) (copies : Int) (reads : Int) (writes : Int) : (List (List Int)) := (lt (rng 0 (copies).toNat) fun (homes : (List Int)) => (lt (m__law_taken homes writes (m__law_cell script (3 : Int))) fun (had : (List Int)) => (lt (lc homes (fun (home : Int) => (!decide (home ∈ had))) (fun (home : Int) => home)) fun (rest : (List Int)) => (lt (lc rest (fun (home : Int) => (decide ((((m__law_cell script (4 : Int)) / (ixI ([(1 : Int), (2 : Int), (4 : Int), (8 : Int), (16 : Int)] : List Int) home)) % (2 : Int)) = (1 : Int)))) (fun (home : Int) => home)) fun (late : (List Int)) => (lt (m__law_taken homes reads (m__law_cell script (5 : Int))) fun (heard : (List Int)) => (lt (cond ((decide (((m__law_cell script (6 : Int)) % (2 : Int)) = (1 : Int))) && (decide ((rest.length : Int) ≥ reads))) (lt (m__law_taken rest reads (m__law_cell script (5 : Int))) fun (heard : (List Int)) => (heard)) (heard)) (fun (heard : (List Int)) => ([had, late, heard] : List (List Int)))))))))
theorem rng_pw (n : Nat) : (rng 0 n).Pairwise (· < ·) := by
  unfold rng
  rw [List.pairwise_map]
  exact List.pairwise_lt_range.imp fun {a b} h => by omega
theorem lc_id (xs : List Int) (c : Int → Bool) : lc xs c (fun home => home) = xs.filter c := by unfold lc; exact List.map_id' _
theorem taken_gd {homes : List Int} {many cell : Int} (h0 : 0 ≤ many) (h1 : many ≤ homes.length) (hg : Gd homes) : Gd (m__law_taken homes many cell) := by
  obtain ⟨p1, p2, p3⟩ := taken_ok (cell := cell) h0 h1 (hg.1.imp fun {a b} q => by omega)
  exact ⟨p1, fun x hx => hg.2 x (p3 x hx)⟩
theorem filter_gd {xs : List Int} (c : Int → Bool) (h : Gd xs) : Gd (xs.filter c) := ⟨h.1.filter c, fun x hx => h.2 x (List.mem_filter.mp hx).1⟩
theorem rng_gd {n : Int} (h : n ≤ 5) : Gd (rng 0 n.toNat) := ⟨rng_pw _, fun x hx => by have := rng_mem x hx; omega⟩
theorem pow5 (h : Int) (h0 : 0 ≤ h) (h1 : h ≤ 4) : 1 ≤ ixI ([1, 2, 4, 8, 16] : List Int) h ∧ ixI ([1, 2, 4, 8, 16] : List Int) h ≤ 16 := by
  have : h = 0 ∨ h = 1 ∨ h = 2 ∨ h = 3 ∨ h = 4 := by omega
  rcases this with rfl | rfl | rfl | rfl | rfl <;> decide +kernel
theorem drawn_ok {script : Scr} {copies reads writes : Int} (h : 1 ≤ copies ∧ copies ≤ 5 ∧ 1 ≤ reads ∧ reads ≤ copies ∧ 1 ≤ writes ∧ writes ≤ copies) : ∃ a b c, m__law_drawn script copies reads writes = [a, b, c] ∧ Gd a ∧ Gd b ∧ Gd c := by
  have hg : Gd (rng 0 copies.toNat) := rng_gd h.2.1
  have hl : (rng 0 copies.toNat).length = copies.toNat := rng_len _ _
  unfold m__law_drawn
  simp only [lt_eq, lc_id]
  refine ⟨_, _, _, rfl, taken_gd (by omega) (by omega) hg, filter_gd _ (filter_gd _ hg), ?_⟩
  generalize hb : (decide (m__law_cell script 6 % 2 = 1) && _) = b
  cases b
  · exact taken_gd (by omega) (by omega) hg
  · rw [Bool.and_eq_true, decide_eq_true_eq, decide_eq_true_eq] at hb
    exact taken_gd (by omega) hb.2 (filter_gd _ hg)
abbrev s__law_drawn : Stmt := top 17
def sp__law_drawn (K : Fg) : Sp := fun vs H Q _ => ∃ (F : Hp) (script : Scr) (copies : Int) (reads : Int) (writes : Int) (w0 : V) (w1 : V) (w2 : V) (w3 : V), vs = [w0, w1, w2, w3] ∧ Same F H ∧ rp K F script w0 ∧ rp K F copies w1 ∧ rp K F reads w2 ∧ rp K F writes w3 ∧ (1 ≤ copies ∧ copies ≤ 5 ∧ 1 ≤ reads ∧ reads ≤ copies ∧ 1 ≤ writes ∧ writes ≤ copies) ∧ RetL K Z0 F H Q (m__law_drawn script copies reads writes)
theorem sv__law_drawn {K : Fg} {script : Scr} {copies : Int} {reads : Int} {writes : Int} (hpre : 1 ≤ copies ∧ copies ≤ 5 ∧ 1 ≤ reads ∧ reads ≤ copies ∧ 1 ≤ writes ∧ writes ≤ copies) : SpL K (sp__law_drawn K) (fun (F : Hp) (vs : List V) => ∃ v r, vs = v :: r ∧ rp K F script v ∧ (fun (F : Hp) (vs : List V) => ∃ v r, vs = v :: r ∧ rp K F copies v ∧ (fun (F : Hp) (vs : List V) => ∃ v r, vs = v :: r ∧ rp K F reads v ∧ (fun (F : Hp) (vs : List V) => ∃ v r, vs = v :: r ∧ rp K F writes v ∧ (fun (_ : Hp) (vs : List V) => vs = []) F r) F r) F r) F r) (m__law_drawn script copies reads writes) := by
  intro F H vs Q E s h hQ
  obtain ⟨v0, r0, e0, h0, h⟩ := h
  obtain ⟨v1, r1, e1, h1, h⟩ := h
  obtain ⟨v2, r2, e2, h2, h⟩ := h
  obtain ⟨v3, r3, e3, h3, h⟩ := h
  subst h
  subst e3
  subst e2
  subst e1
  subst e0
  exact ⟨F, script, copies, reads, writes, v0, v1, v2, v3, rfl, s, h0, h1, h2, h3, hpre, fun F' H' p g n m => hQ F' H' p g.gr n m⟩
theorem sc__law_drawn : FnScope ["script", "copies", "reads", "writes", "homes", "had", "rest", "late", "heard", "home"] ["script", "copies", "reads", "writes"] (defScope s__law_drawn) := ⟨rfl, rfl, rfl, by decide +kernel, rfl, by decide +kernel, by decide +kernel⟩
theorem ok__law_drawn {P : Program} {w : World} {K : Fg} {mg : PySem.Str → Option Value} {base : Heap} (B : Bs mg) (D__law_taken : Dn P w K mg base CX0 "_law_taken" 1 ["homes", "many", "cell"] (sp__law_taken K)) (D__law_cell : Dn P w K mg base CX0 "_law_cell" 1 ["script", "k"] (sp__law_cell K)) {f : Addr} {fd : FuncData} (F : FnP K "_law_drawn" s__law_drawn f fd) : FnOk P w K mg base CX0 2 f fd ["script", "copies", "reads", "writes"] (sp__law_drawn K) := by
  obtain ⟨f__law_taken, d__law_taken, G__law_taken, g__law_taken, k__law_taken, b__law_taken⟩ := D__law_taken
  obtain ⟨f__law_cell, d__law_cell, G__law_cell, g__law_cell, k__law_cell, b__law_cell⟩ := D__law_cell
  have nd : (["script", "copies", "reads", "writes", "homes", "had", "rest", "late", "heard", "home"] : List PySem.Str).Nodup := sc__law_drawn.nd
  refine F.ok sc__law_drawn (fun vs H Q E h => ?_) (fun cdv A outer s H0 vs Q E hr h => ?_)
  · obtain ⟨F0, script, copies, reads, writes, vp_0, w1, w2, w3, rfl, s, hp_0, hw1, hw2, hw3, hpre, hP⟩ := h
    rfl
  · obtain ⟨F0, script, copies, reads, writes, vp_0, w1, w2, w3, rfl, s, hp_0, hw1, hw2, hw3, hpre, hP⟩ := h
    obtain rfl := Flat.is hw1
    obtain rfl := Flat.is hw2
    obtain rfl := Flat.is hw3
    have g : GrZ Z0 F0 H0 F0 H0 := GrZ.refl s
    refine ⟨_, PSs.nox (by exact (pss_cons (ps_set (i := 4) nd rfl (Or.inl rfl) (pe_listRg (by rfl) (by rfl) B.b_list (prg_1 (by rfl) B.b_range (pv 1)))) (pss_cons (ps_set (i := 5) nd rfl (Or.inr rfl) (pe_call G__law_taken (hr.mono (by omega)) rfl g__law_taken k__law_taken b__law_taken .nil pass0 (pa_cons (pv 4) (pa_cons (pv 3) (pa_cons (pe_call G__law_cell (hr.mono (by omega)) rfl g__law_cell k__law_cell b__law_cell .nil pass0 (pa_cons (pv 0) (pa_cons pe_int pa_nil))) pa_nil))))) (pss_cons (ps_setLc (i := 6) (own := [("home", 9)]) (g := gName 9) (tt := _) rfl nd rfl rfl (sw_true rfl rfl rfl (by decide +kernel)) (pi_listK K (pv 4)) (blkOk_by (own := [("home", 9)]) (N := ["script", "copies", "reads", "writes", "homes", "had", "rest", "late", "heard", "home"]) (sc := defScope s__law_drawn) (by decide +kernel)) (fun _ _ _ _ _ => pg_name (i := 9) nd rfl (Or.inl rfl)) (fun _ _ _ _ _ => (pts_one (pt_cmpR (notIn_seqK K) (pv 9) (pv 5) (by rfl)))) (fun _ _ _ _ _ => (pv 9))) (pss_cons (ps_setLc (i := 7) (own := [("home", 9)]) (g := gName 9) (tt := _) rfl nd rfl rfl (sw_true rfl rfl rfl (by decide +kernel)) (pi_listK K (pv 6)) (blkOk_by (own := [("home", 9)]) (N := ["script", "copies", "reads", "writes", "homes", "had", "rest", "late", "heard", "home"]) (sc := defScope s__law_drawn) (by decide +kernel)) (fun _ _ _ _ _ => pg_name (i := 9) nd rfl (Or.inl rfl)) (fun _ _ _ _ _ => (pts_one (pt_cmpR op_eq (pe_op op_mod (pe_op op_fdiv (pe_call G__law_cell (hr.mono (by omega)) rfl g__law_cell k__law_cell b__law_cell .nil pass0 (pa_cons (pv 0) (pa_cons pe_int pa_nil))) (pe_ix (ix_listK K) (pe_lst (pa_cons pe_int (pa_cons pe_int (pa_cons pe_int (pa_cons pe_int (pa_cons pe_int pa_nil)))))) (pv 9) (fun _ _ => rfl))) pe_int) pe_int (nomark _)))) (fun _ _ _ _ _ => (pv 9))) (pss_cons (ps_set (i := 8) nd rfl (Or.inl rfl) (pe_call G__law_taken (hr.mono (by omega)) rfl g__law_taken k__law_taken b__law_taken .nil pass0 (pa_cons (pv 4) (pa_cons (pv 2) (pa_cons (pe_call G__law_cell (hr.mono (by omega)) rfl g__law_cell k__law_cell b__law_cell .nil pass0 (pa_cons (pv 0) (pa_cons pe_int pa_nil))) pa_nil))))) (Evl.pss_cut (ps_if (PW.pt (pw_and (pt_cmpR op_eq (pe_op op_mod (pe_call G__law_cell (hr.mono (by omega)) rfl g__law_cell k__law_cell b__law_cell .nil pass0 (pa_cons (pv 0) (pa_cons pe_int pa_nil))) pe_int) pe_int (nomark _)) (pw_and1 (pt_cmpR op_ge (pe_callB (len_seqK K) (by rfl) B.b_len (by decide +kernel) (pa_cons (pv 6) pa_nil)) (pv 2) (nomark _))))) (pss_cons (ps_set (i := 8) nd rfl (Or.inl rfl) (pe_call G__law_taken (hr.mono (by omega)) rfl g__law_taken k__law_taken b__law_taken .nil pass0 (pa_cons (pv 6) (pa_cons (pv 2) (pa_cons (pe_call G__law_cell (hr.mono (by omega)) rfl g__law_cell k__law_cell b__law_cell .nil pass0 (pa_cons (pv 0) (pa_cons pe_int pa_nil))) pa_nil))))) pss_nil) pss_nil) (pss_cons (ps_ret (pe_lst (pa_cons (pv 5) (pa_cons (pv 7) (pa_cons (pv 8) pa_nil))))) pss_nil)))))))), ?_⟩
    refine q_set (K := K) (P := (RetL K Z0 F0 H0 Q)) hP s (TvL.tv (tl_listRg (tv_var rfl (Flat.of _)) (by /- 1 rlo -/ omega) (by /- 2 rhl -/ omega))) ?_
    intro homes F1 H2 v4 hhomes gr3 h_4 hP
    have s := gr3.sub
    have g := g.then gr3
    have hp_0 := up gr3.ex hp_0
    have hgh : Gd homes := by (rw [hhomes]; exact rng_gd hpre.2.1)
    have hlh : homes.length = copies.toNat := by (rw [hhomes]; exact rng_len _ _)
    refine q_set (K := K) (P := (RetL K Z0 F0 H0 Q)) hP s (TvL.tv (tl_call (ta_cons (tv_var rfl h_4) (ta_cons (tv_flat (tv_var rfl (Flat.of _))) (ta_cons (tv_flat (tv_call (ta_cons (tv_var rfl (up s hp_0)) (ta_cons tv_int ta_nil)) (sv__law_cell (by /- 3 pre:_law_cell -/ first | decide | assumption | omega)))) ta_nil))) (sv__law_taken (by /- 4 pre:_law_taken -/ first | decide | assumption | omega)))) ?_
    intro had F5 H6 v8 hhad gr7 h_8 hP
    have s := gr7.sub
    have g := g.then gr7
    have hp_0 := up gr7.ex hp_0
    have h_4 := up gr7.ex h_4
    refine q_set (K := K) (P := (RetL K Z0 F0 H0 Q)) hP s (TvL.tv (tl_lc (fun (home : Int) => (!decide (home ∈ had))) (fun (home : Int) => home) (it_list (K := K) (tv_var rfl h_4)) stb_t trivial (by /- 5 lclen -/ first | (simp only [rng_len]; omega) | omega) (fun i9 home v9 F9 H9 hx9 gr9 hv9 R9 k9 => g_nameF hv9 fun _ =>  (k9 _ rfl ((tt_test (K := K) (tv_op (tv_var rfl (Flat.of _)) (tv_var rfl (up gr9.sub (up gr9.ex h_8))) op2_niL))) (fun H9' e9 hcl9 => (tv_flat (tv_var rfl (Flat.of _)))))))) ?_
    intro rest F10 H11 v13 hrest gr12 h_13 hP
    have s := gr12.sub
    have g := g.then gr12
    have hp_0 := up gr12.ex hp_0
    have h_4 := up gr12.ex h_4
    have h_8 := up gr12.ex h_8
    have hgr : Gd rest := by (rw [hrest, lc_id]; exact filter_gd _ hgh)
    have hlr := gd_len hgr
    refine q_set (K := K) (P := (RetL K Z0 F0 H0 Q)) hP s (TvL.tv (tl_lc (fun (home : Int) => (decide ((((m__law_cell script (4 : Int)) / (ixI ([(1 : Int), (2 : Int), (4 : Int), (8 : Int), (16 : Int)] : List Int) home)) % (2 : Int)) = (1 : Int)))) (fun (home : Int) => home) (it_list (K := K) (tv_var rfl h_13)) stb_t trivial (by /- 10 lclen -/ first | (simp only [rng_len]; omega) | omega) (fun i14 home v14 F14 H14 hx14 gr14 hv14 R14 k14 => g_nameF hv14 fun _ =>  (k14 _ rfl ((tt_test (K := K) (tv_op (tv_op (tv_op (tv_call (ta_cons (tv_var rfl (up gr14.sub (up gr14.ex hp_0))) (ta_cons tv_int ta_nil)) (sv__law_cell (by /- 6 pre:_law_cell -/ first | (first | decide | assumption | omega) | (have hm_hx14 := hgr.2 _ (List.mem_of_getElem? hx14); (first | decide | assumption | omega))))) (tv_op (TvL.tv (tl_lst (ta_rcons tv_int (ta_rcons tv_int (ta_rcons tv_int (ta_rcons tv_int (ta_rcons tv_int ta_rnil))))) (by show 5 ≤ 100000; decide))) (tv_var rfl (Flat.of _)) (op2_ixL (by /- 7 ixd -/ first | ((refine ⟨?_, ?_⟩ <;> simp only [List.length_cons, List.length_nil] <;> omega)) | (have hm_hx14 := hgr.2 _ (List.mem_of_getElem? hx14); ((refine ⟨?_, ?_⟩ <;> simp only [List.length_cons, List.length_nil] <;> omega)))))) (op2_div (by /- 8 CDiv -/ (have hm := hgr.2 _ (List.mem_of_getElem? hx14)); (have hp := pow5 home hm.1 hm.2); exact ⟨by omega, by omega⟩))) tv_int (op2_mod (by /- 9 pos -/ first | (first | decide | omega) | (have hm_hx14 := hgr.2 _ (List.mem_of_getElem? hx14); (first | decide | omega))))) tv_int op2_eqI))) (fun H14' e14 hcl14 => (tv_flat (tv_var rfl (Flat.of _)))))))) ?_
    intro late F15 H16 v18 hlate gr17 h_18 hP
    have s := gr17.sub
    have g := g.then gr17
    have hp_0 := up gr17.ex hp_0
    have h_4 := up gr17.ex h_4
    have h_8 := up gr17.ex h_8
    have h_13 := up gr17.ex h_13
    refine q_set (K := K) (P := (RetL K Z0 F0 H0 Q)) hP s (TvL.tv (tl_call (ta_cons (tv_var rfl h_4) (ta_cons (tv_flat (tv_var rfl (Flat.of _))) (ta_cons (tv_flat (tv_call (ta_cons (tv_var rfl (up s hp_0)) (ta_cons tv_int ta_nil)) (sv__law_cell (by /- 11 pre:_law_cell -/ first | decide | assumption | omega)))) ta_nil))) (sv__law_taken (by /- 12 pre:_law_taken -/ first | decide | assumption | omega)))) ?_
    intro heard F19 H20 v22 hheard gr21 h_22 hP
    have s := gr21.sub
    have g := g.then gr21
    have hp_0 := up gr21.ex hp_0
    have h_4 := up gr21.ex h_4
    have h_8 := up gr21.ex h_8
    have h_13 := up gr21.ex h_13
    have h_18 := up gr21.ex h_18
    refine q_ifJ (F := F19) (P := (RetL K Z0 F0 H0 Q)) hP (tt_and (tt_test (K := K) (tv_op (tv_op (tv_call (ta_cons (tv_var rfl (up s hp_0)) (ta_cons tv_int ta_nil)) (sv__law_cell (by /- 13 pre:_law_cell -/ first | decide | assumption | omega))) tv_int (op2_mod (by /- 14 pos -/ first | decide | omega))) tv_int op2_eqI)) (fun hq23 => (tt_test (K := K) (tv_op (tv_cb (ta_cons (tv_var rfl (up s h_13)) ta_nil) cb_lenL) (tv_var rfl (Flat.of _)) op2_ge)))) (fun F H σ st => ∃ (ev_heard : V), σ = [some vp_0, some (Flat.val copies), some (Flat.val reads), some (Flat.val writes), some v4, some v8, some v13, some v18, some ev_heard, none] ∧ GrZ Z0 F0 H0 F H ∧ rp K F st ev_heard) ?_ ?_ ?_
    · intro hc25 Hc25 Nj25 ec25 Pj25 hP hN25
      have smj25 := Same.refl F19
      have s := s.trans ec25
      have g := g.grow ec25
      refine q_set (K := K) (P := Pj25) hP s (TvL.tv (tl_call (ta_cons (tv_var rfl h_13) (ta_cons (tv_flat (tv_var rfl (Flat.of _))) (ta_cons (tv_flat (tv_call (ta_cons (tv_var rfl (up s hp_0)) (ta_cons tv_int ta_nil)) (sv__law_cell (by /- 15 pre:_law_cell -/ first | (first | decide | assumption | omega) | ((try simp only [decide_eq_true_eq, decide_eq_false_iff_not, Bool.not_eq_true', Bool.not_eq_false', Bool.and_eq_true, Bool.and_eq_false_iff, Bool.or_eq_true, Bool.or_eq_false_iff] at hc25); (first | decide | assumption | omega)))))) ta_nil))) (sv__law_taken (by /- 16 pre:_law_taken -/ first | (first | decide | assumption | omega) | ((try simp only [decide_eq_true_eq, decide_eq_false_iff_not, Bool.not_eq_true', Bool.not_eq_false', Bool.and_eq_true, Bool.and_eq_false_iff, Bool.or_eq_true, Bool.or_eq_false_iff] at hc25); (first | decide | assumption | omega)))))) ?_
      intro heard F26 H27 v29 hheard gr28 h_29 hP
      have s := gr28.sub
      have g := g.then gr28
      have smj25 := smj25.trans gr28.ex
      have hp_0 := up gr28.ex hp_0
      have h_4 := up gr28.ex h_4
      have h_8 := up gr28.ex h_8
      have h_13 := up gr28.ex h_13
      have h_18 := up gr28.ex h_18
      have h_22 := up gr28.ex h_22
      first | refine q_endS ?_ | refine q_endC ?_ | refine q_end ?_
      exact hN25 _ hP _ _ _ smj25 ⟨v29, rfl, g, h_29⟩
    · intro hc25 Hc25 Nj25 ec25 Pj25 hP hN25
      have smj25 := Same.refl F19
      have s := s.trans ec25
      have g := g.grow ec25
      first | refine q_endS ?_ | refine q_endC ?_ | refine q_end ?_
      exact hN25 _ hP _ _ _ smj25 ⟨v22, rfl, g, h_22⟩
    · rintro heard Fj25 Hj25 σ25 hst25 fj25 ⟨vj25_8, rfl, g, hj25_8⟩ hP
      have s := g.sub
      have hp_0 := up fj25 hp_0
      have h_4 := up fj25 h_4
      have h_8 := up fj25 h_8
      have h_13 := up fj25 h_13
      have h_18 := up fj25 h_18
      exact q_retL hP g (tl_lst (ta_rcons (tv_var rfl h_8) (ta_rcons (tv_var rfl h_18) (ta_rcons (tv_var rfl hj25_8) ta_rnil))) (by show 3 ≤ 100000; decide))
def m__law_bring (number : Int) : (List PySem.Str) := ([(("bring " : PySem.Str) ++ (strI number))] : List PySem.Str)
abbrev s__law_bring : Stmt := top 18
def sp__law_bring (K : Fg) : Sp := fun vs H Q _ => ∃ (F : Hp) (number : Int) (w0 : V), vs = [w0] ∧ Same F H ∧ rp K F number w0 ∧ (0 ≤ number ∧ number ≤ 1000) ∧ RetL K Z0 F H Q (m__law_bring number)
theorem sv__law_bring {K : Fg} {number : Int} (hpre : 0 ≤ number ∧ number ≤ 1000) : SpL K (sp__law_bring K) (fun (F : Hp) (vs : List V) => ∃ v r, vs = v :: r ∧ rp K F number v ∧ (fun (_ : Hp) (vs : List V) => vs = []) F r) (m__law_bring number) := by
  intro F H vs Q E s h hQ
  obtain ⟨v0, r0, e0, h0, h⟩ := h
  subst h
  subst e0
  exact ⟨F, number, v0, rfl, s, h0, hpre, fun F' H' p g n m => hQ F' H' p g.gr n m⟩
theorem sc__law_bring : FnScope ["number"] ["number"] (defScope s__law_bring) := ⟨rfl, rfl, rfl, by decide +kernel, rfl, by decide +kernel, by decide +kernel⟩
theorem ok__law_bring {P : Program} {w : World} {K : Fg} {mg : PySem.Str → Option Value} {base : Heap} (B : Bs mg) {f : Addr} {fd : FuncData} (F : FnP K "_law_bring" s__law_bring f fd) : FnOk P w K mg base CX0 1 f fd ["number"] (sp__law_bring K) := by
  have nd : (["number"] : List PySem.Str).Nodup := sc__law_bring.nd
  refine F.ok sc__law_bring (fun vs H Q E h => ?_) (fun cdv A outer s H0 vs Q E hr h => ?_)
  · obtain ⟨F0, number, w0, rfl, s, hw0, hpre, hP⟩ := h
    rfl
  · obtain ⟨F0, number, w0, rfl, s, hw0, hpre, hP⟩ := h
    obtain rfl := Flat.is hw0
    have g : GrZ Z0 F0 H0 F0 H0 := GrZ.refl s
    refine ⟨_, PSs.nox (by exact (pss_cons (ps_ret (pe_lst (pa_cons (pe_op op_add_str pe_str (pe_callTy call_str_int (by rfl) B.b_str (by decide +kernel) (pa_cons (pv 0) pa_nil))) pa_nil))) pss_nil)), ?_⟩
    exact q_retL hP g (tl_lst (ta_rcons (tv_flat (tv_op tv_str (tv_cb (ta_cons (tv_var rfl (Flat.of _)) ta_nil) (cb_strI (by /- 1 log -/ exact log_small (by omega) (by omega)))) (op2_cats (by /- 2 strlen -/ (have : (("bring " : PySem.Str)).length = 6 := by decide +kernel); (have := strI_len (n := number) (log_small (by omega) (by omega))); ((try simp only [app_len, List.map_cons, List.map_nil, List.sum_cons, List.sum_nil, List.length_cons, List.length_nil]); omega))))) ta_rnil) (by show 1 ≤ 100000; decide))
theorem sum_le {xs : List PySem.Str} {n : Nat} : (∀ x ∈ xs, x.length ≤ n) → (xs.map (·.length)).sum ≤ xs.length * n := by
  induction xs with
  | nil => intro _; exact Nat.zero_le _
  | cons a t ih =>
    intro h
    have h1 := h a (List.mem_cons_self ..)
    have h2 := ih fun x hx => h x (List.mem_cons_of_mem _ hx)
    rw [List.map_cons, List.sum_cons, List.length_cons, Nat.succ_mul]
    omega
theorem lbring_len (n : Int) : (m__law_bring n).length = 1 := rfl
theorem ixI_mem {α : Type} [Inhabited α] {xs : List α} {i : Int} (h : InB xs.length i) : ixI xs i ∈ xs := List.mem_of_getElem? (ix_pop h)
def m__law_due (counts : (List Int)) (had : (List Int)) (late : (List Int)) (heard : (List Int)) : (List PySem.Str) := (lt (ixI counts (0 : Int)) fun (copies : Int) => (lt ([] : List PySem.Str) fun (rows : (List PySem.Str)) => (lt (List.foldl (fun (rows : ((List PySem.Str))) (k : Int) => (lt (rows ++ ([(ixI ([("come a.a.a 0" : PySem.Str), ("come b.a.a 1" : PySem.Str), ("come c.a.a 2" : PySem.Str), ("come d.a.a 3" : PySem.Str), ("come e.a.a 4" : PySem.Str)] : List PySem.Str) k)] : List PySem.Str)) fun (rows : (List PySem.Str)) => (rows))) (rows) (rng 0 (copies).toNat)) (fun (rows : (List PySem.Str)) => (lt (rows ++ ([(Txt.join (" " : PySem.Str) (([("thing" : PySem.Str), ("0" : PySem.Str)] : List PySem.Str) ++ (lc counts (fun (count : Int) => true) (fun (count : Int) => (strI count))))), ("write x 0 v" : PySem.Str)] : List PySem.Str)) fun (rows : (List PySem.Str)) => (lt copies fun (sent : Int) => (lt (List.foldl (fun (rows : ((List PySem.Str))) (home : Int) => (lt (rows ++ (m__law_bring (home + (1 : Int)))) fun (rows : (List PySem.Str)) => (rows))) (rows) had) (fun (rows : (List PySem.Str)) => (lt (List.foldl (fun (st : (Int × (List PySem.Str))) (home : Int) => (lt2 st fun (sent : Int) (rows : (List PySem.Str)) => (lt (sent + (1 : Int)) fun (sent : Int) => (lt (rows ++ (m__law_bring sent)) fun (rows : (List PySem.Str)) => (sent, rows))))) (sent, rows) had) (fun (st : (Int × (List PySem.Str))) => (lt2 st fun (sent : Int) (rows : (List PySem.Str)) => (lt (rows ++ ([("read y 0" : PySem.Str)] : List PySem.Str)) fun (rows : (List PySem.Str)) => (lt (List.foldl (fun (rows : ((List PySem.Str))) (home : Int) => (lt (rows ++ (m__law_bring (home + (1 : Int)))) fun (rows : (List PySem.Str)) => (rows))) (rows) late) (fun (rows : (List PySem.Str)) => (lt (List.foldl (fun (rows : ((List PySem.Str))) (home : Int) => (lt (rows ++ (m__law_bring ((sent + (1 : Int)) + home))) fun (rows : (List PySem.Str)) => (rows))) (rows) heard) (fun (rows : (List PySem.Str)) => (lt ((sent + copies) + (late.length : Int)) fun (sent : Int) => (lt (List.foldl (fun (st : (Int × (List PySem.Str))) (home : Int) => (lt2 st fun (sent : Int) (rows : (List PySem.Str)) => (lt (sent + (1 : Int)) fun (sent : Int) => (lt (rows ++ (m__law_bring sent)) fun (rows : (List PySem.Str)) => (sent, rows))))) (sent, rows) heard) (fun (st : (Int × (List PySem.Str))) => (lt2 st fun (sent : Int) (rows : (List PySem.Str)) => rows))))))))))))))))))))
abbrev s__law_due : Stmt := top 19
def sp__law_due (K : Fg) : Sp := fun vs H Q _ => ∃ (F : Hp) (counts : (List Int)) (had : (List Int)) (late : (List Int)) (heard : (List Int)) (w0 : V) (w1 : V) (w2 : V) (w3 : V), vs = [w0, w1, w2, w3] ∧ Same F H ∧ rp K F counts w0 ∧ rp K F had w1 ∧ rp K F late w2 ∧ rp K F heard w3 ∧ (counts.length = 3 ∧ (∀ x ∈ counts, 1 ≤ x ∧ x ≤ 5) ∧ (had.length ≤ 5 ∧ ∀ x ∈ had, 0 ≤ x ∧ x ≤ 4) ∧ (late.length ≤ 5 ∧ ∀ x ∈ late, 0 ≤ x ∧ x ≤ 4) ∧ (heard.length ≤ 5 ∧ ∀ x ∈ heard, 0 ≤ x ∧ x ≤ 4)) ∧ Ret K Z0 F H Q (m__law_due counts had late heard)
theorem sv__law_due {K : Fg} {counts : (List Int)} {had : (List Int)} {late : (List Int)} {heard : (List Int)} (hpre : counts.length = 3 ∧ (∀ x ∈ counts, 1 ≤ x ∧ x ≤ 5) ∧ (had.length ≤ 5 ∧ ∀ x ∈ had, 0 ≤ x ∧ x ≤ 4) ∧ (late.length ≤ 5 ∧ ∀ x ∈ late, 0 ≤ x ∧ x ≤ 4) ∧ (heard.length ≤ 5 ∧ ∀ x ∈ heard, 0 ≤ x ∧ x ≤ 4)) : SpV K (sp__law_due K) (fun (F : Hp) (vs : List V) => ∃ v r, vs = v :: r ∧ rp K F counts v ∧ (fun (F : Hp) (vs : List V) => ∃ v r, vs = v :: r ∧ rp K F had v ∧ (fun (F : Hp) (vs : List V) => ∃ v r, vs = v :: r ∧ rp K F late v ∧ (fun (F : Hp) (vs : List V) => ∃ v r, vs = v :: r ∧ rp K F heard v ∧ (fun (_ : Hp) (vs : List V) => vs = []) F r) F r) F r) F r) (m__law_due counts had late heard) := by
  intro F H vs Q E s h hQ
  obtain ⟨v0, r0, e0, h0, h⟩ := h
  obtain ⟨v1, r1, e1, h1, h⟩ := h
  obtain ⟨v2, r2, e2, h2, h⟩ := h
  obtain ⟨v3, r3, e3, h3, h⟩ := h
  subst h
  subst e3
  subst e2
  subst e1
  subst e0
  exact ⟨F, counts, had, late, heard, v0, v1, v2, v3, rfl, s, h0, h1, h2, h3, hpre, fun F' H' p g r => hQ F' H' p g.gr r⟩
theorem sc__law_due : FnScope ["counts", "had", "late", "heard", "copies", "rows", "k", "sent", "home", "count"] ["counts", "had", "late", "heard"] (defScope s__law_due) := ⟨rfl, rfl, rfl, by decide +kernel, rfl, by decide +kernel, by decide +kernel⟩
theorem ok__law_due {P : Program} {w : World} {K : Fg} {mg : PySem.Str → Option Value} {base : Heap} (B : Bs mg) (D__law_bring : Dn P w K mg base CX0 "_law_bring" 1 ["number"] (sp__law_bring K)) {f : Addr} {fd : FuncData} (F : FnP K "_law_due" s__law_due f fd) : FnOk P w K mg base CX0 2 f fd ["counts", "had", "late", "heard"] (sp__law_due K) := by
  obtain ⟨f__law_bring, d__law_bring, G__law_bring, g__law_bring, k__law_bring, b__law_bring⟩ := D__law_bring
  have nd : (["counts", "had", "late", "heard", "copies", "rows", "k", "sent", "home", "count"] : List PySem.Str).Nodup := sc__law_due.nd
  refine F.ok sc__law_due (fun vs H Q E h => ?_) (fun cdv A outer s H0 vs Q E hr h => ?_)
  · obtain ⟨F0, counts, had, late, heard, vp_0, vp_1, vp_2, vp_3, rfl, s, hp_0, hp_1, hp_2, hp_3, hpre, hP⟩ := h
    rfl
  · obtain ⟨F0, counts, had, late, heard, vp_0, vp_1, vp_2, vp_3, rfl, s, hp_0, hp_1, hp_2, hp_3, hpre, hP⟩ := h
    have g : GrZ Z0 F0 H0 F0 H0 := GrZ.refl s
    refine ⟨_, PSs.nox (by exact (pss_cons (ps_set (i := 4) nd rfl (Or.inl rfl) (pe_ix (ix_listK K) (pv 0) pe_int (fun _ _ => rfl))) (pss_cons (ps_set (i := 5) nd rfl (Or.inl rfl) (pe_lst pa_nil)) (pss_cons (ps_for PassesOwn.never rfl (pi_range1 rfl B.b_range (pa_cons (pv 4) pa_nil)) (pg_name (i := 6) nd rfl (Or.inl rfl)) (pss_cons (ps_set (i := 5) nd rfl (Or.inl rfl) (pe_op op_cat (pv 5) (pe_lst (pa_cons (pe_ix (ix_listK K) (pe_lst (pa_cons pe_str (pa_cons pe_str (pa_cons pe_str (pa_cons pe_str (pa_cons pe_str pa_nil)))))) (pv 6) (fun _ _ => rfl)) pa_nil)))) pss_nil)) (pss_cons (ps_set (i := 5) nd rfl (Or.inl rfl) (pe_op op_cat (pv 5) (pe_lst (pa_cons (pe_m1 PySem.F.slot_str_join PySem.F.type_str_join (join_mK K) pe_str (pe_op op_cat (pe_lst (pa_cons pe_str (pa_cons pe_str pa_nil))) (pe_lc (own := [("count", 9)]) (g := gName 9) (tt := _) rfl nd (pi_listK K (pv 0)) (blkOk_by (own := [("count", 9)]) (N := ["counts", "had", "late", "heard", "copies", "rows", "k", "sent", "home", "count"]) (sc := defScope s__law_due) (by decide +kernel)) (fun _ _ _ _ _ => pg_name (i := 9) nd rfl (Or.inl rfl)) (fun _ _ _ _ _ => pts_nil) (fun _ _ _ _ _ => (pe_callTy call_str_int (by rfl) B.b_str (by decide +kernel) (pa_cons (pv 9) pa_nil)))))) (pa_cons pe_str pa_nil))))) (pss_cons (ps_set (i := 7) nd rfl (Or.inl rfl) (pv 4)) (pss_cons (ps_for PassesOwn.never rfl (pi_listK K (pv 1)) (pg_name (i := 8) nd rfl (Or.inl rfl)) (pss_cons (ps_set (i := 5) nd rfl (Or.inl rfl) (pe_op op_cat (pv 5) (pe_call G__law_bring (hr.mono (by omega)) rfl g__law_bring k__law_bring b__law_bring .nil pass0 (pa_cons (pe_op op_add (pv 8) pe_int) pa_nil)))) pss_nil)) (pss_cons (ps_for PassesOwn.never rfl (pi_listK K (pv 1)) (pg_name (i := 8) nd rfl (Or.inl rfl)) (pss_cons (ps_set (i := 7) nd rfl (Or.inl rfl) (pe_op op_add (pv 7) pe_int)) (pss_cons (ps_set (i := 5) nd rfl (Or.inl rfl) (pe_op op_cat (pv 5) (pe_call G__law_bring (hr.mono (by omega)) rfl g__law_bring k__law_bring b__law_bring .nil pass0 (pa_cons (pv 7) pa_nil)))) pss_nil))) (pss_cons (ps_set (i := 5) nd rfl (Or.inl rfl) (pe_op op_cat (pv 5) (pe_lst (pa_cons pe_str pa_nil)))) (pss_cons (ps_for PassesOwn.never rfl (pi_listK K (pv 2)) (pg_name (i := 8) nd rfl (Or.inl rfl)) (pss_cons (ps_set (i := 5) nd rfl (Or.inl rfl) (pe_op op_cat (pv 5) (pe_call G__law_bring (hr.mono (by omega)) rfl g__law_bring k__law_bring b__law_bring .nil pass0 (pa_cons (pe_op op_add (pv 8) pe_int) pa_nil)))) pss_nil)) (pss_cons (ps_for PassesOwn.never rfl (pi_listK K (pv 3)) (pg_name (i := 8) nd rfl (Or.inl rfl)) (pss_cons (ps_set (i := 5) nd rfl (Or.inl rfl) (pe_op op_cat (pv 5) (pe_call G__law_bring (hr.mono (by omega)) rfl g__law_bring k__law_bring b__law_bring .nil pass0 (pa_cons (pe_op op_add (pe_op op_add (pv 7) pe_int) (pv 8)) pa_nil)))) pss_nil)) (pss_cons (ps_set (i := 7) nd rfl (Or.inl rfl) (pe_op op_add (pe_op op_add (pv 7) (pv 4)) (pe_callB (len_seqK K) (by rfl) B.b_len (by decide +kernel) (pa_cons (pv 2) pa_nil)))) (pss_cons (ps_for PassesOwn.never rfl (pi_listK K (pv 3)) (pg_name (i := 8) nd rfl (Or.inl rfl)) (pss_cons (ps_set (i := 7) nd rfl (Or.inl rfl) (pe_op op_add (pv 7) pe_int)) (pss_cons (ps_set (i := 5) nd rfl (Or.inl rfl) (pe_op op_cat (pv 5) (pe_call G__law_bring (hr.mono (by omega)) rfl g__law_bring k__law_bring b__law_bring .nil pass0 (pa_cons (pv 7) pa_nil)))) pss_nil))) (pss_cons (ps_ret (pv 5)) pss_nil)))))))))))))), ?_⟩
    refine q_setF (K := K) (P := (Ret K Z0 F0 H0 Q)) hP (tv_op (tv_var rfl (up s hp_0)) tv_int (op2_ixL (by /- 1 ix -/ first | exact ⟨by decide, by decide⟩ | exact ⟨by omega, by omega⟩))) ?_
    intro copies H1 hcopies e1 hP
    have s := s.trans e1
    have g := g.grow e1
    have hc0 : 1 ≤ copies ∧ copies ≤ 5 := by (rw [hcopies]; exact hpre.2.1 _ (ixI_mem ⟨by omega, by omega⟩))
    refine q_set (K := K) (P := (Ret K Z0 F0 H0 Q)) hP s (TvL.tv (tl_lst ta_rnil (by decide))) ?_
    intro rows F2 H3 v5 hrows gr4 h_5 hP
    have s := gr4.sub
    have g := g.then gr4
    have hp_0 := up gr4.ex hp_0
    have hp_1 := up gr4.ex hp_1
    have hp_2 := up gr4.ex hp_2
    have hp_3 := up gr4.ex hp_3
    have hlen6 := congrArg List.length hrows
    try simp only [List.length_append, List.length_cons, List.length_nil, lc_true_len, rng_len, lbring_len] at hlen6
    refine q_fold (K := K) (P := (Ret K Z0 F0 H0 Q)) (fun (i : Nat) F H σ st => ∃ (ev_rows : V) (ew_k : Option V), σ = [some vp_0, some vp_1, some vp_2, some vp_3, some (Flat.val copies), some ev_rows, ew_k, none, none, none] ∧ GrZ Z0 F0 H0 F H ∧ rp K F st ev_rows ∧ st.length ≤ i) hP s (it_range1 (K := K) (tv_var rfl (Flat.of _)) (by /- 2 rlo -/ omega) (by /- 3 rhi -/ omega)) stb_t ⟨v5, _, rfl, g, h_5, (by /- 7 inv0 -/ first | omega | ((try simp only [hcopies, hrows, List.length_append, List.length_cons, List.length_nil, lc_true_len, rng_len, lbring_len]); omega) | rfl | (subst_vars; first | omega | (simp; done) | (simp; omega)))⟩ (fun i F1 H1 σ1 st h => (by obtain ⟨_, _, _, gq, _⟩ := h; exact ⟨gq.sub, trivial⟩)) ?_ ?_
    · rintro i7 k rows Fa7 Ha7 Fl7 Hl7 σ7 vt7 Nl7 Pl7 hx7 hr7 fa7 ⟨vj7_5, wj7_6, rfl, g, hj7_5, hx_7⟩ gl7 hv7 hP hN7
      have s := gl7.sub
      have g := g.then gl7
      have sml7 := Same.refl Fl7
      try dsimp only at hx_7
      have hp_0 := up (fa7.trans gl7.ex) hp_0
      have hp_1 := up (fa7.trans gl7.ex) hp_1
      have hp_2 := up (fa7.trans gl7.ex) hp_2
      have hp_3 := up (fa7.trans gl7.ex) hp_3
      have hj7_5 := up gl7.ex hj7_5
      have hil7 := (List.getElem?_eq_some_iff.mp hx7).1
      simp only [rng_len] at hil7
      obtain rfl := Flat.is hv7
      refine g_name ?_
      refine q_set (K := K) (P := Pl7) hP s (TvL.tv (tl_op (tv_var rfl hj7_5) (TvL.tv (tl_lst (ta_rcons (tv_flat (tv_op (TvL.tv (tl_lst (ta_rcons tv_str (ta_rcons tv_str (ta_rcons tv_str (ta_rcons tv_str (ta_rcons tv_str ta_rnil))))) (by show 5 ≤ 100000; decide))) (tv_var rfl (Flat.of _)) (op2_ixL (by /- 4 ixd -/ first | ((refine ⟨?_, ?_⟩ <;> simp only [List.length_cons, List.length_nil] <;> omega)) | (have hr_hx7 := rng_at hx7; ((refine ⟨?_, ?_⟩ <;> simp only [List.length_cons, List.length_nil] <;> omega))))))) ta_rnil) (by show 1 ≤ 100000; decide))) (opL_cat (by /- 5 len -/ first | (first | (simp only [List.length_append, List.length_cons, List.length_nil, lc_true_len, rng_len, lbring_len]; omega) | omega) | (have hr_hx7 := rng_at hx7; (first | (simp only [List.length_append, List.length_cons, List.length_nil, lc_true_len, rng_len, lbring_len]; omega) | omega)))))) ?_
      intro rows F8 H9 v11 hrows gr10 h_11 hP
      have s := gr10.sub
      have g := g.then gr10
      have sml7 := sml7.trans gr10.ex
      have hp_0 := up gr10.ex hp_0
      have hp_1 := up gr10.ex hp_1
      have hp_2 := up gr10.ex hp_2
      have hp_3 := up gr10.ex hp_3
      have hj7_5 := up gr10.ex hj7_5
      have hlen12 := congrArg List.length hrows
      try simp only [List.length_append, List.length_cons, List.length_nil, lc_true_len, rng_len, lbring_len] at hlen12
      first | refine q_endS ?_ | refine q_endC ?_ | refine q_end ?_
      exact hN7 _ hP _ _ _ sml7 ⟨v11, _, rfl, g, h_11, (by /- 6 inv -/ first | (first | omega | ((try simp only [hcopies, hrows, List.length_append, List.length_cons, List.length_nil, lc_true_len, rng_len, lbring_len]); omega) | rfl | (subst_vars; first | omega | (simp; done) | (simp; omega))) | (have hr_hx7 := rng_at hx7; (first | omega | ((try simp only [hcopies, hrows, List.length_append, List.length_cons, List.length_nil, lc_true_len, rng_len, lbring_len]); omega) | rfl | (subst_vars; first | omega | (simp; done) | (simp; omega)))))⟩
    · rintro Fa13 Ha13 Fe13 He13 σ13 rows hst13 fa13 ⟨vj13_5, wj13_6, rfl, g, hj13_5, hx_13⟩ gl13 hP
      have s := gl13.sub
      have g := g.then gl13
      try dsimp only at hx_13
      try simp only [rng_len] at hx_13
      have hp_0 := up (fa13.trans gl13.ex) hp_0
      have hp_1 := up (fa13.trans gl13.ex) hp_1
      have hp_2 := up (fa13.trans gl13.ex) hp_2
      have hp_3 := up (fa13.trans gl13.ex) hp_3
      have hj13_5 := up gl13.ex hj13_5
      refine q_set (K := K) (P := (Ret K Z0 F0 H0 Q)) hP s (TvL.tv (tl_op (tv_var rfl hj13_5) (TvL.tv (tl_lst (ta_rcons (tv_flat (tv_join tv_str (TvL.tv (tl_op (TvL.tv (tl_lst (ta_rcons tv_str (ta_rcons tv_str ta_rnil)) (by show 2 ≤ 100000; decide))) (TvL.tv (tl_lc (fun (count : Int) => true) (fun (count : Int) => (strI count)) (it_list (K := K) (tv_var rfl (up s hp_0))) stb_t trivial (by /- 9 lclen -/ first | (simp only [rng_len]; omega) | omega) (fun i14 count v14 F14 H14 hx14 gr14 hv14 R14 k14 => g_nameF hv14 fun _ =>  (k14 _ rfl (tt_yes) (fun H14' e14 hcl14 => (tv_flat (tv_cb (ta_cons (tv_var rfl (Flat.of _)) ta_nil) (cb_strI (by /- 8 log -/ first | (exact log_small (by omega) (by omega)) | (have hm_hx14 := hpre.2.1 _ (List.mem_of_getElem? hx14); (try simp only [decide_eq_true_eq, decide_eq_false_iff_not, Bool.not_eq_true', Bool.not_eq_false', Bool.and_eq_true, Bool.and_eq_false_iff, Bool.or_eq_true, Bool.or_eq_false_iff] at hcl14); (exact log_small (by omega) (by omega)))))))))))) (opL_cat (by /- 10 len -/ first | (simp only [List.length_append, List.length_cons, List.length_nil, lc_true_len, rng_len, lbring_len]; omega) | omega)))) (by /- 11 joinlen -/ (refine Nat.le_trans (Nat.add_le_add (sum_le (n := 1921) ?_) (Nat.le_refl _)) ?_); (intro x hx; rcases List.mem_append.mp hx with hx | hx); (rcases List.mem_cons.mp hx with rfl | hx); decide +kernel; (rw [List.mem_singleton.mp hx]; decide +kernel); (unfold lc at hx; obtain ⟨y, hy, rfl⟩ := List.mem_map.mp hx; have := hpre.2.1 y (List.mem_filter.mp hy).1; exact strI_len (log_small (by omega) (by omega))); (have e1 : ((" " : PySem.Str)).length = 1 := by decide +kernel); (simp only [List.length_append, List.length_cons, List.length_nil, lc_true_len, e1]; omega)))) (ta_rcons (tv_flat tv_str) ta_rnil)) (by show 2 ≤ 100000; decide))) (opL_cat (by /- 12 len -/ first | (simp only [List.length_append, List.length_cons, List.length_nil, lc_true_len, rng_len, lbring_len]; omega) | omega)))) ?_
      intro rows F15 H16 v18 hrows gr17 h_18 hP
      have s := gr17.sub
      have g := g.then gr17
      have hp_0 := up gr17.ex hp_0
      have hp_1 := up gr17.ex hp_1
      have hp_2 := up gr17.ex hp_2
      have hp_3 := up gr17.ex hp_3
      have hj13_5 := up gr17.ex hj13_5
      have hlen19 := congrArg List.length hrows
      try simp only [List.length_append, List.length_cons, List.length_nil, lc_true_len, rng_len, lbring_len] at hlen19
      refine q_setF (K := K) (P := (Ret K Z0 F0 H0 Q)) hP (tv_var rfl (Flat.of _)) ?_
      intro sent H20 hsent e20 hP
      have s := s.trans e20
      have g := g.grow e20
      refine q_fold (K := K) (P := (Ret K Z0 F0 H0 Q)) (fun (i : Nat) F H σ st => ∃ (ev_rows : V) (ew_home : Option V), σ = [some vp_0, some vp_1, some vp_2, some vp_3, some (Flat.val copies), some ev_rows, wj13_6, some (Flat.val sent), ew_home, none] ∧ GrZ Z0 F0 H0 F H ∧ rp K F st ev_rows ∧ st.length ≤ 7 + i) hP s (it_list (K := K) (tv_var rfl hp_1)) stb_t ⟨v18, _, rfl, g, h_18, (by /- 16 inv0 -/ first | omega | ((try simp only [hcopies, hrows, hsent, List.length_append, List.length_cons, List.length_nil, lc_true_len, rng_len, lbring_len]); omega) | rfl | (subst_vars; first | omega | (simp; done) | (simp; omega)))⟩ (fun i F1 H1 σ1 st h => (by obtain ⟨_, _, _, gq, _⟩ := h; exact ⟨gq.sub, trivial⟩)) ?_ ?_
      · rintro i21 home rows Fa21 Ha21 Fl21 Hl21 σ21 vt21 Nl21 Pl21 hx21 hr21 fa21 ⟨vj21_5, wj21_8, rfl, g, hj21_5, hx_21⟩ gl21 hv21 hP hN21
        have s := gl21.sub
        have g := g.then gl21
        have sml21 := Same.refl Fl21
        try dsimp only at hx_21
        have hp_0 := up (fa21.trans gl21.ex) hp_0
        have hp_1 := up (fa21.trans gl21.ex) hp_1
        have hp_2 := up (fa21.trans gl21.ex) hp_2
        have hp_3 := up (fa21.trans gl21.ex) hp_3
        have hj21_5 := up gl21.ex hj21_5
        have hil21 := (List.getElem?_eq_some_iff.mp hx21).1
        obtain rfl := Flat.is hv21
        refine g_name ?_
        refine q_set (K := K) (P := Pl21) hP s (TvL.tv (tl_op (tv_var rfl hj21_5) (TvL.tv (tl_call (ta_cons (tv_flat (tv_op (tv_var rfl (Flat.of _)) tv_int op2_add)) ta_nil) (sv__law_bring (by /- 13 pre:_law_bring -/ first | (first | decide | assumption | omega) | (have hm_hx21 := hpre.2.2.1.2 _ (List.mem_of_getElem? hx21); (first | decide | assumption | omega)))))) (opL_cat (by /- 14 len -/ first | (first | (simp only [List.length_append, List.length_cons, List.length_nil, lc_true_len, rng_len, lbring_len]; omega) | omega) | (have hm_hx21 := hpre.2.2.1.2 _ (List.mem_of_getElem? hx21); (first | (simp only [List.length_append, List.length_cons, List.length_nil, lc_true_len, rng_len, lbring_len]; omega) | omega)))))) ?_
        intro rows F22 H23 v25 hrows gr24 h_25 hP
        have s := gr24.sub
        have g := g.then gr24
        have sml21 := sml21.trans gr24.ex
        have hp_0 := up gr24.ex hp_0
        have hp_1 := up gr24.ex hp_1
        have hp_2 := up gr24.ex hp_2
        have hp_3 := up gr24.ex hp_3
        have hj21_5 := up gr24.ex hj21_5
        have hlen26 := congrArg List.length hrows
        try simp only [List.length_append, List.length_cons, List.length_nil, lc_true_len, rng_len, lbring_len] at hlen26
        first | refine q_endS ?_ | refine q_endC ?_ | refine q_end ?_
        exact hN21 _ hP _ _ _ sml21 ⟨v25, _, rfl, g, h_25, (by /- 15 inv -/ first | (first | omega | ((try simp only [hcopies, hrows, hsent, List.length_append, List.length_cons, List.length_nil, lc_true_len, rng_len, lbring_len]); omega) | rfl | (subst_vars; first | omega | (simp; done) | (simp; omega))) | (have hm_hx21 := hpre.2.2.1.2 _ (List.mem_of_getElem? hx21); (first | omega | ((try simp only [hcopies, hrows, hsent, List.length_append, List.length_cons, List.length_nil, lc_true_len, rng_len, lbring_len]); omega) | rfl | (subst_vars; first | omega | (simp; done) | (simp; omega)))))⟩
      · rintro Fa27 Ha27 Fe27 He27 σ27 rows hst27 fa27 ⟨vj27_5, wj27_8, rfl, g, hj27_5, hx_27⟩ gl27 hP
        have s := gl27.sub
        have g := g.then gl27
        try dsimp only at hx_27
        try simp only [rng_len] at hx_27
        have hp_0 := up (fa27.trans gl27.ex) hp_0
        have hp_1 := up (fa27.trans gl27.ex) hp_1
        have hp_2 := up (fa27.trans gl27.ex) hp_2
        have hp_3 := up (fa27.trans gl27.ex) hp_3
        have hj27_5 := up gl27.ex hj27_5
        refine q_fold (K := K) (P := (Ret K Z0 F0 H0 Q)) (fun (i : Nat) F H σ st => ∃ (ev_rows : V) (ew_home : Option V), σ = [some vp_0, some vp_1, some vp_2, some vp_3, some (Flat.val copies), some ev_rows, wj13_6, some (Flat.val st.1), ew_home, none] ∧ GrZ Z0 F0 H0 F H ∧ rp K F st.2 ev_rows ∧ ((st.1 : Int) = copies + (i : Int) ∧ st.2.length ≤ 12 + i)) hP s (it_list (K := K) (tv_var rfl hp_1)) stb_t ⟨vj27_5, _, rfl, g, hj27_5, (by /- 20 inv0 -/ first | omega | ((try simp only [hcopies, hrows, hsent, List.length_append, List.length_cons, List.length_nil, lc_true_len, rng_len, lbring_len]); omega) | rfl | (subst_vars; first | omega | (simp; done) | (simp; omega)))⟩ (fun i F1 H1 σ1 st h => (by obtain ⟨_, _, _, gq, _⟩ := h; exact ⟨gq.sub, trivial⟩)) ?_ ?_
        · rintro i28 home ⟨sent, rows⟩ Fa28 Ha28 Fl28 Hl28 σ28 vt28 Nl28 Pl28 hx28 hr28 fa28 ⟨vj28_5, wj28_8, rfl, g, hj28_5, hx_28⟩ gl28 hv28 hP hN28
          have s := gl28.sub
          have g := g.then gl28
          have sml28 := Same.refl Fl28
          try dsimp only at hx_28
          have hp_0 := up (fa28.trans gl28.ex) hp_0
          have hp_1 := up (fa28.trans gl28.ex) hp_1
          have hp_2 := up (fa28.trans gl28.ex) hp_2
          have hp_3 := up (fa28.trans gl28.ex) hp_3
          have hj28_5 := up gl28.ex hj28_5
          have hil28 := (List.getElem?_eq_some_iff.mp hx28).1
          replace hP := p_lt2 Pl28 hP
          obtain rfl := Flat.is hv28
          refine g_name ?_
          refine q_setF (K := K) (P := Pl28) hP (tv_op (tv_var rfl (Flat.of _)) tv_int op2_add) ?_
          intro sent H29 hsent e29 hP
          have s := s.trans e29
          have g := g.grow e29
          refine q_set (K := K) (P := Pl28) hP s (TvL.tv (tl_op (tv_var rfl hj28_5) (TvL.tv (tl_call (ta_cons (tv_flat (tv_var rfl (Flat.of _))) ta_nil) (sv__law_bring (by /- 17 pre:_law_bring -/ first | (first | decide | assumption | omega) | (have hm_hx28 := hpre.2.2.1.2 _ (List.mem_of_getElem? hx28); (first | decide | assumption | omega)))))) (opL_cat (by /- 18 len -/ first | (first | (simp only [List.length_append, List.length_cons, List.length_nil, lc_true_len, rng_len, lbring_len]; omega) | omega) | (have hm_hx28 := hpre.2.2.1.2 _ (List.mem_of_getElem? hx28); (first | (simp only [List.length_append, List.length_cons, List.length_nil, lc_true_len, rng_len, lbring_len]; omega) | omega)))))) ?_
          intro rows F30 H31 v33 hrows gr32 h_33 hP
          have s := gr32.sub
          have g := g.then gr32
          have sml28 := sml28.trans gr32.ex
          have hp_0 := up gr32.ex hp_0
          have hp_1 := up gr32.ex hp_1
          have hp_2 := up gr32.ex hp_2
          have hp_3 := up gr32.ex hp_3
          have hj28_5 := up gr32.ex hj28_5
          have hlen34 := congrArg List.length hrows
          try simp only [List.length_append, List.length_cons, List.length_nil, lc_true_len, rng_len, lbring_len] at hlen34
          first | refine q_endS ?_ | refine q_endC ?_ | refine q_end ?_
          exact hN28 _ hP _ _ _ sml28 ⟨v33, _, rfl, g, h_33, (by /- 19 inv -/ first | (first | omega | ((try simp only [hcopies, hrows, hsent, List.length_append, List.length_cons, List.length_nil, lc_true_len, rng_len, lbring_len]); omega) | rfl | (subst_vars; first | omega | (simp; done) | (simp; omega))) | (have hm_hx28 := hpre.2.2.1.2 _ (List.mem_of_getElem? hx28); (first | omega | ((try simp only [hcopies, hrows, hsent, List.length_append, List.length_cons, List.length_nil, lc_true_len, rng_len, lbring_len]); omega) | rfl | (subst_vars; first | omega | (simp; done) | (simp; omega)))))⟩
        · rintro Fa35 Ha35 Fe35 He35 σ35 ⟨sent, rows⟩ hst35 fa35 ⟨vj35_5, wj35_8, rfl, g, hj35_5, hx_35⟩ gl35 hP
          have s := gl35.sub
          have g := g.then gl35
          try dsimp only at hx_35
          try simp only [rng_len] at hx_35
          have hp_0 := up (fa35.trans gl35.ex) hp_0
          have hp_1 := up (fa35.trans gl35.ex) hp_1
          have hp_2 := up (fa35.trans gl35.ex) hp_2
          have hp_3 := up (fa35.trans gl35.ex) hp_3
          have hj35_5 := up gl35.ex hj35_5
          replace hP := p_lt2 (Ret K Z0 F0 H0 Q) hP
          refine q_set (K := K) (P := (Ret K Z0 F0 H0 Q)) hP s (TvL.tv (tl_op (tv_var rfl hj35_5) (TvL.tv (tl_lst (ta_rcons (tv_flat tv_str) ta_rnil) (by show 1 ≤ 100000; decide))) (opL_cat (by /- 21 len -/ first | (simp only [List.length_append, List.length_cons, List.length_nil, lc_true_len, rng_len, lbring_len]; omega) | omega)))) ?_
          intro rows F36 H37 v39 hrows gr38 h_39 hP
          have s := gr38.sub
          have g := g.then gr38
          have hp_0 := up gr38.ex hp_0
          have hp_1 := up gr38.ex hp_1
          have hp_2 := up gr38.ex hp_2
          have hp_3 := up gr38.ex hp_3
          have hj35_5 := up gr38.ex hj35_5
          have hlen40 := congrArg List.length hrows
          try simp only [List.length_append, List.length_cons, List.length_nil, lc_true_len, rng_len, lbring_len] at hlen40
          refine q_fold (K := K) (P := (Ret K Z0 F0 H0 Q)) (fun (i : Nat) F H σ st => ∃ (ev_rows : V) (ew_home : Option V), σ = [some vp_0, some vp_1, some vp_2, some vp_3, some (Flat.val copies), some ev_rows, wj13_6, some (Flat.val sent), ew_home, none] ∧ GrZ Z0 F0 H0 F H ∧ rp K F st ev_rows ∧ st.length ≤ 18 + i) hP s (it_list (K := K) (tv_var rfl hp_2)) stb_t ⟨v39, _, rfl, g, h_39, (by /- 25 inv0 -/ first | omega | ((try simp only [hcopies, hrows, hsent, List.length_append, List.length_cons, List.length_nil, lc_true_len, rng_len, lbring_len]); omega) | rfl | (subst_vars; first | omega | (simp; done) | (simp; omega)))⟩ (fun i F1 H1 σ1 st h => (by obtain ⟨_, _, _, gq, _⟩ := h; exact ⟨gq.sub, trivial⟩)) ?_ ?_
          · rintro i41 home rows Fa41 Ha41 Fl41 Hl41 σ41 vt41 Nl41 Pl41 hx41 hr41 fa41 ⟨vj41_5, wj41_8, rfl, g, hj41_5, hx_41⟩ gl41 hv41 hP hN41
            have s := gl41.sub
            have g := g.then gl41
            have sml41 := Same.refl Fl41
            try dsimp only at hx_41
            have hp_0 := up (fa41.trans gl41.ex) hp_0
            have hp_1 := up (fa41.trans gl41.ex) hp_1
            have hp_2 := up (fa41.trans gl41.ex) hp_2
            have hp_3 := up (fa41.trans gl41.ex) hp_3
            have hj41_5 := up gl41.ex hj41_5
            have hil41 := (List.getElem?_eq_some_iff.mp hx41).1
            obtain rfl := Flat.is hv41
            refine g_name ?_
            refine q_set (K := K) (P := Pl41) hP s (TvL.tv (tl_op (tv_var rfl hj41_5) (TvL.tv (tl_call (ta_cons (tv_flat (tv_op (tv_var rfl (Flat.of _)) tv_int op2_add)) ta_nil) (sv__law_bring (by /- 22 pre:_law_bring -/ first | (first | decide | assumption | omega) | (have hm_hx41 := hpre.2.2.2.1.2 _ (List.mem_of_getElem? hx41); (first | decide | assumption | omega)))))) (opL_cat (by /- 23 len -/ first | (first | (simp only [List.length_append, List.length_cons, List.length_nil, lc_true_len, rng_len, lbring_len]; omega) | omega) | (have hm_hx41 := hpre.2.2.2.1.2 _ (List.mem_of_getElem? hx41); (first | (simp only [List.length_append, List.length_cons, List.length_nil, lc_true_len, rng_len, lbring_len]; omega) | omega)))))) ?_
            intro rows F42 H43 v45 hrows gr44 h_45 hP
            have s := gr44.sub
            have g := g.then gr44
            have sml41 := sml41.trans gr44.ex
            have hp_0 := up gr44.ex hp_0
            have hp_1 := up gr44.ex hp_1
            have hp_2 := up gr44.ex hp_2
            have hp_3 := up gr44.ex hp_3
            have hj41_5 := up gr44.ex hj41_5
            have hlen46 := congrArg List.length hrows
            try simp only [List.length_append, List.length_cons, List.length_nil, lc_true_len, rng_len, lbring_len] at hlen46
            first | refine q_endS ?_ | refine q_endC ?_ | refine q_end ?_
            exact hN41 _ hP _ _ _ sml41 ⟨v45, _, rfl, g, h_45, (by /- 24 inv -/ first | (first | omega | ((try simp only [hcopies, hrows, hsent, List.length_append, List.length_cons, List.length_nil, lc_true_len, rng_len, lbring_len]); omega) | rfl | (subst_vars; first | omega | (simp; done) | (simp; omega))) | (have hm_hx41 := hpre.2.2.2.1.2 _ (List.mem_of_getElem? hx41); (first | omega | ((try simp only [hcopies, hrows, hsent, List.length_append, List.length_cons, List.length_nil, lc_true_len, rng_len, lbring_len]); omega) | rfl | (subst_vars; first | omega | (simp; done) | (simp; omega)))))⟩
          · rintro Fa47 Ha47 Fe47 He47 σ47 rows hst47 fa47 ⟨vj47_5, wj47_8, rfl, g, hj47_5, hx_47⟩ gl47 hP
            have s := gl47.sub
            have g := g.then gl47
            try dsimp only at hx_47
            try simp only [rng_len] at hx_47
            have hp_0 := up (fa47.trans gl47.ex) hp_0
            have hp_1 := up (fa47.trans gl47.ex) hp_1
            have hp_2 := up (fa47.trans gl47.ex) hp_2
            have hp_3 := up (fa47.trans gl47.ex) hp_3
            have hj47_5 := up gl47.ex hj47_5
            refine q_fold (K := K) (P := (Ret K Z0 F0 H0 Q)) (fun (i : Nat) F H σ st => ∃ (ev_rows : V) (ew_home : Option V), σ = [some vp_0, some vp_1, some vp_2, some vp_3, some (Flat.val copies), some ev_rows, wj13_6, some (Flat.val sent), ew_home, none] ∧ GrZ Z0 F0 H0 F H ∧ rp K F st ev_rows ∧ st.length ≤ 23 + i) hP s (it_list (K := K) (tv_var rfl hp_3)) stb_t ⟨vj47_5, _, rfl, g, hj47_5, (by /- 29 inv0 -/ first | omega | ((try simp only [hcopies, hrows, hsent, List.length_append, List.length_cons, List.length_nil, lc_true_len, rng_len, lbring_len]); omega) | rfl | (subst_vars; first | omega | (simp; done) | (simp; omega)))⟩ (fun i F1 H1 σ1 st h => (by obtain ⟨_, _, _, gq, _⟩ := h; exact ⟨gq.sub, trivial⟩)) ?_ ?_
            · rintro i48 home rows Fa48 Ha48 Fl48 Hl48 σ48 vt48 Nl48 Pl48 hx48 hr48 fa48 ⟨vj48_5, wj48_8, rfl, g, hj48_5, hx_48⟩ gl48 hv48 hP hN48
              have s := gl48.sub
              have g := g.then gl48
              have sml48 := Same.refl Fl48
              try dsimp only at hx_48
              have hp_0 := up (fa48.trans gl48.ex) hp_0
              have hp_1 := up (fa48.trans gl48.ex) hp_1
              have hp_2 := up (fa48.trans gl48.ex) hp_2
              have hp_3 := up (fa48.trans gl48.ex) hp_3
              have hj48_5 := up gl48.ex hj48_5
              have hil48 := (List.getElem?_eq_some_iff.mp hx48).1
              obtain rfl := Flat.is hv48
              refine g_name ?_
              refine q_set (K := K) (P := Pl48) hP s (TvL.tv (tl_op (tv_var rfl hj48_5) (TvL.tv (tl_call (ta_cons (tv_flat (tv_op (tv_op (tv_var rfl (Flat.of _)) tv_int op2_add) (tv_var rfl (Flat.of _)) op2_add)) ta_nil) (sv__law_bring (by /- 26 pre:_law_bring -/ first | (first | decide | assumption | omega) | (have hm_hx48 := hpre.2.2.2.2.2 _ (List.mem_of_getElem? hx48); (first | decide | assumption | omega)))))) (opL_cat (by /- 27 len -/ first | (first | (simp only [List.length_append, List.length_cons, List.length_nil, lc_true_len, rng_len, lbring_len]; omega) | omega) | (have hm_hx48 := hpre.2.2.2.2.2 _ (List.mem_of_getElem? hx48); (first | (simp only [List.length_append, List.length_cons, List.length_nil, lc_true_len, rng_len, lbring_len]; omega) | omega)))))) ?_
              intro rows F49 H50 v52 hrows gr51 h_52 hP
              have s := gr51.sub
              have g := g.then gr51
              have sml48 := sml48.trans gr51.ex
              have hp_0 := up gr51.ex hp_0
              have hp_1 := up gr51.ex hp_1
              have hp_2 := up gr51.ex hp_2
              have hp_3 := up gr51.ex hp_3
              have hj48_5 := up gr51.ex hj48_5
              have hlen53 := congrArg List.length hrows
              try simp only [List.length_append, List.length_cons, List.length_nil, lc_true_len, rng_len, lbring_len] at hlen53
              first | refine q_endS ?_ | refine q_endC ?_ | refine q_end ?_
              exact hN48 _ hP _ _ _ sml48 ⟨v52, _, rfl, g, h_52, (by /- 28 inv -/ first | (first | omega | ((try simp only [hcopies, hrows, hsent, List.length_append, List.length_cons, List.length_nil, lc_true_len, rng_len, lbring_len]); omega) | rfl | (subst_vars; first | omega | (simp; done) | (simp; omega))) | (have hm_hx48 := hpre.2.2.2.2.2 _ (List.mem_of_getElem? hx48); (first | omega | ((try simp only [hcopies, hrows, hsent, List.length_append, List.length_cons, List.length_nil, lc_true_len, rng_len, lbring_len]); omega) | rfl | (subst_vars; first | omega | (simp; done) | (simp; omega)))))⟩
            · rintro Fa54 Ha54 Fe54 He54 σ54 rows hst54 fa54 ⟨vj54_5, wj54_8, rfl, g, hj54_5, hx_54⟩ gl54 hP
              have s := gl54.sub
              have g := g.then gl54
              try dsimp only at hx_54
              try simp only [rng_len] at hx_54
              have hp_0 := up (fa54.trans gl54.ex) hp_0
              have hp_1 := up (fa54.trans gl54.ex) hp_1
              have hp_2 := up (fa54.trans gl54.ex) hp_2
              have hp_3 := up (fa54.trans gl54.ex) hp_3
              have hj54_5 := up gl54.ex hj54_5
              refine q_setF (K := K) (P := (Ret K Z0 F0 H0 Q)) hP (tv_op (tv_op (tv_var rfl (Flat.of _)) (tv_var rfl (Flat.of _)) op2_add) (tv_cb (ta_cons (tv_var rfl (up s hp_2)) ta_nil) cb_lenL) op2_add) ?_
              intro sent H55 hsent e55 hP
              have s := s.trans e55
              have g := g.grow e55
              refine q_fold (K := K) (P := (Ret K Z0 F0 H0 Q)) (fun (i : Nat) F H σ st => ∃ (ev_rows : V) (ew_home : Option V), σ = [some vp_0, some vp_1, some vp_2, some vp_3, some (Flat.val copies), some ev_rows, wj13_6, some (Flat.val st.1), ew_home, none] ∧ GrZ Z0 F0 H0 F H ∧ rp K F st.2 ev_rows ∧ ((st.1 : Int) ≤ 20 + (i : Int) ∧ 0 ≤ (st.1 : Int) ∧ st.2.length ≤ 28 + i)) hP s (it_list (K := K) (tv_var rfl hp_3)) stb_t ⟨vj54_5, _, rfl, g, hj54_5, (by /- 33 inv0 -/ first | omega | ((try simp only [hcopies, hrows, hsent, List.length_append, List.length_cons, List.length_nil, lc_true_len, rng_len, lbring_len]); omega) | rfl | (subst_vars; first | omega | (simp; done) | (simp; omega)))⟩ (fun i F1 H1 σ1 st h => (by obtain ⟨_, _, _, gq, _⟩ := h; exact ⟨gq.sub, trivial⟩)) ?_ ?_
              · rintro i56 home ⟨sent, rows⟩ Fa56 Ha56 Fl56 Hl56 σ56 vt56 Nl56 Pl56 hx56 hr56 fa56 ⟨vj56_5, wj56_8, rfl, g, hj56_5, hx_56⟩ gl56 hv56 hP hN56
                have s := gl56.sub
                have g := g.then gl56
                have sml56 := Same.refl Fl56
                try dsimp only at hx_56
                have hp_0 := up (fa56.trans gl56.ex) hp_0
                have hp_1 := up (fa56.trans gl56.ex) hp_1
                have hp_2 := up (fa56.trans gl56.ex) hp_2
                have hp_3 := up (fa56.trans gl56.ex) hp_3
                have hj56_5 := up gl56.ex hj56_5
                have hil56 := (List.getElem?_eq_some_iff.mp hx56).1
                replace hP := p_lt2 Pl56 hP
                obtain rfl := Flat.is hv56
                refine g_name ?_
                refine q_setF (K := K) (P := Pl56) hP (tv_op (tv_var rfl (Flat.of _)) tv_int op2_add) ?_
                intro sent H57 hsent e57 hP
                have s := s.trans e57
                have g := g.grow e57
                refine q_set (K := K) (P := Pl56) hP s (TvL.tv (tl_op (tv_var rfl hj56_5) (TvL.tv (tl_call (ta_cons (tv_flat (tv_var rfl (Flat.of _))) ta_nil) (sv__law_bring (by /- 30 pre:_law_bring -/ first | (first | decide | assumption | omega) | (have hm_hx56 := hpre.2.2.2.2.2 _ (List.mem_of_getElem? hx56); (first | decide | assumption | omega)))))) (opL_cat (by /- 31 len -/ first | (first | (simp only [List.length_append, List.length_cons, List.length_nil, lc_true_len, rng_len, lbring_len]; omega) | omega) | (have hm_hx56 := hpre.2.2.2.2.2 _ (List.mem_of_getElem? hx56); (first | (simp only [List.length_append, List.length_cons, List.length_nil, lc_true_len, rng_len, lbring_len]; omega) | omega)))))) ?_
                intro rows F58 H59 v61 hrows gr60 h_61 hP
                have s := gr60.sub
                have g := g.then gr60
                have sml56 := sml56.trans gr60.ex
                have hp_0 := up gr60.ex hp_0
                have hp_1 := up gr60.ex hp_1
                have hp_2 := up gr60.ex hp_2
                have hp_3 := up gr60.ex hp_3
                have hj56_5 := up gr60.ex hj56_5
                have hlen62 := congrArg List.length hrows
                try simp only [List.length_append, List.length_cons, List.length_nil, lc_true_len, rng_len, lbring_len] at hlen62
                first | refine q_endS ?_ | refine q_endC ?_ | refine q_end ?_
                exact hN56 _ hP _ _ _ sml56 ⟨v61, _, rfl, g, h_61, (by /- 32 inv -/ first | (first | omega | ((try simp only [hcopies, hrows, hsent, List.length_append, List.length_cons, List.length_nil, lc_true_len, rng_len, lbring_len]); omega) | rfl | (subst_vars; first | omega | (simp; done) | (simp; omega))) | (have hm_hx56 := hpre.2.2.2.2.2 _ (List.mem_of_getElem? hx56); (first | omega | ((try simp only [hcopies, hrows, hsent, List.length_append, List.length_cons, List.length_nil, lc_true_len, rng_len, lbring_len]); omega) | rfl | (subst_vars; first | omega | (simp; done) | (simp; omega)))))⟩
              · rintro Fa63 Ha63 Fe63 He63 σ63 ⟨sent, rows⟩ hst63 fa63 ⟨vj63_5, wj63_8, rfl, g, hj63_5, hx_63⟩ gl63 hP
                have s := gl63.sub
                have g := g.then gl63
                try dsimp only at hx_63
                try simp only [rng_len] at hx_63
                have hp_0 := up (fa63.trans gl63.ex) hp_0
                have hp_1 := up (fa63.trans gl63.ex) hp_1
                have hp_2 := up (fa63.trans gl63.ex) hp_2
                have hp_3 := up (fa63.trans gl63.ex) hp_3
                have hj63_5 := up gl63.ex hj63_5
                replace hP := p_lt2 (Ret K Z0 F0 H0 Q) hP
                exact q_ret hP g (tv_var rfl hj63_5)
theorem len_counts (x : Scr) : (m__law_counts x).length = 3 := by
  unfold m__law_counts
  rw [lt_eq, lt_eq]
  rfl
theorem counts_ok {x : Scr} {a b c : Int} (h : [a, b, c] = m__law_counts x) : 1 ≤ a ∧ a ≤ 5 ∧ 1 ≤ b ∧ b ≤ a ∧ 1 ≤ c ∧ c ≤ a := by
  unfold m__law_counts at h
  rw [lt_eq, lt_eq, lt_eq] at h
  simp only [List.cons.injEq, and_true] at h
  obtain ⟨h1, h2, h3⟩ := h
  have ha : 1 ≤ a ∧ a ≤ 5 := by
    rw [h1]
    cases decide (m__law_cell x 0 / 4 % 8 = 1) <;> simp <;> omega
  subst h1
  refine ⟨ha.1, ha.2, ?_, ?_, ?_, ?_⟩
  · have := Int.emod_nonneg (m__law_cell x 1) (show (cond (decide (m__law_cell x 0 / 4 % 8 = 1)) 5 (1 + m__law_cell x 0 % 4) : Int) ≠ 0 by omega)
    omega
  · have := Int.emod_lt_of_pos (m__law_cell x 1) (show 0 < (cond (decide (m__law_cell x 0 / 4 % 8 = 1)) 5 (1 + m__law_cell x 0 % 4) : Int) by omega)
    omega
  · have := Int.emod_nonneg (m__law_cell x 2) (show (cond (decide (m__law_cell x 0 / 4 % 8 = 1)) 5 (1 + m__law_cell x 0 % 4) : Int) ≠ 0 by omega)
    omega
  · have := Int.emod_lt_of_pos (m__law_cell x 2) (show 0 < (cond (decide (m__law_cell x 0 / 4 % 8 = 1)) 5 (1 + m__law_cell x 0 % 4) : Int) by omega)
    omega

theorem counts_ok2 {x : Scr} {cs : List Int} (h : cs = m__law_counts x) : cs.length = 3 ∧ (1 ≤ ixI cs 0 ∧ ixI cs 0 ≤ 5) ∧ (1 ≤ ixI cs 1 ∧ ixI cs 1 ≤ ixI cs 0) ∧ (1 ≤ ixI cs 2 ∧ ixI cs 2 ≤ ixI cs 0) ∧ ∀ x ∈ cs, 1 ≤ x ∧ x ≤ 5 := by
  have h3 := len_counts x
  match e : m__law_counts x, h3 with
  | [a, b, d], _ =>
    obtain ⟨h1, h2, h4, h5, h6, h7⟩ := counts_ok e.symm
    rw [h, e]
    refine ⟨rfl, ⟨h1, h2⟩, ⟨h4, h5⟩, ⟨h6, h7⟩, fun y hy => ?_⟩
    have : y = a ∨ y = b ∨ y = d := by simpa using hy
    omega
theorem drawn_gd {script : Scr} {copies reads writes : Int} {a b c : List Int} (h : 1 ≤ copies ∧ copies ≤ 5 ∧ 1 ≤ reads ∧ reads ≤ copies ∧ 1 ≤ writes ∧ writes ≤ copies) (e : m__law_drawn script copies reads writes = [a, b, c]) : Gd a ∧ Gd b ∧ Gd c := by
  obtain ⟨a', b', c', e', h1, h2, h3⟩ := drawn_ok (script := script) h
  rw [e] at e'
  simp only [List.cons.injEq, and_true] at e'
  obtain ⟨rfl, rfl, rfl⟩ := e'
  exact ⟨h1, h2, h3⟩
theorem drawn_len {script : Scr} {copies reads writes : Int} (h : 1 ≤ copies ∧ copies ≤ 5 ∧ 1 ≤ reads ∧ reads ≤ copies ∧ 1 ≤ writes ∧ writes ≤ copies) : (m__law_drawn script copies reads writes).length = 3 := by
  obtain ⟨a', b', c', e', _⟩ := drawn_ok (script := script) h
  rw [e']; rfl
abbrev OkL (xs : List PySem.Str) : Prop := ∀ x ∈ xs, PyData.strOk x = true
theorem okl_app {xs ys : List PySem.Str} (h1 : OkL xs) (h2 : OkL ys) : OkL (xs ++ ys) := fun x hx => (List.mem_append.mp hx).elim (h1 x) (h2 x)
theorem okl_lc {α : Type} {xs : List α} {c : α → Bool} {f : α → PySem.Str} (h : ∀ x, PyData.strOk (f x) = true) : OkL (lc xs c f) := fun x hx => by
  unfold lc at hx
  obtain ⟨y, _, rfl⟩ := List.mem_map.mp hx
  exact h y
theorem okl_bring (xs : List Int) : OkL (m_bring_rows xs) := by
  unfold m_bring_rows
  exact okl_lc fun x => ok_app (ok_str _) (ok_str _)
theorem ok_fj {ys : List PySem.Str} (h : OkL ys) : PyData.strOk (fj ys) = true := by
  unfold fj
  have : ∀ (ys : List PySem.Str) (acc : PySem.Str), PyData.strOk acc = true → OkL ys → PyData.strOk (ys.foldl (· ++ ·) acc) = true := by
    intro ys
    induction ys with
    | nil => intro acc h _; exact h
    | cons y r ih => intro acc h1 h2; exact ih _ (ok_app h1 (h2 y (List.mem_cons_self ..))) fun x hx => h2 x (List.mem_cons_of_mem _ hx)
  exact this ys _ (by decide +kernel) h
theorem ok_chI {z : PySem.Str} {i : Int} (h : PyData.strOk z = true) : PyData.strOk (chI z i) = true := by
  unfold PyData.strOk at h ⊢
  rw [← Array.all_toList, List.all_eq_true] at h
  show Array.all #[ixI z.cps.toList i] _ = true
  have : ixI z.cps.toList i < 0x110000 := by
    unfold ixI
    split
    · by_cases q : i.toNat < z.cps.toList.length
      · rw [List.getD_eq_getElem?_getD, List.getElem?_eq_getElem q]
        simpa using h _ (List.getElem_mem q)
      · rw [List.getD_eq_getElem?_getD, List.getElem?_eq_none (by omega)]
        decide
    · by_cases q : (i + z.cps.toList.length).toNat < z.cps.toList.length
      · rw [List.getD_eq_getElem?_getD, List.getElem?_eq_getElem q]
        simpa using h _ (List.getElem_mem q)
      · rw [List.getD_eq_getElem?_getD, List.getElem?_eq_none (by omega)]
        decide
  simp [this]
theorem ok_ofs {z : PySem.Str} (s : String) (h : z = Str.ofString s) : PyData.strOk z = true := h ▸ ok_str s
theorem rows_ok (c r w : Int) (p : Int × Int × Int) : OkL (m_rows_of c r w p) := by
  unfold m_rows_of
  simp only [lt_eq, ltL3_eq]
  refine okl_app (okl_app (okl_app (okl_app (okl_app (okl_app (okl_app ?_ ?_) (okl_bring _)) (okl_bring _)) ?_) (okl_bring _)) (okl_bring _)) (okl_bring _)
  · exact okl_lc fun x => ok_app (ok_app (ok_app (ok_str _) (ok_chI (ok_str _))) (ok_str _)) (ok_str _)
  · intro x hx
    rcases List.mem_cons.mp hx with rfl | hx
    · refine ok_fj fun y hy => ?_
      simp only [List.mem_cons, List.not_mem_nil, or_false] at hy
      rcases hy with rfl | rfl | rfl | rfl | rfl | rfl <;> exact ok_str _
    · rw [List.mem_singleton.mp hx]; exact ok_str _
  · intro x hx
    rw [List.mem_singleton.mp hx]; exact ok_str _
theorem foldl_one {α β : Type} {step : List β → α → List β} {g : α → β} (h : ∀ acc x, step acc x = acc ++ [g x]) : ∀ (xs : List α) (acc : List β), List.foldl step acc xs = acc ++ xs.map g
  | [], acc => by simp
  | x :: xs, acc => by
    rw [List.foldl_cons, h, foldl_one h xs, List.map_cons, List.append_assoc]
    rfl
theorem rng_cons (n : Nat) : rng 0 (n + 1) = 0 :: (rng 0 n).map fun i => 1 + i := by
  unfold rng
  rw [List.range_succ_eq_map, List.map_cons, List.map_map, List.map_map]
  congr 1
  apply List.map_congr_left
  intro i _
  show (0 : Int) + ((i + 1 : Nat) : Int) = 1 + (0 + (i : Int))
  omega
theorem foldl_cnt {β : Type} {step : Int × List β → Int → Int × List β} {g : Int → β} (h : ∀ s acc x, step (s, acc) x = (s + 1, acc ++ [g (s + 1)])) : ∀ (xs : List Int) (s : Int) (acc : List β), List.foldl step (s, acc) xs = (s + xs.length, acc ++ (rng 0 xs.length).map fun i => g (s + 1 + i))
  | [], s, acc => by simp [rng]
  | x :: xs, s, acc => by
    rw [List.foldl_cons, h, foldl_cnt h xs, List.length_cons, rng_cons, List.map_cons, List.map_map, List.append_assoc]
    congr 1
    · omega
    · congr 1
      show _ = [g (s + 1 + 0)] ++ _
      rw [Int.add_zero]
      congr 1
      apply List.map_congr_left
      intro i _
      show g (s + 1 + 1 + i) = g (s + 1 + (1 + i))
      rw [Int.add_assoc (s + 1)]
theorem foldl_one' {α β : Type} (g : α → β) (xs : List α) (acc : List β) : List.foldl (fun acc x => acc ++ [g x]) acc xs = acc ++ xs.map g := foldl_one (fun _ _ => rfl) xs acc
abbrev brg (n : Int) : PySem.Str := ("bring " : PySem.Str) ++ strI n
theorem foldl_cnt' (xs : List Int) (s : Int) (acc : List PySem.Str) : List.foldl (fun (st : Int × List PySem.Str) (_ : Int) => (st.1 + 1, st.2 ++ [brg (st.1 + 1)])) (s, acc) xs = (s + xs.length, acc ++ (rng 0 xs.length).map fun i => brg (s + 1 + i)) := foldl_cnt (fun _ _ _ => rfl) xs s acc
def cmL (k : Int) : PySem.Str := ixI ([("come a.a.a 0" : PySem.Str), ("come b.a.a 1" : PySem.Str), ("come c.a.a 2" : PySem.Str), ("come d.a.a 3" : PySem.Str), ("come e.a.a 4" : PySem.Str)] : List PySem.Str) k
def cmP (at' : Int) : PySem.Str := ((("come " : PySem.Str) ++ (chI ("abcde" : PySem.Str) at')) ++ (".a.a " : PySem.Str)) ++ (strI at')
def thL (c r w : Int) : PySem.Str := Txt.join (" " : PySem.Str) [("thing" : PySem.Str), ("0" : PySem.Str), strI c, strI r, strI w]
def thP (c r w : Int) : PySem.Str := fj [("thing 0 " : PySem.Str), (strI c), (" " : PySem.Str), (strI r), (" " : PySem.Str), (strI w)]
theorem cm_eq : ∀ k : _root_.Fin 5, cmP (k.val : Int) = cmL (k.val : Int) := by decide +kernel
theorem th_all : ((List.range 6).all fun c => (List.range 6).all fun r => (List.range 6).all fun w => decide (thP (c : Int) (r : Int) (w : Int) = thL (c : Int) (r : Int) (w : Int))) = true := by decide +kernel
theorem th_eq {c r w : Int} (h1 : 0 ≤ c ∧ c ≤ 5) (h2 : 0 ≤ r ∧ r ≤ 5) (h3 : 0 ≤ w ∧ w ≤ 5) : thP c r w = thL c r w := by
  have q := List.all_eq_true.mp (List.all_eq_true.mp (List.all_eq_true.mp th_all c.toNat (List.mem_range.mpr (by omega))) r.toNat (List.mem_range.mpr (by omega))) w.toNat (List.mem_range.mpr (by omega))
  have q := of_decide_eq_true q
  rw [show ((c.toNat : Nat) : Int) = c by omega, show ((r.toNat : Nat) : Int) = r by omega, show ((w.toNat : Nat) : Int) = w by omega] at q
  exact q
def nf (c : Int) (th : PySem.Str) (had late heard : List Int) : List PySem.Str :=
  (rng 0 c.toNat).map cmL ++ [th, ("write x 0 v" : PySem.Str)] ++ had.map (fun h => brg (h + 1)) ++ (rng 0 had.length).map (fun i => brg (c + 1 + i)) ++ [("read y 0" : PySem.Str)] ++ late.map (fun h => brg (h + 1)) ++
    heard.map (fun h => brg (c + had.length + 1 + h)) ++ (rng 0 heard.length).map (fun i => brg (c + had.length + c + late.length + 1 + i))
theorem due_nf (cs : List Int) (had late heard : List Int) : m__law_due cs had late heard = nf (ixI cs 0) (Txt.join (" " : PySem.Str) (([("thing" : PySem.Str), ("0" : PySem.Str)] : List PySem.Str) ++ (lc cs (fun (count : Int) => true) (fun (count : Int) => (strI count))))) had late heard := by
  unfold m__law_due nf
  simp only [lt_eq, lt2_eq]
  have hb : ∀ n, m__law_bring n = [brg n] := fun _ => rfl
  simp only [hb]
  simp only [foldl_one', foldl_cnt', List.nil_append]
  rfl
theorem ok_join {a : PySem.Str} (ha : PyData.strOk a = true) {ys : List PySem.Str} (h : OkL ys) : PyData.strOk (Txt.join a ys) = true := by
  rw [eq_of_beq (join_plain_closes a ys)]
  induction ys with
  | nil => show PyData.strOk Str.empty = true; decide +kernel
  | cons y r ih =>
    cases r with
    | nil => exact h y (List.mem_cons_self ..)
    | cons z t => exact ok_app (ok_app (h y (List.mem_cons_self ..)) ha) (ih fun x hx => h x (List.mem_cons_of_mem _ hx))
theorem okl_map {α : Type} {xs : List α} {f : α → PySem.Str} (h : ∀ x, PyData.strOk (f x) = true) : OkL (xs.map f) := fun x hx => by
  obtain ⟨y, _, rfl⟩ := List.mem_map.mp hx
  exact h y
theorem okl_one {s : PySem.Str} (h : PyData.strOk s = true) : OkL [s] := fun x hx => by rw [List.mem_singleton.mp hx]; exact h
theorem okl_two {s t : PySem.Str} (h : PyData.strOk s = true) (h2 : PyData.strOk t = true) : OkL [s, t] := okl_app (okl_one h) (okl_one h2)
theorem ok_cm (k : Int) : PyData.strOk (cmL k) = true := by
  have hl : OkL ([("come a.a.a 0" : PySem.Str), ("come b.a.a 1" : PySem.Str), ("come c.a.a 2" : PySem.Str), ("come d.a.a 3" : PySem.Str), ("come e.a.a 4" : PySem.Str)] : List PySem.Str) :=
    okl_app (okl_two (ok_str _) (ok_str _)) (okl_app (okl_two (ok_str _) (ok_str _)) (okl_one (ok_str _)))
  have hd : PyData.strOk (default : PySem.Str) = true := by decide +kernel
  unfold cmL
  generalize ([("come a.a.a 0" : PySem.Str), ("come b.a.a 1" : PySem.Str), ("come c.a.a 2" : PySem.Str), ("come d.a.a 3" : PySem.Str), ("come e.a.a 4" : PySem.Str)] : List PySem.Str) = ys at hl ⊢
  have hg : ∀ n : Nat, PyData.strOk (ys.getD n default) = true := fun n => by
    rw [List.getD_eq_getElem?_getD]
    by_cases q : n < ys.length
    · rw [List.getElem?_eq_getElem q]; exact hl _ (List.getElem_mem q)
    · rw [List.getElem?_eq_none (by omega)]; exact hd
  unfold ixI
  split
  · exact hg _
  · exact hg _
theorem due_ok (cs : List Int) (a b c : List Int) : OkL (m__law_due cs a b c) := by
  rw [due_nf]
  unfold nf
  refine okl_app (okl_app (okl_app (okl_app (okl_app (okl_app (okl_app (okl_map ok_cm) (okl_two (ok_join (ok_str _) ?_) (ok_str _))) ?_) ?_) (okl_one (ok_str _))) ?_) ?_) ?_
  · exact okl_app (okl_two (ok_str _) (ok_str _)) (okl_lc fun x => ok_str _)
  all_goals exact okl_map fun x => ok_app (ok_str _) (ok_str _)
def m_law (script : Scr) : Bool := (lt (m__law_counts script) fun (counts : (List Int)) => (ltL3 (m__law_drawn script (ixI counts (0 : Int)) (ixI counts (1 : Int)) (ixI counts (2 : Int))) fun (had : (List Int)) (late : (List Int)) (heard : (List Int)) => (lt (((m__law_number had), (m__law_number late), (m__law_number heard)) : (Int × Int × Int)) fun (weaving : (Int × Int × Int)) => (lt (m__law_due counts had late heard) fun (due : (List PySem.Str)) => (lt (m_rows_of (ixI counts (0 : Int)) (ixI counts (1 : Int)) (ixI counts (2 : Int)) weaving) fun (found : (List PySem.Str)) => (cond ((!true) || (!decide (found = due))) false (lt (m_rows_of (1 : Int) (1 : Int) (1 : Int) (((1 : Int), (0 : Int), (1 : Int)) : (Int × Int × Int))) fun (other : (List PySem.Str)) => (lt ([] : (List PySem.Str)) fun (_ : (List PySem.Str)) => (lt (m_rows_of (ixI counts (0 : Int)) (ixI counts (1 : Int)) (ixI counts (2 : Int)) weaving) fun (again : (List PySem.Str)) => ((decide (again = due)) && (decide (other = (m__law_due ([(1 : Int), (1 : Int), (1 : Int)] : List Int) ([(0 : Int)] : List Int) ([] : List Int) ([(0 : Int)] : List Int))))))))))))))
abbrev s_law : Stmt := top 20
def sp_law (K : Fg) : Sp := fun vs H Q _ => ∃ (F : Hp) (script : Scr) (w0 : V), vs = [w0] ∧ Same F H ∧ rp K F script w0 ∧ Ret K Z0 F H Q (m_law script)
theorem sv_law {K : Fg} {script : Scr} : SpV K (sp_law K) (fun (F : Hp) (vs : List V) => ∃ v r, vs = v :: r ∧ rp K F script v ∧ (fun (_ : Hp) (vs : List V) => vs = []) F r) (m_law script) := by
  intro F H vs Q E s h hQ
  obtain ⟨v0, r0, e0, h0, h⟩ := h
  subst h
  subst e0
  exact ⟨F, script, v0, rfl, s, h0, fun F' H' p g r => hQ F' H' p g.gr r⟩
theorem sc_law : FnScope ["script", "counts", "had", "late", "heard", "weaving", "due", "found", "other", "again"] ["script"] (defScope s_law) := ⟨rfl, rfl, rfl, by decide +kernel, rfl, by decide +kernel, by decide +kernel⟩
theorem ok_law {P : Program} {w : World} {K : Fg} {mg : PySem.Str → Option Value} {base : Heap} (B : Bs mg) (D__law_counts : Dn P w K mg base CX0 "_law_counts" 2 ["script"] (sp__law_counts K)) (D__law_drawn : Dn P w K mg base CX0 "_law_drawn" 2 ["script", "copies", "reads", "writes"] (sp__law_drawn K)) (D__law_number : Dn P w K mg base CX0 "_law_number" 1 ["homes"] (sp__law_number K)) (D__law_due : Dn P w K mg base CX0 "_law_due" 2 ["counts", "had", "late", "heard"] (sp__law_due K)) (D_rows_of : Dn P w K mg base CX0 "rows_of" 3 ["copies", "reads", "writes", "weaving"] (sp_rows_of K)) {f : Addr} {fd : FuncData} (F : FnP K "law" s_law f fd) : FnOk P w K mg base CX0 4 f fd ["script"] (sp_law K) := by
  obtain ⟨f__law_counts, d__law_counts, G__law_counts, g__law_counts, k__law_counts, b__law_counts⟩ := D__law_counts
  obtain ⟨f__law_drawn, d__law_drawn, G__law_drawn, g__law_drawn, k__law_drawn, b__law_drawn⟩ := D__law_drawn
  obtain ⟨f__law_number, d__law_number, G__law_number, g__law_number, k__law_number, b__law_number⟩ := D__law_number
  obtain ⟨f__law_due, d__law_due, G__law_due, g__law_due, k__law_due, b__law_due⟩ := D__law_due
  obtain ⟨f_rows_of, d_rows_of, G_rows_of, g_rows_of, k_rows_of, b_rows_of⟩ := D_rows_of
  have nd : (["script", "counts", "had", "late", "heard", "weaving", "due", "found", "other", "again"] : List PySem.Str).Nodup := sc_law.nd
  refine F.ok sc_law (fun vs H Q E h => ?_) (fun cdv A outer s H0 vs Q E hr h => ?_)
  · obtain ⟨F0, script, vp_0, rfl, s, hp_0, hP⟩ := h
    rfl
  · obtain ⟨F0, script, vp_0, rfl, s, hp_0, hP⟩ := h
    have g : GrZ Z0 F0 H0 F0 H0 := GrZ.refl s
    refine ⟨_, PSs.nox (by exact (pss_cons (ps_set (i := 1) nd rfl (Or.inl rfl) (pe_call G__law_counts (hr.mono (by omega)) rfl g__law_counts k__law_counts b__law_counts .nil pass0 (pa_cons (pv 0) pa_nil))) (pss_cons (ps_asg (pe_call G__law_drawn (hr.mono (by omega)) rfl g__law_drawn k__law_drawn b__law_drawn .nil pass0 (pa_cons (pv 0) (pa_cons (pe_ix (ix_listK K) (pv 1) pe_int (fun _ _ => rfl)) (pa_cons (pe_ix (ix_listK K) (pv 1) pe_int (fun _ _ => rfl)) (pa_cons (pe_ix (ix_listK K) (pv 1) pe_int (fun _ _ => rfl)) pa_nil))))) (pg_lst (by rfl) (pgs_cons (pg_name (i := 2) nd rfl (Or.inl rfl)) (pgs_cons (pg_name (i := 3) nd rfl (Or.inl rfl)) (pgs_cons (pg_name (i := 4) nd rfl (Or.inl rfl)) pgs_nil))))) (pss_cons (ps_set (i := 5) nd rfl (Or.inl rfl) (pe_tup (pa_cons (pe_call G__law_number (hr.mono (by omega)) rfl g__law_number k__law_number b__law_number .nil pass0 (pa_cons (pv 2) pa_nil)) (pa_cons (pe_call G__law_number (hr.mono (by omega)) rfl g__law_number k__law_number b__law_number .nil pass0 (pa_cons (pv 3) pa_nil)) (pa_cons (pe_call G__law_number (hr.mono (by omega)) rfl g__law_number k__law_number b__law_number .nil pass0 (pa_cons (pv 4) pa_nil)) pa_nil))))) (pss_cons (ps_set (i := 6) nd rfl (Or.inl rfl) (pe_call G__law_due (hr.mono (by omega)) rfl g__law_due k__law_due b__law_due .nil pass0 (pa_cons (pv 1) (pa_cons (pv 2) (pa_cons (pv 3) (pa_cons (pv 4) pa_nil)))))) (pss_cons (ps_set (i := 7) nd rfl (Or.inl rfl) (pe_call G_rows_of (hr.mono (by omega)) rfl g_rows_of k_rows_of b_rows_of .nil pass0 (pa_cons (pe_ix (ix_listK K) (pv 1) pe_int (fun _ _ => rfl)) (pa_cons (pe_ix (ix_listK K) (pv 1) pe_int (fun _ _ => rfl)) (pa_cons (pe_ix (ix_listK K) (pv 1) pe_int (fun _ _ => rfl)) (pa_cons (pv 5) pa_nil)))))) (pss_cons (ps_if (PW.pt (pw_or (pt_not (pt_val (pe_callB (isiK K) (by rfl) B.b_isinstance (by decide +kernel) (pa_cons (pv 7) (pa_cons (pe_bltn (v := .ty "list") (by rfl) B.b_list (by decide +kernel) rfl) pa_nil))))) (pw_or1 (pt_cmpR (neDK K (by exact hr.units)) (pv 7) (pv 6) (nomark _))))) (pss_cons (ps_ret pe_bl) pss_nil) pss_nil) (pss_cons (ps_set (i := 8) nd rfl (Or.inl rfl) (pe_call G_rows_of (hr.mono (by omega)) rfl g_rows_of k_rows_of b_rows_of .nil pass0 (pa_cons pe_int (pa_cons pe_int (pa_cons pe_int (pa_cons (pe_tup (pa_cons pe_int (pa_cons pe_int (pa_cons pe_int pa_nil)))) pa_nil)))))) (pss_cons (ps_expr (pe_bm0 PySem.F.plainAttrs_list PySem.F.slot_list_clear PySem.F.type_list_clear mt_clear (pv 7))) (pss_cons (ps_set (i := 9) nd rfl (Or.inl rfl) (pe_call G_rows_of (hr.mono (by omega)) rfl g_rows_of k_rows_of b_rows_of .nil pass0 (pa_cons (pe_ix (ix_listK K) (pv 1) pe_int (fun _ _ => rfl)) (pa_cons (pe_ix (ix_listK K) (pv 1) pe_int (fun _ _ => rfl)) (pa_cons (pe_ix (ix_listK K) (pv 1) pe_int (fun _ _ => rfl)) (pa_cons (pv 5) pa_nil)))))) (pss_cons (ps_ret (pe_and (pe_cmpR (eqDK K (by exact hr.units)) (pv 9) (pv 6) (nomark _)) (pe_one (pe_cmpR (eqDK K (by exact hr.units)) (pv 8) (pe_call G__law_due (hr.mono (by omega)) rfl g__law_due k__law_due b__law_due .nil pass0 (pa_cons (pe_lst (pa_cons pe_int (pa_cons pe_int (pa_cons pe_int pa_nil)))) (pa_cons (pe_lst (pa_cons pe_int pa_nil)) (pa_cons (pe_lst pa_nil) (pa_cons (pe_lst (pa_cons pe_int pa_nil)) pa_nil))))) (nomark _))))) pss_nil))))))))))), ?_⟩
    refine q_set (K := K) (P := (Ret K Z0 F0 H0 Q)) hP s (TvL.tv (tl_call (ta_cons (tv_var rfl hp_0) ta_nil) (sv__law_counts ))) ?_
    intro counts F1 H2 v4 hcounts gr3 h_4 hP
    have s := gr3.sub
    have g := g.then gr3
    have hp_0 := up gr3.ex hp_0
    obtain ⟨hcl, hc0, hc1, hc2, hcm⟩ := counts_ok2 hcounts
    refine q_unpL3 (K := K) (P := (Ret K Z0 F0 H0 Q)) hP s (TvL.tv (tl_call (ta_cons (tv_var rfl hp_0) (ta_cons (tv_flat (tv_op (tv_var rfl (up s h_4)) tv_int (op2_ixL (by /- 1 ix -/ first | exact ⟨by decide, by decide⟩ | exact ⟨by omega, by omega⟩)))) (ta_cons (tv_flat (tv_op (tv_var rfl (up s h_4)) tv_int (op2_ixL (by /- 2 ix -/ first | exact ⟨by decide, by decide⟩ | exact ⟨by omega, by omega⟩)))) (ta_cons (tv_flat (tv_op (tv_var rfl (up s h_4)) tv_int (op2_ixL (by /- 3 ix -/ first | exact ⟨by decide, by decide⟩ | exact ⟨by omega, by omega⟩)))) ta_nil)))) (sv__law_drawn (by /- 4 pre:_law_drawn -/ exact ⟨hc0.1, hc0.2, hc1.1, hc1.2, hc2.1, hc2.2⟩)))) (by /- 5 unp -/ exact drawn_len ⟨hc0.1, hc0.2, hc1.1, hc1.2, hc2.1, hc2.2⟩) ?_
    intro had late heard F5 H6 v7_0 v7_1 v7_2 hu_had gr7 h7_0 h7_1 h7_2 hP
    obtain ⟨ghad, glate, gheard⟩ := drawn_gd ⟨hc0.1, hc0.2, hc1.1, hc1.2, hc2.1, hc2.2⟩ hu_had
    have lhad := gd_len ghad
    have llate := gd_len glate
    have lheard := gd_len gheard
    have s := gr7.sub
    have g := g.then gr7
    have hp_0 := up gr7.ex hp_0
    have h_4 := up gr7.ex h_4
    refine q_set (K := K) (P := (Ret K Z0 F0 H0 Q)) hP s (tv_tup (ta_tc (tv_flat (tv_call (ta_cons (tv_var rfl (up s h7_0)) ta_nil) (sv__law_number (by /- 6 pre:_law_number -/ exact ghad.2)))) (ta_tc (tv_flat (tv_call (ta_cons (tv_var rfl (up s h7_1)) ta_nil) (sv__law_number (by /- 7 pre:_law_number -/ exact glate.2)))) (ta_t1 (tv_flat (tv_call (ta_cons (tv_var rfl (up s h7_2)) ta_nil) (sv__law_number (by /- 8 pre:_law_number -/ exact gheard.2))))))) (tlen (n := 3) (by decide))) ?_
    intro weaving F8 H9 v11 hweaving gr10 h_11 hP
    have s := gr10.sub
    have g := g.then gr10
    have hp_0 := up gr10.ex hp_0
    have h_4 := up gr10.ex h_4
    have h7_0 := up gr10.ex h7_0
    have h7_1 := up gr10.ex h7_1
    have h7_2 := up gr10.ex h7_2
    have hw1 := (num_ok ghad).1
    have hw2 := (num_ok glate).1
    have hw3 := (num_ok gheard).1
    have ew1 : weaving.1 = m__law_number had := by rw [hweaving]
    have ew2 : weaving.2.1 = m__law_number late := by rw [hweaving]
    have ew3 : weaving.2.2 = m__law_number heard := by rw [hweaving]
    rw [← ew1] at hw1
    rw [← ew2] at hw2
    rw [← ew3] at hw3
    refine q_set (K := K) (P := (Ret K Z0 F0 H0 Q)) hP s (tv_call (ta_cons (tv_var rfl h_4) (ta_cons (tv_var rfl h7_0) (ta_cons (tv_var rfl h7_1) (ta_cons (tv_var rfl h7_2) ta_nil)))) (sv__law_due (by /- 9 pre:_law_due -/ exact ⟨hcl, hcm, ⟨lhad, ghad.2⟩, ⟨llate, glate.2⟩, ⟨lheard, gheard.2⟩⟩))) ?_
    intro due F12 H13 v15 hdue gr14 h_15 hP
    have s := gr14.sub
    have g := g.then gr14
    have hp_0 := up gr14.ex hp_0
    have h_4 := up gr14.ex h_4
    have h7_0 := up gr14.ex h7_0
    have h7_1 := up gr14.ex h7_1
    have h7_2 := up gr14.ex h7_2
    have h_11 := up gr14.ex h_11
    have okd : Dat.ok due := by (rw [hdue]; exact due_ok _ _ _ _)
    refine q_setM (K := K) (P := (Ret K Z0 F0 H0 Q)) hP s (tl_call (ta_cons (tv_flat (tv_op (tv_var rfl (up s h_4)) tv_int (op2_ixL (by /- 10 ix -/ first | exact ⟨by decide, by decide⟩ | exact ⟨by omega, by omega⟩)))) (ta_cons (tv_flat (tv_op (tv_var rfl (up s h_4)) tv_int (op2_ixL (by /- 11 ix -/ first | exact ⟨by decide, by decide⟩ | exact ⟨by omega, by omega⟩)))) (ta_cons (tv_flat (tv_op (tv_var rfl (up s h_4)) tv_int (op2_ixL (by /- 12 ix -/ first | exact ⟨by decide, by decide⟩ | exact ⟨by omega, by omega⟩)))) (ta_cons (tv_var rfl h_11) ta_nil)))) (sv_rows_of (by /- 13 pre:rows_of -/ exact ⟨⟨hc0.1, hc0.2, hc1.1, hc1.2, hc2.1, hc2.2⟩, hw1, hw2, hw3⟩))) ?_
    intro found F16 H17 p19 hfound gr18 nw19 m_19 hP
    have n_19 := g.newIn nw19
    have s := gr18.sub
    have g := g.then gr18
    have hp_0 := up gr18.ex hp_0
    have h_4 := up gr18.ex h_4
    have h7_0 := up gr18.ex h7_0
    have h7_1 := up gr18.ex h7_1
    have h7_2 := up gr18.ex h7_2
    have h_11 := up gr18.ex h_11
    have h_15 := up gr18.ex h_15
    have okf : Dat.ok found := by (rw [hfound]; exact rows_ok _ _ _ _)
    refine q_if (P := (Ret K Z0 F0 H0 Q)) hP (tt_or (tt_not (tt_B (K := K) (tv_isi (α := (List PySem.Str)) (n := "list") (c := "list") (b := true) (tv_var rfl (m_19.rd s)) (by decide +kernel)))) (fun hq20 => (tt_test (K := K) (tv_op (tv_var rfl (m_19.rd s)) (tv_var rfl (up s h_15)) (op2_neD (by /- 14 dok -/ exact okf) (by /- 15 dok -/ exact okd) (by decide)))))) ?_ ?_
    · intro hc22 H22 e22 hP
      have s := s.trans e22
      have g := g.grow e22
      have m_19 := m_19.grow e22
      exact q_retF hP g tv_bl
    · intro hc22 H22 e22 hP
      first | refine q_endS ?_ | refine q_endC ?_ | refine q_end ?_
      have s := s.trans e22
      have g := g.grow e22
      have m_19 := m_19.grow e22
      refine q_set (K := K) (P := (Ret K Z0 F0 H0 Q)) hP s (TvL.tv (tl_call (ta_cons (tv_flat tv_int) (ta_cons (tv_flat tv_int) (ta_cons (tv_flat tv_int) (ta_cons (tv_tup (ta_tc (tv_flat tv_int) (ta_tc (tv_flat tv_int) (ta_t1 (tv_flat tv_int)))) (tlen (n := 3) (by decide))) ta_nil)))) (sv_rows_of (by /- 16 pre:rows_of -/ first | (first | decide | assumption | omega) | ((try simp only [decide_eq_true_eq, decide_eq_false_iff_not, Bool.not_eq_true', Bool.not_eq_false', Bool.and_eq_true, Bool.and_eq_false_iff, Bool.or_eq_true, Bool.or_eq_false_iff] at hc22); (first | decide | assumption | omega)))))) ?_
      intro other F23 H24 v26 hother gr25 h_26 hP
      have s := gr25.sub
      have g := g.then gr25
      have hp_0 := up gr25.ex hp_0
      have h_4 := up gr25.ex h_4
      have h7_0 := up gr25.ex h7_0
      have h7_1 := up gr25.ex h7_1
      have h7_2 := up gr25.ex h7_2
      have h_11 := up gr25.ex h_11
      have h_15 := up gr25.ex h_15
      have m_19 := m_19.go gr25
      have oko : Dat.ok other := by (rw [hother]; exact rows_ok _ _ _ _)
      refine q_clear (K := K) (P := (Ret K Z0 F0 H0 Q)) hP s m_19 rfl ?_
      intro F28 H27 md29 m_19 hP
      have s := md29.sub
      have g := g.md n_19 md29
      have hp_0 := up md29.ex hp_0
      have h_4 := up md29.ex h_4
      have h7_0 := up md29.ex h7_0
      have h7_1 := up md29.ex h7_1
      have h7_2 := up md29.ex h7_2
      have h_11 := up md29.ex h_11
      have h_15 := up md29.ex h_15
      have h_26 := up md29.ex h_26
      refine q_set (K := K) (P := (Ret K Z0 F0 H0 Q)) hP s (TvL.tv (tl_call (ta_cons (tv_flat (tv_op (tv_var rfl (up s h_4)) tv_int (op2_ixL (by /- 17 ix -/ first | (first | exact ⟨by decide, by decide⟩ | exact ⟨by omega, by omega⟩) | ((try simp only [decide_eq_true_eq, decide_eq_false_iff_not, Bool.not_eq_true', Bool.not_eq_false', Bool.and_eq_true, Bool.and_eq_false_iff, Bool.or_eq_true, Bool.or_eq_false_iff] at hc22); (first | exact ⟨by decide, by decide⟩ | exact ⟨by omega, by omega⟩)))))) (ta_cons (tv_flat (tv_op (tv_var rfl (up s h_4)) tv_int (op2_ixL (by /- 18 ix -/ first | (first | exact ⟨by decide, by decide⟩ | exact ⟨by omega, by omega⟩) | ((try simp only [decide_eq_true_eq, decide_eq_false_iff_not, Bool.not_eq_true', Bool.not_eq_false', Bool.and_eq_true, Bool.and_eq_false_iff, Bool.or_eq_true, Bool.or_eq_false_iff] at hc22); (first | exact ⟨by decide, by decide⟩ | exact ⟨by omega, by omega⟩)))))) (ta_cons (tv_flat (tv_op (tv_var rfl (up s h_4)) tv_int (op2_ixL (by /- 19 ix -/ first | (first | exact ⟨by decide, by decide⟩ | exact ⟨by omega, by omega⟩) | ((try simp only [decide_eq_true_eq, decide_eq_false_iff_not, Bool.not_eq_true', Bool.not_eq_false', Bool.and_eq_true, Bool.and_eq_false_iff, Bool.or_eq_true, Bool.or_eq_false_iff] at hc22); (first | exact ⟨by decide, by decide⟩ | exact ⟨by omega, by omega⟩)))))) (ta_cons (tv_var rfl h_11) ta_nil)))) (sv_rows_of (by /- 20 pre:rows_of -/ exact ⟨⟨hc0.1, hc0.2, hc1.1, hc1.2, hc2.1, hc2.2⟩, hw1, hw2, hw3⟩)))) ?_
      intro again F30 H31 v33 hagain gr32 h_33 hP
      have s := gr32.sub
      have g := g.then gr32
      have hp_0 := up gr32.ex hp_0
      have h_4 := up gr32.ex h_4
      have h7_0 := up gr32.ex h7_0
      have h7_1 := up gr32.ex h7_1
      have h7_2 := up gr32.ex h7_2
      have h_11 := up gr32.ex h_11
      have h_15 := up gr32.ex h_15
      have m_19 := m_19.go gr32
      have h_26 := up gr32.ex h_26
      have oka : Dat.ok again := by (rw [hagain]; exact rows_ok _ _ _ _)
      exact q_retF hP g (tv_and (tv_op (tv_var rfl (up s h_33)) (tv_var rfl (up s h_15)) (op2_eqD (by /- 21 dok -/ exact oka) (by /- 22 dok -/ exact okd) (by decide))) (fun hq34 => (tv_op (tv_var rfl (up s h_26)) (tv_call (ta_cons (TvL.tv (tl_lst (ta_rcons tv_int (ta_rcons tv_int (ta_rcons tv_int ta_rnil))) (by show 3 ≤ 100000; decide))) (ta_cons (TvL.tv (tl_lst (ta_rcons tv_int ta_rnil) (by show 1 ≤ 100000; decide))) (ta_cons (TvL.tv (tl_lst ta_rnil (by decide))) (ta_cons (TvL.tv (tl_lst (ta_rcons tv_int ta_rnil) (by show 1 ≤ 100000; decide))) ta_nil)))) (sv__law_due (by /- 23 pre:_law_due -/ first | (first | decide | assumption | omega) | ((try simp only [decide_eq_true_eq, decide_eq_false_iff_not, Bool.not_eq_true', Bool.not_eq_false', Bool.and_eq_true, Bool.and_eq_false_iff, Bool.or_eq_true, Bool.or_eq_false_iff] at hc22); (try simp only [decide_eq_true_eq, decide_eq_false_iff_not, Bool.not_eq_true', Bool.not_eq_false', Bool.and_eq_true, Bool.and_eq_false_iff, Bool.or_eq_true, Bool.or_eq_false_iff] at hq34); (first | decide | assumption | omega))))) (op2_eqD (by /- 24 dok -/ exact oko) (by /- 25 dok -/ exact due_ok _ _ _ _) (by decide)))))
theorem lc_map {α β : Type} (xs : List α) (f : α → β) : lc xs (fun _ => true) f = xs.map f := by
  unfold lc
  rw [List.filter_eq_self.mpr fun _ _ => rfl]
theorem rows_nf {c r w : Int} {had late heard : List Int} (h1 : 1 ≤ c ∧ c ≤ 5) (h2 : 0 ≤ r ∧ r ≤ 5) (h3 : 0 ≤ w ∧ w ≤ 5) (g1 : Gd had) (g2 : Gd late) (g3 : Gd heard) : m_rows_of c r w (m__law_number had, m__law_number late, m__law_number heard) = nf c (thL c r w) had late heard := by
  have e : lc (ItemsT.its (τ := (Int × Int × Int)) (m__law_number had, m__law_number late, m__law_number heard)) (fun (some' : Int) => true) (fun (some' : Int) => (m_homes_in some')) = [had, late, heard] := by
    show [m_homes_in (m__law_number had), m_homes_in (m__law_number late), m_homes_in (m__law_number heard)] = _
    rw [(num_ok g1).2, (num_ok g2).2, (num_ok g3).2]
  unfold m_rows_of nf
  simp only [e, ltL3_eq, ixI_0, ixI_1, ixI_2, lt_eq]
  have hb : ∀ xs, m_bring_rows xs = xs.map brg := fun xs => lc_map xs _
  simp only [hb, lc_map, List.map_map]
  have hcm : (rng 0 c.toNat).map (fun (at' : Int) => (((("come " : PySem.Str) ++ (chI ("abcde" : PySem.Str) at')) ++ (".a.a " : PySem.Str)) ++ (strI at'))) = (rng 0 c.toNat).map cmL := by
    apply List.map_congr_left
    intro x hx
    have hr := rng_mem x hx
    have := cm_eq ⟨x.toNat, by omega⟩
    rw [show ((x.toNat : Nat) : Int) = x by omega] at this
    exact this
  rw [hcm]
  have hth : (fj [("thing 0 " : PySem.Str), (strI c), (" " : PySem.Str), (strI r), (" " : PySem.Str), (strI w)]) = thL c r w := th_eq ⟨by omega, h1.2⟩ h2 h3
  rw [hth]
  have e1 : (brg ∘ fun (at' : Int) => (1 : Int) + at') = fun h => brg (h + 1) := by
    funext h
    show brg (1 + h) = _
    rw [Int.add_comm]
  simp only [e1, Int.toNat_natCast, List.append_assoc]
  rfl
theorem due_nf3 (c r w : Int) (had late heard : List Int) : m__law_due [c, r, w] had late heard = nf c (thL c r w) had late heard := by
  rw [due_nf, ixI_0]
  rfl
theorem law_true (ns : List Int) (_h : ns.length ≤ 63) : m_law ⟨ns⟩ = true := by
  have hc := counts_ok2 (x := ⟨ns⟩) rfl
  have h3 := len_counts ⟨ns⟩
  match e : m__law_counts ⟨ns⟩, h3 with
  | [c, r, w], _ =>
    rw [e] at hc
    obtain ⟨_, c0, c1, c2, _⟩ := hc
    simp only [ixI_0, ixI_1, ixI_2] at c0 c1 c2
    obtain ⟨had, late, heard, ed, g1, g2, g3⟩ := drawn_ok (script := ⟨ns⟩) (copies := c) (reads := r) (writes := w) ⟨c0.1, c0.2, c1.1, c1.2, c2.1, c2.2⟩
    have hr := rows_nf c0 ⟨by omega, by omega⟩ ⟨by omega, by omega⟩ g1 g2 g3 (r := r) (w := w)
    rw [← due_nf3] at hr
    have ho := rows_nf (c := 1) (r := 1) (w := 1) (had := [0]) (late := []) (heard := [0]) (by decide) (by decide) (by decide) (by decide) (by decide) (by decide)
    rw [← due_nf3] at ho
    have n1 : m__law_number [0] = 1 := by decide +kernel
    have n2 : m__law_number [] = 0 := by decide +kernel
    rw [n1, n2] at ho
    unfold m_law
    simp only [e, lt_eq, ixI_0, ixI_1, ixI_2, ed, ltL3_eq, hr, ho, decide_true, Bool.not_true, Bool.or_self, cond_false, Bool.and_self]
def d_is_whole : He.DefD := ⟨("is_whole", none), "is_whole", "is_whole", defArgs s_is_whole, defBody s_is_whole, defScope s_is_whole, [], []⟩
def d_need_counts : He.DefD := ⟨("need_counts", none), "need_counts", "need_counts", defArgs s_need_counts, defBody s_need_counts, defScope s_need_counts, [], []⟩
def d_homes_in : He.DefD := ⟨("homes_in", none), "homes_in", "homes_in", defArgs s_homes_in, defBody s_homes_in, defScope s_homes_in, [], []⟩
def d_bring_rows : He.DefD := ⟨("bring_rows", none), "bring_rows", "bring_rows", defArgs s_bring_rows, defBody s_bring_rows, defScope s_bring_rows, [], []⟩
def d_rows_of : He.DefD := ⟨("rows_of", none), "rows_of", "rows_of", defArgs s_rows_of, defBody s_rows_of, defScope s_rows_of, [], []⟩
def d__law_cell : He.DefD := ⟨("_law_cell", none), "_law_cell", "_law_cell", defArgs s__law_cell, defBody s__law_cell, defScope s__law_cell, [], []⟩
def d__law_whole : He.DefD := ⟨("_law_whole", none), "_law_whole", "_law_whole", defArgs s__law_whole, defBody s__law_whole, defScope s__law_whole, [], []⟩
def d__law_counts : He.DefD := ⟨("_law_counts", none), "_law_counts", "_law_counts", defArgs s__law_counts, defBody s__law_counts, defScope s__law_counts, [], []⟩
def d__law_taken : He.DefD := ⟨("_law_taken", none), "_law_taken", "_law_taken", defArgs s__law_taken, defBody s__law_taken, defScope s__law_taken, [], []⟩
def d__law_number : He.DefD := ⟨("_law_number", none), "_law_number", "_law_number", defArgs s__law_number, defBody s__law_number, defScope s__law_number, [], []⟩
def d__law_drawn : He.DefD := ⟨("_law_drawn", none), "_law_drawn", "_law_drawn", defArgs s__law_drawn, defBody s__law_drawn, defScope s__law_drawn, [], []⟩
def d__law_bring : He.DefD := ⟨("_law_bring", none), "_law_bring", "_law_bring", defArgs s__law_bring, defBody s__law_bring, defScope s__law_bring, [], []⟩
def d__law_due : He.DefD := ⟨("_law_due", none), "_law_due", "_law_due", defArgs s__law_due, defBody s__law_due, defScope s__law_due, [], []⟩
def d_law : He.DefD := ⟨("law", none), "law", "law", defArgs s_law, defBody s_law, defScope s_law, [], []⟩
def fn_ : List He.DefD := [d_is_whole, d_need_counts, d_homes_in, d_bring_rows, d_rows_of, d__law_cell, d__law_whole, d__law_counts, d__law_taken, d__law_number, d__law_drawn, d__law_bring, d__law_due, d_law]
def fa_ : List He.Fa := [.glo "is_whole", .glo "need_counts", .glo "homes_in", .glo "bring_rows", .glo "rows_of", .glo "_law_cell", .glo "_law_whole", .glo "_law_counts", .glo "_law_taken", .glo "_law_number", .glo "_law_drawn", .glo "_law_bring", .glo "_law_due", .glo "law", .free "int", .free "isinstance", .free "bool", .free "len", .free "range", .free "str", .free "list", .free "sorted", .str "NAMES" "abcde"]
abbrev R_ : PySem.W.OpenRow := PySem.W.OpenLaw.row PySem.Challenge.rw_threeroofs_k74_rows_of_a_weaving
abbrev hk_ : PySem.W.Hook := He.hookD 4 fa_ fn_
def ob_ (s : PySem.W.SharedT) : He.AlD := He.obsDG 4 fa_ fn_ (HandSHeadRun.getT s)
theorem ob_eq (s : PySem.W.SharedT) : ob_ s = hk_.obs s.abs := He.obsDG_eq (HandSHeadRun.getT_eq s)
def loose_ : List PySem.Str := ["RoofError", "NoCounts", "is_whole", "NAMES", "need_counts", "homes_in", "bring_rows", "rows_of", "_law_cell", "_law_whole", "_law_counts", "_law_taken", "_law_number", "_law_drawn", "_law_bring", "_law_due"]
theorem run_ (w : World) : HandSHeadRun.RunEq R_ (PySem.W.view R_.prog [20]) hk_ ob_ 3000 loose_ w := by
  intro os
  kernel_rfl
theorem facts_ {P : Program} {w : World} {K : Fg} {h : Heap} {mg : PySem.Str → Option Value} {f : Addr} (X : K.In h) (G : h.Ns mainGlobals mg) (hfa : mg ("law" : PySem.Str) = some (.ref f)) (c : He.SaysD fa_ fn_ K) :
    ∃ fd : FuncData, (∀ (s : Shared) (v : Value), BindsTo s fd ⟨[v], []⟩ [("script", v)]) ∧ ∀ base : Heap, K.In base → base.Ns mainGlobals mg → FnOk P w K mg base CX0 4 f fd ["script"] (sp_law K) := by
  have B : Bs mg := ⟨He.free_ok X G (c.fact 14 (f := .free "int") rfl), He.free_ok X G (c.fact 15 (f := .free "isinstance") rfl), He.free_ok X G (c.fact 16 (f := .free "bool") rfl), He.free_ok X G (c.fact 17 (f := .free "len") rfl), He.free_ok X G (c.fact 18 (f := .free "range") rfl), He.free_ok X G (c.fact 19 (f := .free "str") rfl), He.free_ok X G (c.fact 20 (f := .free "list") rfl), He.free_ok X G (c.fact 21 (f := .free "sorted") rfl), He.str_ok X G (c.fact 22 (f := .str "NAMES" "abcde") rfl)⟩
  obtain ⟨fd_is_whole, F_is_whole⟩ := c.def_ 0 (d := d_is_whole) rfl
  have gl_is_whole := He.glo_ok X G (c.fact 0 (f := .glo "is_whole") rfl)
  obtain ⟨fd_need_counts, F_need_counts⟩ := c.def_ 1 (d := d_need_counts) rfl
  have gl_need_counts := He.glo_ok X G (c.fact 1 (f := .glo "need_counts") rfl)
  obtain ⟨fd_homes_in, F_homes_in⟩ := c.def_ 2 (d := d_homes_in) rfl
  have gl_homes_in := He.glo_ok X G (c.fact 2 (f := .glo "homes_in") rfl)
  obtain ⟨fd_bring_rows, F_bring_rows⟩ := c.def_ 3 (d := d_bring_rows) rfl
  have gl_bring_rows := He.glo_ok X G (c.fact 3 (f := .glo "bring_rows") rfl)
  obtain ⟨fd_rows_of, F_rows_of⟩ := c.def_ 4 (d := d_rows_of) rfl
  have gl_rows_of := He.glo_ok X G (c.fact 4 (f := .glo "rows_of") rfl)
  obtain ⟨fd__law_cell, F__law_cell⟩ := c.def_ 5 (d := d__law_cell) rfl
  have gl__law_cell := He.glo_ok X G (c.fact 5 (f := .glo "_law_cell") rfl)
  obtain ⟨fd__law_whole, F__law_whole⟩ := c.def_ 6 (d := d__law_whole) rfl
  have gl__law_whole := He.glo_ok X G (c.fact 6 (f := .glo "_law_whole") rfl)
  obtain ⟨fd__law_counts, F__law_counts⟩ := c.def_ 7 (d := d__law_counts) rfl
  have gl__law_counts := He.glo_ok X G (c.fact 7 (f := .glo "_law_counts") rfl)
  obtain ⟨fd__law_taken, F__law_taken⟩ := c.def_ 8 (d := d__law_taken) rfl
  have gl__law_taken := He.glo_ok X G (c.fact 8 (f := .glo "_law_taken") rfl)
  obtain ⟨fd__law_number, F__law_number⟩ := c.def_ 9 (d := d__law_number) rfl
  have gl__law_number := He.glo_ok X G (c.fact 9 (f := .glo "_law_number") rfl)
  obtain ⟨fd__law_drawn, F__law_drawn⟩ := c.def_ 10 (d := d__law_drawn) rfl
  have gl__law_drawn := He.glo_ok X G (c.fact 10 (f := .glo "_law_drawn") rfl)
  obtain ⟨fd__law_bring, F__law_bring⟩ := c.def_ 11 (d := d__law_bring) rfl
  have gl__law_bring := He.glo_ok X G (c.fact 11 (f := .glo "_law_bring") rfl)
  obtain ⟨fd__law_due, F__law_due⟩ := c.def_ 12 (d := d__law_due) rfl
  have gl__law_due := He.glo_ok X G (c.fact 12 (f := .glo "_law_due") rfl)
  obtain ⟨fd_law, F_law⟩ := c.def_ 13 (d := d_law) rfl
  have gl_law := He.glo_ok X G (c.fact 13 (f := .glo "law") rfl)
  have e := hfa.symm.trans gl_law
  cases e
  have b := FunD.bindsA (ps := ["script"]) F_law fun _ _ _ _ _ _ us hl => match us, hl with | [_], _ => rfl
  refine ⟨fd_law, fun s v => b s [v] rfl, fun base _ _ => ?_⟩
  have D_is_whole : Dn P w K mg base CX0 "is_whole" 1 ["thing"] (sp_is_whole K) := ⟨_, fd_is_whole, ok_is_whole B  F_is_whole, gl_is_whole, F_is_whole.kp, F_is_whole.bindsN fun _ _ _ _ _ _ us hl => match us, hl with | [_], _ => rfl⟩
  have D_need_counts : Dn P w K mg base CX0 "need_counts" 2 ["copies", "reads", "writes"] (sp_need_counts K) := ⟨_, fd_need_counts, ok_need_counts B D_is_whole F_need_counts, gl_need_counts, F_need_counts.kp, F_need_counts.bindsN fun _ _ _ _ _ _ us hl => match us, hl with | [_, _, _], _ => rfl⟩
  have D_homes_in : Dn P w K mg base CX0 "homes_in" 1 ["some"] (sp_homes_in K) := ⟨_, fd_homes_in, ok_homes_in B  F_homes_in, gl_homes_in, F_homes_in.kp, F_homes_in.bindsN fun _ _ _ _ _ _ us hl => match us, hl with | [_], _ => rfl⟩
  have D_bring_rows : Dn P w K mg base CX0 "bring_rows" 1 ["numbers"] (sp_bring_rows K) := ⟨_, fd_bring_rows, ok_bring_rows B  F_bring_rows, gl_bring_rows, F_bring_rows.kp, F_bring_rows.bindsN fun _ _ _ _ _ _ us hl => match us, hl with | [_], _ => rfl⟩
  have D_rows_of : Dn P w K mg base CX0 "rows_of" 3 ["copies", "reads", "writes", "weaving"] (sp_rows_of K) := ⟨_, fd_rows_of, ok_rows_of B D_need_counts D_homes_in D_bring_rows F_rows_of, gl_rows_of, F_rows_of.kp, F_rows_of.bindsN fun _ _ _ _ _ _ us hl => match us, hl with | [_, _, _, _], _ => rfl⟩
  have D__law_cell : Dn P w K mg base CX0 "_law_cell" 1 ["script", "k"] (sp__law_cell K) := ⟨_, fd__law_cell, ok__law_cell B  F__law_cell, gl__law_cell, F__law_cell.kp, F__law_cell.bindsN fun _ _ _ _ _ _ us hl => match us, hl with | [_, _], _ => rfl⟩
  have D__law_whole : Dn P w K mg base CX0 "_law_whole" 1 ["found"] (sp__law_whole K) := ⟨_, fd__law_whole, ok__law_whole B  F__law_whole, gl__law_whole, F__law_whole.kp, F__law_whole.bindsN fun _ _ _ _ _ _ us hl => match us, hl with | [_], _ => rfl⟩
  have D__law_counts : Dn P w K mg base CX0 "_law_counts" 2 ["script"] (sp__law_counts K) := ⟨_, fd__law_counts, ok__law_counts B D__law_cell F__law_counts, gl__law_counts, F__law_counts.kp, F__law_counts.bindsN fun _ _ _ _ _ _ us hl => match us, hl with | [_], _ => rfl⟩
  have D__law_taken : Dn P w K mg base CX0 "_law_taken" 1 ["homes", "many", "cell"] (sp__law_taken K) := ⟨_, fd__law_taken, ok__law_taken B  F__law_taken, gl__law_taken, F__law_taken.kp, F__law_taken.bindsN fun _ _ _ _ _ _ us hl => match us, hl with | [_, _, _], _ => rfl⟩
  have D__law_number : Dn P w K mg base CX0 "_law_number" 1 ["homes"] (sp__law_number K) := ⟨_, fd__law_number, ok__law_number B  F__law_number, gl__law_number, F__law_number.kp, F__law_number.bindsN fun _ _ _ _ _ _ us hl => match us, hl with | [_], _ => rfl⟩
  have D__law_drawn : Dn P w K mg base CX0 "_law_drawn" 2 ["script", "copies", "reads", "writes"] (sp__law_drawn K) := ⟨_, fd__law_drawn, ok__law_drawn B D__law_taken D__law_cell F__law_drawn, gl__law_drawn, F__law_drawn.kp, F__law_drawn.bindsN fun _ _ _ _ _ _ us hl => match us, hl with | [_, _, _, _], _ => rfl⟩
  have D__law_bring : Dn P w K mg base CX0 "_law_bring" 1 ["number"] (sp__law_bring K) := ⟨_, fd__law_bring, ok__law_bring B  F__law_bring, gl__law_bring, F__law_bring.kp, F__law_bring.bindsN fun _ _ _ _ _ _ us hl => match us, hl with | [_], _ => rfl⟩
  have D__law_due : Dn P w K mg base CX0 "_law_due" 2 ["counts", "had", "late", "heard"] (sp__law_due K) := ⟨_, fd__law_due, ok__law_due B D__law_bring F__law_due, gl__law_due, F__law_due.kp, F__law_due.bindsN fun _ _ _ _ _ _ us hl => match us, hl with | [_, _, _, _], _ => rfl⟩
  exact ok_law B D__law_counts D__law_drawn D__law_number D__law_due D_rows_of F_law
end Th
open PySem PySem.W PySem.Calls PyProof.Rows
theorem PySem.Challenge.cw_threeroofs_k74_rows_of_a_weaving_holds : PySem.Challenge.rw_threeroofs_k74_rows_of_a_weaving.Holds := by
  w_on; o_law
  refine HandSHeadRun.head_any (r := OpenLaw.row PySem.Challenge.rw_threeroofs_k74_rows_of_a_weaving) (q := view (OpenLaw.row PySem.Challenge.rw_threeroofs_k74_rows_of_a_weaving).prog [20]) (H := Th.hk_) (ob := Th.ob_) (M := 3000) (loose := Th.loose_) (d := HandSHeadRun.topDef (OpenLaw.row PySem.Challenge.rw_threeroofs_k74_rows_of_a_weaving).prog 20) (kwd := []) Th.ob_eq
    (by kernel_rfl) (fun s => by kernel_rfl) Th.run_ (by kernel_rfl) (by kernel_rfl) (by kernel_rfl) (by rfl) (by first | assumption | decide +kernel) (by decide +kernel) ⟨rfl, rfl, rfl, rfl, rfl, by decide +kernel⟩ ?hw ?hc
  case hw => w_witness2
  case hc =>
    refine L2.walk_ofE (l := PySem.Challenge.rw_threeroofs_k74_rows_of_a_weaving) (n := 63) (k := 4) (x := "script") (CX := L2.CX0) rfl (by decide) (by kernel_rfl) ⟨rfl, by decide, by decide⟩ ?F (fun _ _ _ _ z => z)
    intro w mg fa h Y G hmg0
    obtain ⟨K, KX, c⟩ := Y
    have hmg : mg ("law" : PySem.Str) = some (.ref fa) := by
      have e : (HandSHeadRun.topDef (OpenLaw.row PySem.Challenge.rw_threeroofs_k74_rows_of_a_weaving).prog 20).name = ("law" : PySem.Str) := by kernel_rfl
      rw [← e]
      exact hmg0
    obtain ⟨fd, hb, hF⟩ := Th.facts_ (P := (PySem.Challenge.rw_threeroofs_k74_rows_of_a_weaving).prog) (w := w) KX G hmg c
    exact ⟨K, fd, Th.sp_law K, KX, hb, fun H a ns hl _ hS => ⟨H, ⟨ns⟩, .ref a, rfl, L2.Same.refl H, ⟨a, rfl, hS⟩, fun F' H' r g hr => by
      have e : r = L2.V.bl (Th.m_law ⟨ns⟩) := hr
      rw [e, Th.law_true ns hl]⟩, hF⟩
#print axioms PySem.Challenge.cw_threeroofs_k74_rows_of_a_weaving_holds
