import PyProof.Rows.All
import Wide.All
import OpenK.AllK
import Wide.FinOn
import HandS.Nested
import HandS.ForExc
import HandS.ForMost
import HandS.More
import HandS.Strs
import HandS.Property
import HandS.IsInst
import HandS.Zip
import HandS.Conv
import HandS.Style
import HandS.TupAny
import HandS.TupMul
import HandS.Defaults
import HandS.Flow
import HandS.Walk
import HandS.Wide
import KE.GoesEnum
import KE.GoesMore
import HandS.Evl
import HandS.MakeKwOnly
import PySem.Challenge.RW_seedless_k70_outcomes_of_repeated_orders
import HandS.Head0
import HandS.Head1
import HandS.Head2
import HandS.HeadEnd
import HandS.HeadHook1
import HandS.HeadHook2
import HandS.HeadHook3
import HandS.HeadHook4
import HandS.HeadNt
import HandS.HeadWalk
set_option Elab.async false
set_option linter.all false
namespace G
/-- what the code objects made at run time are called, by place -/
def nmG : Nat → Nat → PySem.Str := fun _ _ => "repeated_outcome.<locals>.<lambda>"
end G
set_option maxRecDepth 100000
set_option maxHeartbeats 4000000
namespace G
open PySem PySem.Spec PyProof.Rows L2
/-! data that nobody changes, and how it stands in the heap -/
inductive D where
  | non | bl (b : Bool) | int (i : Int) | str (x : Str)
  | tup (xs : List D) | ktup (xs : List D) | lst (xs : List D)
  | obj (C : Addr) (fs : List (Str × D))
theorem same_t {K : PySem.W.Frag} {H H' : Hp} {a : Addr} {xs : List V} (e : Same H H') (h : SqT K H a xs) : SqT K H' a xs := by
  rcases h with (h | ⟨o, h⟩) | h
  · exact .inl (.inl (e _ _ h))
  · exact .inl (.inr ⟨o, e _ _ h⟩)
  · exact .inr h
mutual
def Rep (K : PySem.W.Frag) (B : Hp) : D → V → Prop
  | .non, v => v = .non
  | .bl b, v => v = .bl b
  | .int i, v => v = .int i
  | .str x, v => v = .str x
  | .tup ds, v => ∃ p xs, v = .ref p ∧ SqT K B p xs ∧ RepL K B ds xs
  | .ktup ds, v => ∃ p xs o, v = .ref p ∧ (B p = some (.frz o (.tup xs)) ∧ o.dict = none) ∧ RepL K B ds xs
  | .lst ds, v => ∃ p xs, v = .ref p ∧ B p = some (.lst xs) ∧ RepL K B ds xs
  | .obj C fs, v => ∃ p dx xs, v = .ref p ∧ B p = some (.ins C dx xs) ∧ RepF K B fs xs
def RepL (K : PySem.W.Frag) (B : Hp) : List D → List V → Prop
  | [], xs => xs = []
  | d :: ds, xs => ∃ x r, xs = x :: r ∧ Rep K B d x ∧ RepL K B ds r
def RepF (K : PySem.W.Frag) (B : Hp) : List (Str × D) → List (Str × V) → Prop
  | [], xs => xs = []
  | (f, d) :: fs, xs => ∃ x r, xs = (f, x) :: r ∧ Rep K B d x ∧ RepF K B fs r
end
mutual
theorem Rep.mono {K : PySem.W.Frag} {B B' : Hp} (e : Same B B') : ∀ {d : D} {v : V}, Rep K B d v → Rep K B' d v
  | .non, _, h => h
  | .bl _, _, h => h
  | .int _, _, h => h
  | .str _, _, h => h
  | .tup ds, _, ⟨p, xs, e1, h, r⟩ => ⟨p, xs, e1, same_t e h, RepL.mono e r⟩
  | .ktup ds, _, ⟨p, xs, o, e1, h, r⟩ => ⟨p, xs, o, e1, ⟨e _ _ h.1, h.2⟩, RepL.mono e r⟩
  | .lst ds, _, ⟨p, xs, e1, h, r⟩ => ⟨p, xs, e1, e _ _ h, RepL.mono e r⟩
  | .obj C fs, _, ⟨p, dx, xs, e1, h, r⟩ => ⟨p, dx, xs, e1, e _ _ h, RepF.mono e r⟩
theorem RepL.mono {K : PySem.W.Frag} {B B' : Hp} (e : Same B B') : ∀ {ds : List D} {xs : List V}, RepL K B ds xs → RepL K B' ds xs
  | [], _, h => h
  | d :: ds, _, ⟨x, r, e1, h1, h2⟩ => ⟨x, r, e1, Rep.mono e h1, RepL.mono e h2⟩
theorem RepF.mono {K : PySem.W.Frag} {B B' : Hp} (e : Same B B') : ∀ {fs : List (Str × D)} {xs : List (Str × V)}, RepF K B fs xs → RepF K B' fs xs
  | [], _, h => h
  | (f, d) :: fs, _, ⟨x, r, e1, h1, h2⟩ => ⟨x, r, e1, Rep.mono e h1, RepF.mono e h2⟩
end
section
variable {K : PySem.W.Frag} {B B' H H' : Hp}
theorem Rep.k2t {ds : List D} {v : V} (h : Rep K B (.ktup ds) v) : Rep K B (.tup ds) v := by
  obtain ⟨p, xs, o, e1, h, r⟩ := h
  exact ⟨p, xs, e1, .inl (.inr ⟨o, h.1⟩), r⟩
theorem RepL.length : ∀ {ds : List D} {xs : List V}, RepL K B ds xs → xs.length = ds.length
  | [], xs, h => by have h : xs = [] := h; rw [h]; rfl
  | d :: ds, _, ⟨x, r, e1, h1, h2⟩ => by rw [e1, List.length_cons, List.length_cons, h2.length]
theorem RepL.get : ∀ {ds : List D} {xs : List V} {i : Nat} {d : D}, RepL K B ds xs → ds[i]? = some d → ∃ x, xs[i]? = some x ∧ Rep K B d x
  | [], _, i, d, h, e => by simp at e
  | d0 :: ds, _, 0, d, ⟨x, r, e1, h1, h2⟩, e => by
    simp at e; subst e
    exact ⟨x, by rw [e1]; rfl, h1⟩
  | d0 :: ds, _, i + 1, d, ⟨x, r, e1, h1, h2⟩, e => by
    obtain ⟨y, a, b⟩ := h2.get (i := i) (d := d) (by simpa using e)
    exact ⟨y, by rw [e1]; simpa using a, b⟩
theorem RepL.getV : ∀ {ds : List D} {xs : List V} {i : Nat} {x : V}, RepL K B ds xs → xs[i]? = some x → ∃ d, ds[i]? = some d ∧ Rep K B d x
  | [], _, i, x, h, e => by have h : _ = [] := h; rw [h] at e; simp at e
  | d0 :: ds, _, 0, x, ⟨y, r, e1, h1, h2⟩, e => by
    rw [e1] at e; simp at e; subst e
    exact ⟨d0, rfl, h1⟩
  | d0 :: ds, _, i + 1, x, ⟨y, r, e1, h1, h2⟩, e => by
    rw [e1] at e
    obtain ⟨d, a, b⟩ := h2.getV (i := i) (x := x) (by simpa using e)
    exact ⟨d, by simpa using a, b⟩
theorem RepL.append : ∀ {ds es : List D} {xs ys : List V}, RepL K B ds xs → RepL K B es ys → RepL K B (ds ++ es) (xs ++ ys)
  | [], es, xs, ys, h, g => by have h : xs = [] := h; rw [h]; exact g
  | d :: ds, es, _, ys, ⟨x, r, e1, h1, h2⟩, g => ⟨x, r ++ ys, by rw [e1]; rfl, h1, h2.append g⟩
theorem RepL.one {d : D} {x : V} (h : Rep K B d x) : RepL K B [d] [x] := ⟨x, [], rfl, h, rfl⟩
theorem RepL.nil : RepL K B [] [] := rfl
theorem RepL.cons {d : D} {x : V} {ds : List D} {xs : List V} (h : Rep K B d x) (t : RepL K B ds xs) : RepL K B (d :: ds) (x :: xs) := ⟨x, xs, rfl, h, t⟩
theorem RepL.snoc {ds : List D} {xs : List V} {d : D} {x : V} (h : RepL K B ds xs) (g : Rep K B d x) : RepL K B (ds ++ [d]) (xs ++ [x]) := h.append (.one g)
/-- typed items -/
theorem RepL.getm {α : Type} {em : α → D} {l : List α} {xs : List V} {i : Nat} {x : V} (h : RepL K B (l.map em) xs) (e : xs[i]? = some x) : ∃ a, l[i]? = some a ∧ Rep K B (em a) x := by
  obtain ⟨d, a, b⟩ := h.getV e
  rw [List.getElem?_map] at a
  cases q : l[i]? with
  | none => rw [q] at a; cases a
  | some z => rw [q] at a; exact ⟨z, rfl, by rw [← Option.some.inj a] at b; exact b⟩
theorem RepL.atm {α : Type} {em : α → D} {l : List α} {xs : List V} {i : Nat} {a : α} (h : RepL K B (l.map em) xs) (e : l[i]? = some a) : ∃ x, xs[i]? = some x ∧ Rep K B (em a) x :=
  h.get (by rw [List.getElem?_map, e]; rfl)
theorem RepL.lenm {α : Type} {em : α → D} {l : List α} {xs : List V} (h : RepL K B (l.map em) xs) : xs.length = l.length := by rw [h.length, List.length_map]
theorem RepL.snocm {α : Type} {em : α → D} {l : List α} {xs : List V} {a : α} {x : V} (h : RepL K B (l.map em) xs) (g : Rep K B (em a) x) : RepL K B ((l ++ [a]).map em) (xs ++ [x]) := by
  rw [List.map_append]; exact h.snoc g
theorem RepL.asBools : ∀ {l : List Bool} {xs : List V}, RepL K B (l.map D.bl) xs → xs = l.map V.bl
  | [], _, h => h
  | b :: l, _, ⟨x, r, e1, h1, h2⟩ => by
    have h1 : x = .bl b := h1
    rw [e1, h1, asBools h2]; rfl
theorem RepL.asInts : ∀ {l : List Int} {xs : List V}, RepL K B (l.map D.int) xs → xs = l.map V.int
  | [], _, h => h
  | b :: l, _, ⟨x, r, e1, h1, h2⟩ => by
    have h1 : x = .int b := h1
    rw [e1, h1, asInts h2]; rfl
theorem RepL.asStrs : ∀ {l : List Str} {xs : List V}, RepL K B (l.map D.str) xs → xs = l.map V.str
  | [], _, h => h
  | b :: l, _, ⟨x, r, e1, h1, h2⟩ => by
    have h1 : x = .str b := h1
    rw [e1, h1, asStrs h2]; rfl
theorem RepL.ofInts : ∀ (l : List Int), RepL K B (l.map D.int) (l.map V.int)
  | [] => rfl
  | b :: l => ⟨_, _, rfl, rfl, ofInts l⟩
theorem RepL.ofStrs : ∀ (l : List Str), RepL K B (l.map D.str) (l.map V.str)
  | [] => rfl
  | b :: l => ⟨_, _, rfl, rfl, ofStrs l⟩
theorem RepL.ofBools : ∀ (l : List Bool), RepL K B (l.map D.bl) (l.map V.bl)
  | [] => rfl
  | b :: l => ⟨_, _, rfl, rfl, ofBools l⟩

/-- what is no table of code objects; what is neither that nor told by a predicate -/
def nt : HO → Bool
  | .tbl _ => false
  | _ => true
def pl : HO → Bool
  | .tbl _ => false
  | .ext _ => false
  | _ => true
theorem pl_nt {o : HO} (h : pl o = true) : nt o = true := by cases o <;> first | rfl | cases h
/-- a code object's table: what it tells bears the name that its place has -/
abbrev TabG (H : Hp) (P : Addr) : Prop := NdefX.TabN H P nmG
theorem tab_upd {H : Hp} {p P : Addr} {o o' : HO} (t : TabG H P) (hh : H p = some o') (hp : pl o' = true) : TabG (upd H p o) P := by
  obtain ⟨ps, h1, ht, ha⟩ := t
  refine ⟨ps, ?_, ht, fun pos cv hc => ?_⟩
  · rw [upd_ne (fun z => by rw [z, hh] at h1; cases h1; cases hp)]; exact h1
  · obtain ⟨c, e1, e2⟩ := ha pos cv hc
    refine ⟨c, e1, ?_⟩
    rw [upd_ne (fun z => by rw [z, hh] at e2; cases e2; cases hp)]; exact e2
theorem tab_new {H : Hp} {p P : Addr} {o : HO} (t : TabG H P) (hh : H p = none) : TabG (upd H p o) P :=
  t.ext fun b u e => by rw [upd_ne (ne_of_none e hh)]; exact e
/-- the frozen part B and the heap H go on to B', H': what is neither in S nor new nor a table is as it was -/
structure Grow (S : Addr → Prop) (B H B' H' : Hp) : Prop where
  bb : Same B B'
  bh : Same B' H'
  keep : ∀ p o, ¬ S p → nt o = true → H p = some o → H' p = some o
  own : ∀ p, H p ≠ none → B p = none → B' p = none
  dom : ∀ p, H p ≠ none → H' p ≠ none
  tab : ∀ P, TabG H P → TabG H' P
theorem Grow.refl {S : Addr → Prop} (h : Same B H) : Grow S B H B H := ⟨Same.refl _, h, fun _ _ _ _ e => e, fun _ _ e => e, fun _ e => e, fun _ e => e⟩
theorem Grow.trans {S : Addr → Prop} {B1 H1 B2 H2 : Hp} (a : Grow S B H B1 H1) (b : Grow S B1 H1 B2 H2) : Grow S B H B2 H2 :=
  ⟨a.bb.trans b.bb, b.bh, fun p o n t e => b.keep p o n t (a.keep p o n t e), fun p n e => b.own p (a.dom p n) (a.own p n e), fun p n => b.dom p (a.dom p n), fun P t => b.tab P (a.tab P t)⟩
theorem Grow.sub {S S' : Addr → Prop} (a : Grow S B H B' H') (h : ∀ p, S p → S' p) : Grow S' B H B' H' := ⟨a.bb, a.bh, fun p o n t e => a.keep p o (fun z => n (h p z)) t e, a.own, a.dom, a.tab⟩
abbrev S0 : Addr → Prop := fun _ => False
theorem Grow.of0 {S : Addr → Prop} (a : Grow S0 B H B' H') : Grow S B H B' H' := a.sub fun _ z => z.elim
theorem same_free {p : Addr} (e : Same B H) (h : H p = none) : B p = none := e.free h
/-- a new frozen object -/
theorem Grow.new {S : Addr → Prop} {p : Addr} {o : HO} (h : Same B H) (hp : H p = none) : Grow S B H (upd B p o) (upd H p o) := by
  have bp := same_free h hp
  refine ⟨fun a u e => by rw [upd_ne (ne_of_none e bp)]; exact e, fun a u e => ?_, fun a u _ _ e => by rw [upd_ne (ne_of_none e hp)]; exact e, fun a n e => ?_, fun a n => ?_, fun _ t => tab_new t hp⟩
  · by_cases q : a = p
    · subst q; rw [upd_same] at e ⊢; exact e
    · rw [upd_ne q] at e ⊢; exact h a u e
  · have q : a ≠ p := fun z => n (by rw [z]; exact hp)
    rw [upd_ne q]; exact e
  · have q : a ≠ p := fun z => n (by rw [z]; exact hp)
    rw [upd_ne q]; exact n
/-- a new object of our own (not frozen) -/
theorem Grow.newOwn {S : Addr → Prop} {p : Addr} {o : HO} (h : Same B H) (hp : H p = none) : Grow S B H B (upd H p o) := by
  have bp := same_free h hp
  refine ⟨Same.refl _, fun a u e => by rw [upd_ne (ne_of_none e bp)]; exact h a u e, fun a u _ _ e => by rw [upd_ne (ne_of_none e hp)]; exact e, fun _ _ e => e, fun a n => ?_, fun _ t => tab_new t hp⟩
  have q : a ≠ p := fun z => n (by rw [z]; exact hp)
  rw [upd_ne q]; exact n
/-- from the entry (B0, H0): an object of our own is changed -/
theorem Grow.mut {S : Addr → Prop} {B0 H0 : Hp} {p : Addr} {o o' : HO} (g : Grow S B0 H0 B H) (h0 : H0 p = none) (hb : B p = none) (hh : H p = some o') (hp : pl o' = true) : Grow S B0 H0 B (upd H p o) :=
  ⟨g.bb, fun a u e => by rw [upd_ne (ne_of_none e hb)]; exact g.bh a u e, fun a u n t e => by rw [upd_ne (ne_of_none e h0)]; exact g.keep a u n t e, g.own, fun a n => by
    unfold upd; split
    · exact fun z => by cases z
    · exact g.dom a n, fun P t => tab_upd (g.tab P t) hh hp⟩
/-- an object of our own is frozen -/
theorem Grow.freeze {S : Addr → Prop} {B0 H0 : Hp} {p : Addr} {o : HO} (g : Grow S B0 H0 B H) (h0 : H0 p = none) (hh : H p = some o) (hb : B p = none) : Grow S B0 H0 (upd B p o) H := by
  refine ⟨fun a u e => ?_, fun a u e => ?_, g.keep, fun a n e => ?_, g.dom, g.tab⟩
  · have := g.bb a u e
    rw [upd_ne (ne_of_none this hb)]; exact this
  · by_cases q : a = p
    · subst q; rw [upd_same] at e; rw [hh]; exact e
    · rw [upd_ne q] at e; exact g.bh a u e
  · have q : a ≠ p := fun z => n (by rw [z]; exact h0)
    rw [upd_ne q]; exact g.own a n e
theorem same_upd {p : Addr} {o : HO} (hb : B p = none) : Same B (upd B p o) := fun a u e => by rw [upd_ne (ne_of_none e hb)]; exact e

/-- a list of our own at l: not frozen, made since the entry H0 -/
structure Own (K : PySem.W.Frag) (H0 B H : Hp) (l : Addr) (xs : List V) (ds : List D) : Prop where
  n0 : H0 l = none
  b : B l = none
  h : H l = some (.lst xs)
  r : RepL K B ds xs
theorem Own.grow {S : Addr → Prop} {H0 : Hp} {l : Addr} {xs : List V} {ds : List D} (o : Own K H0 B H l xs ds) (g : Grow S B H B' H') (hs : ∀ p, S p → H0 p ≠ none) : Own K H0 B' H' l xs ds :=
  ⟨o.n0, g.own l (by rw [o.h]; exact fun z => by cases z) o.b, g.keep l _ (fun z => hs l z o.n0) rfl o.h, o.r.mono g.bb⟩
theorem Own.other {H0 : Hp} {l p : Addr} {u : HO} {xs : List V} {ds : List D} (o : Own K H0 B H l xs ds) (n : l ≠ p) : Own K H0 B (upd H p u) l xs ds :=
  ⟨o.n0, o.b, by rw [upd_ne n]; exact o.h, o.r⟩
theorem Own.put {H0 : Hp} {l : Addr} {xs ys : List V} {ds es : List D} (o : Own K H0 B H l xs ds) (r : RepL K B es ys) : Own K H0 B (upd H l (.lst ys)) l ys es := ⟨o.n0, o.b, upd_same, r⟩
/-- a list of our own is frozen -/
theorem freezeL {S : Addr → Prop} {B0 H0 : Hp} {l : Addr} {xs : List V} {ds : List D} (w : Grow S B0 H0 B H) (o : Own K H0 B H l xs ds) :
    ∃ B', Grow S B0 H0 B' H ∧ Same B B' ∧ Rep K B' (.lst ds) (.ref l) ∧ ∀ q, q ≠ l → B' q = B q :=
  ⟨_, w.freeze o.n0 o.h o.b, same_upd o.b, ⟨l, xs, rfl, upd_same, o.r.mono (same_upd o.b)⟩, fun q n => upd_ne n⟩
theorem Own.fz {H0 : Hp} {l p : Addr} {xs : List V} {ds : List D} (o : Own K H0 B H l xs ds) (e : Same B B') (hq : ∀ q, q ≠ p → B' q = B q) (n : l ≠ p) : Own K H0 B' H l xs ds :=
  ⟨o.n0, (hq l n).trans o.b, o.h, o.r.mono e⟩
theorem Own.frz {H0 : Hp} {l p : Addr} {u : HO} {xs : List V} {ds : List D} (o : Own K H0 B H l xs ds) (n : l ≠ p) (hb : B p = none) : Own K H0 (upd B p u) H l xs ds :=
  ⟨o.n0, by rw [upd_ne n]; exact o.b, o.h, o.r.mono (same_upd hb)⟩
end
end G
set_option maxRecDepth 100000
set_option maxHeartbeats 4000000
namespace G
open PySem PySem.Spec PyProof.Rows L2
/-! what a def comes to: a value; an error of a class with what it carries; neither (bad) -/
inductive Res (α : Type) where
  | ok (a : α) | err (c : Str) (d : D) | bad
namespace Res
variable {α β γ : Type}
def bind : Res α → (α → Res β) → Res β
  | .ok a, f => f a
  | .err c d, _ => .err c d
  | .bad, _ => .bad
theorem bind_assoc (m : Res α) (f : α → Res β) (g : β → Res γ) : (m.bind f).bind g = m.bind fun a => (f a).bind g := by cases m <;> rfl
theorem bind_ok (a : α) (f : α → Res β) : (Res.ok a).bind f = f a := rfl
theorem bind_ok' (m : Res α) : (m.bind fun a => .ok a) = m := by cases m <;> rfl
def ofO : Option α → Res α
  | some a => .ok a
  | none => .bad
end Res
structure NB {α : Type} (K : Res α → Prop) : Prop where
  bad : ¬ K .bad
  err : ∀ c d, ¬ K (.err c d)
section
variable {α β ρ σ : Type}
theorem bindK {m : Res α} {f : α → Res β} {K : Res β → Prop} (nb : NB K) (h : K (m.bind f)) : ∃ a, m = .ok a ∧ K (f a) := by
  cases m with
  | ok a => exact ⟨a, rfl, h⟩
  | err c d => exact (nb.err c d h).elim
  | bad => exact (nb.bad h).elim
/-- a part with a wish of its own -/
theorem partK {m : Res α} {f : α → Res β} {K : Res β → Prop} (nb : NB K) (h : K (m.bind f)) : ∃ K1 : Res α → Prop, NB K1 ∧ K1 m ∧ ∀ a, K1 (.ok a) → K (f a) :=
  ⟨fun r => K (r.bind f), ⟨nb.bad, nb.err⟩, h, fun _ q => q⟩
/-- for loops without an early way out -/
def forR : List α → σ → (σ → α → Res σ) → Res σ
  | [], st, _ => .ok st
  | a :: as, st, f => (f st a).bind fun s => forR as s f
theorem dropC {i : Nat} {items : List α} {a : α} (h : items[i]? = some a) : items.drop i = a :: items.drop (i + 1) := by
  obtain ⟨hi, e⟩ := List.getElem?_eq_some_iff.mp h
  rw [List.drop_eq_getElem_cons hi, e]
theorem dropN {i : Nat} {items : List α} (h : items.length ≤ i) : items.drop i = [] := List.drop_eq_nil_of_le h
theorem forK {items : List α} {st : σ} {f : σ → α → Res σ} {R : σ → Res ρ} {K : Res ρ → Prop} (nb : NB K) (h : K ((forR items st f).bind R)) :
    ∃ KL : Nat → σ → Prop, KL 0 st ∧ (∀ i a s, items[i]? = some a → KL i s → ∃ KB : Res σ → Prop, NB KB ∧ KB (f s a) ∧ ∀ s', KB (.ok s') → KL (i + 1) s') ∧ ∀ i s, items.length ≤ i → KL i s → K (R s) :=
  ⟨fun i s => K ((forR (items.drop i) s f).bind R), h, fun i a s hi q => ⟨fun r => K ((r.bind fun s => forR (items.drop (i + 1)) s f).bind R), ⟨nb.bad, nb.err⟩, by
    have q : K ((forR (items.drop i) s f).bind R) := q
    rw [dropC hi] at q; exact q, fun _ q => q⟩, fun i s hi q => by
    have q : K ((forR (items.drop i) s f).bind R) := q
    rw [dropN hi] at q; exact q⟩
/-- loops with early ways out -/
inductive Flow (σ ρ : Type) where
  | nx (s : σ) | bk (s : σ) | rt (r : ρ)
def Flow.go {τ : Type} : Flow σ ρ → (ρ → Res τ) → (σ → Res τ) → Res τ
  | .nx s, _, k => k s
  | .bk s, _, k => k s
  | .rt r, f, _ => f r
def forX : List α → σ → (σ → α → Res (Flow σ ρ)) → Res (Flow σ ρ)
  | [], st, _ => .ok (.nx st)
  | a :: as, st, f => (f st a).bind fun fl => match fl with
    | .nx s => forX as s f
    | .bk s => .ok (.bk s)
    | .rt r => .ok (.rt r)
theorem forXK {τ : Type} {items : List α} {st : σ} {f : σ → α → Res (Flow σ ρ)} {g : ρ → Res τ} {R : σ → Res τ} {K : Res τ → Prop} (nb : NB K) (h : K ((forX items st f).bind fun fl => fl.go g R)) :
    ∃ KL : Nat → σ → Prop, KL 0 st ∧ (∀ i a s, items[i]? = some a → KL i s → ∃ KB : Res (Flow σ ρ) → Prop, NB KB ∧ KB (f s a) ∧ (∀ s', KB (.ok (.nx s')) → KL (i + 1) s') ∧ (∀ s', KB (.ok (.bk s')) → K (R s')) ∧ ∀ r, KB (.ok (.rt r)) → K (g r)) ∧ ∀ i s, items.length ≤ i → KL i s → K (R s) :=
  ⟨fun i s => K ((forX (items.drop i) s f).bind fun fl => fl.go g R), h, fun i a s hi q => ⟨fun r => K ((r.bind fun fl => match fl with
    | .nx s => forX (items.drop (i + 1)) s f
    | .bk s => .ok (.bk s)
    | .rt r => .ok (.rt r)).bind fun fl => fl.go g R), ⟨nb.bad, nb.err⟩, by
      have q : K ((forX (items.drop i) s f).bind fun fl => fl.go g R) := q
      rw [dropC hi] at q; exact q, fun _ q => q, fun _ q => q, fun _ q => q⟩, fun i s hi q => by
      have q : K ((forX (items.drop i) s f).bind fun fl => fl.go g R) := q
      rw [dropN hi] at q; exact q⟩
/-- while loops: n turns at most -/
def whileX : Nat → σ → (σ → Res Bool) → (σ → Res (Flow σ ρ)) → Res (Flow σ ρ)
  | 0, _, _, _ => .bad
  | n + 1, st, c, f => (c st).bind fun b => if b = true then (f st).bind fun fl => match fl with
    | .nx s => whileX n s c f
    | .bk s => .ok (.bk s)
    | .rt r => .ok (.rt r)
    else .ok (.nx st)
theorem whileXK {τ : Type} {n : Nat} {st : σ} {c : σ → Res Bool} {f : σ → Res (Flow σ ρ)} {g : ρ → Res τ} {R : σ → Res τ} {K : Res τ → Prop} (nb : NB K) (h : K ((whileX n st c f).bind fun fl => fl.go g R)) :
    ∃ KL : Nat → σ → Prop, KL n st ∧ (∀ m s, KL m s → ∃ KC : Res Bool → Prop, NB KC ∧ KC (c s) ∧ (KC (.ok false) → K (R s)) ∧
      (KC (.ok true) → ∃ KB : Res (Flow σ ρ) → Prop, NB KB ∧ KB (f s) ∧ (∀ s', KB (.ok (.nx s')) → ∃ m', m' < m ∧ KL m' s') ∧ (∀ s', KB (.ok (.bk s')) → K (R s')) ∧ ∀ r, KB (.ok (.rt r)) → K (g r))) := by
  refine ⟨fun m s => K ((whileX m s c f).bind fun fl => fl.go g R), h, fun m s q => ?_⟩
  cases m with
  | zero => exact (nb.bad q).elim
  | succ m =>
    refine ⟨fun r => K ((r.bind fun b => if b = true then (f s).bind fun fl => match fl with
      | .nx s => whileX m s c f
      | .bk s => .ok (.bk s)
      | .rt r => .ok (.rt r)
      else .ok (.nx s)).bind fun fl => fl.go g R), ⟨nb.bad, nb.err⟩, q, fun q => q, fun q => ?_⟩
    exact ⟨fun r => K ((r.bind fun fl => match fl with
      | .nx s => whileX m s c f
      | .bk s => .ok (.bk s)
      | .rt r => .ok (.rt r)).bind fun fl => fl.go g R), ⟨nb.bad, nb.err⟩, q, fun _ q => ⟨m, Nat.lt_succ_self m, q⟩, fun _ q => q, fun _ q => q⟩
theorem wh_both {c : Bool} {KC : Res Bool → Prop} {G1 G2 : Prop} (h : KC (.ok c)) (ht : KC (.ok true) → G1) (hf : KC (.ok false) → G2) : if c = true then G1 else G2 := by
  cases c with
  | true => exact ht h
  | false => exact hf h
/-- both ways go on alike -/
theorem if_cut {c : Prop} [Decidable c] {A B : (V → Hp → Prop) → Prop} {Q : V → Hp → Prop} (J : V → Hp → Prop) (h : ∀ Q' : V → Hp → Prop, (∀ v H, J v H → Q' v H) → if c then A Q' else B Q') (k : ∀ v H, J v H → Q v H) : if c then A Q else B Q := h Q k
/-- both ways of a test -/
theorem ite_both {c : Bool} {A B : Res α} {K : Res α → Prop} {G1 G2 : Prop} (h : K (if c = true then A else B)) (ht : c = true → K A → G1) (hf : c = false → K B → G2) : if c = true then G1 else G2 := by
  cases c with
  | true => exact ht rfl h
  | false => exact hf rfl h
theorem ite_K {c : Bool} {A B : Res α} {K : Res α → Prop} {G : Prop} (h : K (if c = true then A else B)) (ht : c = true → K A → G) (hf : c = false → K B → G) : G := by
  cases c with
  | true => exact ht rfl h
  | false => exact hf rfl h
end
/-! partial operations -/
def ixR {α : Type} (l : List α) (i : Int) : Res α := Res.ofO (atI l i)
theorem ixR_ok {α : Type} {l : List α} {i : Int} {a : α} (h : ixR l i = .ok a) : ∃ j : Nat, ixN l.length i = some j ∧ l[j]? = some a := by
  unfold ixR atI at h
  cases q : ixN l.length i with
  | none => rw [q] at h; cases h
  | some j =>
    rw [q] at h
    cases z : l[j]? with
    | none => simp [z, Res.ofO] at h
    | some b =>
      refine ⟨j, rfl, ?_⟩
      simp [z, Res.ofO] at h
      rw [z, h]
theorem ixR_atI {α : Type} {l : List α} {i : Int} {a : α} (h : ixR l i = .ok a) : atI l i = some a := by
  unfold ixR at h
  cases q : atI l i with
  | none => rw [q] at h; cases h
  | some b => rw [q] at h; cases h; rfl
section
variable {K : PySem.W.Frag} {B H : Hp}
theorem rep_ix {α : Type} {em : α → D} {l : List α} {xs : List V} {i : Int} {a : α} (r : RepL K B (l.map em) xs) (h : ixR l i = .ok a) : ∃ x, atI xs i = some x ∧ Rep K B (em a) x := by
  obtain ⟨j, h1, h2⟩ := ixR_ok h
  obtain ⟨x, h3, h4⟩ := r.atm h2
  refine ⟨x, ?_, h4⟩
  unfold atI
  rw [r.lenm, h1]
  exact h3
/-- xs[i]: of a frozen list, a frozen tuple, a list of our own -/
theorem rixL {α : Type} {em : α → D} {l : List α} {v : V} {i : Int} {a : α} {Q : VK} (r : Rep K B (.lst (l.map em)) v) (bh : Same B H) (h : ixR l i = .ok a) (k : ∀ x, Rep K B (em a) x → Q x H) : rIxL K v (.int i) H Q := by
  obtain ⟨p, xs, rfl, hp, rl⟩ := r
  obtain ⟨x, h1, h2⟩ := rep_ix rl h
  exact ⟨p, xs, i, x, rfl, rfl, SqL.of (bh _ _ hp), h1, k x h2⟩
theorem rixT {α : Type} {em : α → D} {l : List α} {v : V} {i : Int} {a : α} {Q : VK} (r : Rep K B (.tup (l.map em)) v) (bh : Same B H) (h : ixR l i = .ok a) (k : ∀ x, Rep K B (em a) x → Q x H) : rIxT K v (.int i) H Q := by
  obtain ⟨p, xs, rfl, hp, rl⟩ := r
  obtain ⟨x, h1, h2⟩ := rep_ix rl h
  exact ⟨p, xs, i, x, rfl, rfl, same_t bh hp, h1, k x h2⟩
theorem rixO {α : Type} {em : α → D} {l : List α} {H0 : Hp} {p : Addr} {xs : List V} {i : Int} {a : α} {Q : VK} (o : Own K H0 B H p xs (l.map em)) (h : ixR l i = .ok a) (k : ∀ x, Rep K B (em a) x → Q x H) : rIxL K (.ref p) (.int i) H Q := by
  obtain ⟨x, h1, h2⟩ := rep_ix o.r h
  exact ⟨p, xs, i, x, rfl, rfl, SqL.of o.h, h1, k x h2⟩
/-- a written place of a tuple of fixed form -/
theorem rixF {ds : List D} {v : V} {i : Int} {d : D} {Q : VK} (r : Rep K B (.tup ds) v) (bh : Same B H) (h : atI ds i = some d) (k : ∀ x, Rep K B d x → Q x H) : rIxT K v (.int i) H Q := by
  obtain ⟨p, xs, rfl, hp, rl⟩ := r
  unfold atI at h
  cases q : ixN ds.length i with
  | none => rw [q] at h; cases h
  | some j =>
    rw [q] at h
    obtain ⟨x, h1, h2⟩ := rl.get h
    refine ⟨p, xs, i, x, rfl, rfl, same_t bh hp, ?_, k x h2⟩
    unfold atI
    rw [rl.length, q]
    exact h1
/-- a new tuple, frozen at once; a new list, ours -/
theorem tupN {S : Addr → Prop} {xs : List V} {ds : List D} {Q : VK} (bh : Same B H) (r : RepL K B ds xs) (z : xs.length ≤ 1000) (k : ∀ v B' H', Grow S B H B' H' → Rep K B' (.tup ds) v → Q v H') :
    xs.length ≤ sizeLine ∧ ∀ p, H p = none → Q (.ref p) (upd H p (.tup xs)) :=
  ⟨Nat.le_trans z (by decide), fun p hp => k _ _ _ (Grow.new bh hp) ⟨p, xs, rfl, SqT.of upd_same, r.mono (same_upd (same_free bh hp))⟩⟩
theorem lstF {S : Addr → Prop} {xs : List V} {ds : List D} {Q : VK} (bh : Same B H) (r : RepL K B ds xs) (z : xs.length ≤ 1000) (k : ∀ v B' H', Grow S B H B' H' → Rep K B' (.lst ds) v → Q v H') :
    xs.length ≤ sizeLine ∧ ∀ p, H p = none → Q (.ref p) (upd H p (.lst xs)) :=
  ⟨Nat.le_trans z (by decide), fun p hp => k _ _ _ (Grow.new bh hp) ⟨p, xs, rfl, upd_same, r.mono (same_upd (same_free bh hp))⟩⟩
theorem lstO {S : Addr → Prop} {B0 H0 : Hp} {xs : List V} {ds : List D} {Q : VK} (w : Grow S B0 H0 B H) (r : RepL K B ds xs) (z : xs.length ≤ 1000) (k : ∀ l H', H l = none → Grow S B H B H' → Own K H0 B H' l xs ds → Q (.ref l) H') :
    xs.length ≤ sizeLine ∧ ∀ p, H p = none → Q (.ref p) (upd H p (.lst xs)) :=
  ⟨Nat.le_trans z (by decide), fun p hp => k p _ hp (Grow.newOwn w.bh hp) ⟨by
    cases q : H0 p with
    | none => rfl
    | some o => exact absurd hp (w.dom p (by rw [q]; exact fun z => by cases z)), same_free w.bh hp, upd_same, r⟩⟩
end
end G
set_option maxRecDepth 100000
set_option maxHeartbeats 4000000
namespace G
open PySem PySem.Spec PyProof.Rows L2
/-! what is never read -/
section
variable {X : Cx}
theorem pe_never {e : Expr} : PE X e (fun _ _ _ => False) := ⟨fun _ _ _ _ _ _ h => h.elim⟩
theorem pt_never {e : Expr} : PT X e (fun _ _ _ => False) := ⟨fun _ _ _ _ _ _ h => h.elim⟩
theorem pw_never {e : Expr} : PW X e (fun _ _ _ => False) := ⟨fun _ _ _ _ _ _ _ h => h.elim⟩
theorem pa_never {e : List Expr} : PA X e (fun _ _ _ => False) := ⟨fun _ _ _ _ _ _ _ h => h.elim⟩
/-- == and != of texts -/
def rEqS : R2 := fun x y H Q => ∃ a b, x = .str a ∧ y = .str b ∧ Q (.bl (decide (a = b))) H
def rNeS : R2 := fun x y H Q => ∃ a b, x = .str a ∧ y = .str b ∧ Q (.bl (!decide (a = b))) H
theorem decS {a b : Str} : decide (V.str a = V.str b) = decide (a = b) := by
  by_cases h : a = b
  · rw [h]; simp
  · rw [decide_eq_false h, decide_eq_false (fun q => h (V.str.inj q))]
theorem op_eqS : OpR X (compareOp .Eq) rEqS := by
  intro pins s σ H x y v u Q I rx ry h
  obtain ⟨a, b, rfl, rfl, q⟩ := h
  exact op_eq pins s σ H _ _ v u Q I rx ry ⟨rfl, by rw [decS]; exact q⟩
theorem op_neS : OpR X (compareOp .NotEq) rNeS := by
  intro pins s σ H x y v u Q I rx ry h
  obtain ⟨a, b, rfl, rfl, q⟩ := h
  exact op_ne pins s σ H _ _ v u Q I rx ry ⟨rfl, by rw [decS]; exact q⟩
end
/-! == of data -/
mutual
def D.py : D → PyData
  | .non => .none
  | .bl b => .bool b
  | .int i => .int i
  | .str x => .str x
  | .tup ds => .tuple (D.pyL ds)
  | .ktup ds => .tuple (D.pyL ds)
  | .lst ds => .list (D.pyL ds)
  | .obj _ _ => .none
def D.pyL : List D → List PyData
  | [] => []
  | d :: ds => d.py :: D.pyL ds
end
mutual
def D.plain : D → Bool
  | .obj _ _ => false
  | .tup ds => D.plainL ds
  | .ktup ds => D.plainL ds
  | .lst ds => D.plainL ds
  | _ => true
def D.plainL : List D → Bool
  | [] => true
  | d :: ds => d.plain && D.plainL ds
end
mutual
theorem Rep.dp {K : PySem.W.Frag} {B H : Hp} (e : Same B H) : ∀ {d : D} {v : V}, d.plain = true → Rep K B d v → Dp K H v d.py
  | .non, v, _, h => by have h : v = .non := h; subst h; exact .non
  | .bl b, v, _, h => by have h : v = .bl b := h; subst h; exact .bl b
  | .int i, v, _, h => by have h : v = .int i := h; subst h; exact .int i
  | .str x, v, _, h => by have h : v = .str x := h; subst h; exact .str x
  | .tup ds, v, hp, ⟨p, xs, e1, h, r⟩ => by subst e1; exact .tup (same_t e h) (RepL.dp e hp r)
  | .ktup ds, v, hp, ⟨p, xs, o, e1, h, r⟩ => by subst e1; exact .tup (.inl (.inr ⟨o, e _ _ h.1⟩)) (RepL.dp e hp r)
  | .lst ds, v, hp, ⟨p, xs, e1, h, r⟩ => by subst e1; exact .lst (SqL.of (e _ _ h)) (RepL.dp e hp r)
  | .obj _ _, _, hp, _ => by cases hp
theorem RepL.dp {K : PySem.W.Frag} {B H : Hp} (e : Same B H) : ∀ {ds : List D} {xs : List V}, D.plainL ds = true → RepL K B ds xs → DpAll K H xs (D.pyL ds)
  | [], xs, _, h => by have h : xs = [] := h; subst h; exact .nil
  | d :: ds, xs, hp, ⟨x, r, e1, h1, h2⟩ => by
    subst e1
    obtain ⟨a, b⟩ := Bool.and_eq_true_iff.mp (show (d.plain && D.plainL ds) = true from hp)
    exact .cons (Rep.dp e a h1) (RepL.dp e b h2)
end
/-- == of two pieces of data, where the model's rule takes them -/
def eqD (d e : D) : Res Bool := if (d.plain && e.plain && SeqAt.shaped d.py && SeqAt.shaped e.py) = true then .ok (PyData.eqv d.py e.py) else .bad
theorem eqD_ok {d e : D} {b : Bool} (h : eqD d e = .ok b) : d.plain = true ∧ e.plain = true ∧ SeqAt.shaped d.py = true ∧ SeqAt.shaped e.py = true ∧ PyData.eqv d.py e.py = b := by
  unfold eqD at h
  split at h
  · rename_i c
    simp only [Bool.and_eq_true] at c
    cases h
    exact ⟨c.1.1.1, c.1.1.2, c.1.2, c.2, rfl⟩
  · cases h
section
variable {K : PySem.W.Frag} {B B' H : Hp}
theorem reqD {d e : D} {u v : V} {b : Bool} {Q : VK} (r1 : Rep K B d u) (r2 : Rep K B e v) (bh : Same B H) (h : eqD d e = .ok b) (k : Q (.bl b) H) : rEqD K u v H Q := by
  obtain ⟨p1, p2, s1, s2, e1⟩ := eqD_ok h
  exact ⟨_, _, r1.dp bh p1, r2.dp bh p2, s1, s2, by rw [e1]; exact k⟩
theorem rneD {d e : D} {u v : V} {b : Bool} {Q : VK} (r1 : Rep K B d u) (r2 : Rep K B e v) (bh : Same B H) (h : eqD d e = .ok b) (k : Q (.bl (!b)) H) : rNeD K u v H Q := by
  obtain ⟨p1, p2, s1, s2, e1⟩ := eqD_ok h
  exact ⟨_, _, r1.dp bh p1, r2.dp bh p2, s1, s2, by rw [e1]; exact k⟩
/-- a list of our own, as frozen data (told only, at this heap) -/
theorem Own.rep {H0 : Hp} {l : Addr} {xs : List V} {ds : List D} (o : Own K H0 B H l xs ds) (bh : Same B H) : Rep K H (.lst ds) (.ref l) := ⟨l, xs, rfl, o.h, o.r.mono bh⟩
/-- comprehensions -/
def compR {α β σ : Type} (items : List α) (st : σ) (f : σ → α → Res (σ × Option β)) : Res (σ × List β) := if items.length ≤ 100000 then compGo items st [] f else .bad
where compGo : List α → σ → List β → (σ → α → Res (σ × Option β)) → Res (σ × List β)
  | [], st, acc, _ => .ok (st, acc)
  | a :: as, st, acc, f => (f st a).bind fun p => compGo as p.1 (match p.2 with | some b => acc ++ [b] | none => acc) f
theorem compK {α β σ ρ : Type} {items : List α} {st : σ} {f : σ → α → Res (σ × Option β)} {R : σ × List β → Res ρ} {K : Res ρ → Prop} (nb : NB K) (h : K ((compR items st f).bind R)) :
    ∃ KL : Nat → σ → List β → Prop, KL 0 st [] ∧ (∀ i a s acc, items[i]? = some a → KL i s acc → acc.length < 100000 ∧ ∃ KB : Res (σ × Option β) → Prop, NB KB ∧ KB (f s a) ∧ (∀ s' b, KB (.ok (s', some b)) → KL (i + 1) s' (acc ++ [b])) ∧ ∀ s', KB (.ok (s', none)) → KL (i + 1) s' acc) ∧
      ∀ i s acc, items.length ≤ i → KL i s acc → K (R (s, acc)) := by
  unfold compR at h
  split at h
  · rename_i hl
    refine ⟨fun i s acc => acc.length ≤ i ∧ K ((compR.compGo (items.drop i) s acc f).bind R), ⟨Nat.le_refl _, h⟩, fun i a s acc hi q => ?_, fun i s acc hi q => ?_⟩
    · obtain ⟨q1, q2⟩ := q
      have hlt := (List.getElem?_eq_some_iff.mp hi).1
      rw [dropC hi] at q2
      refine ⟨by omega, fun r => K ((r.bind fun p => compR.compGo (items.drop (i + 1)) p.1 (match p.2 with | some b => acc ++ [b] | none => acc) f).bind R), ⟨nb.bad, nb.err⟩, q2, fun s' b z => ⟨?_, z⟩, fun s' z => ⟨by omega, z⟩⟩
      rw [List.length_append, List.length_singleton]; omega
    · have q2 := q.2
      rw [dropN hi] at q2
      exact q2
  · exact (nb.bad h).elim
theorem lt_line {n : Nat} (h : n < 100000) : n < sizeLine := Nat.lt_of_lt_of_le h (by decide)
theorem le_line {n : Nat} (h : n ≤ 100000) : n ≤ sizeLine := Nat.le_trans h (by decide)
/-! promises -/
def Post' {α : Type} (K : PySem.W.Frag) (S : Addr → Prop) (B H : Hp) (em : α → D) (Q : VK) : Res α → Prop
  | .ok a => ∀ v B' H', Grow S B H B' H' → Rep K B' (em a) v → Q v H'
  | .err _ _ => False
  | .bad => False
@[irreducible] def Post {α : Type} (K : PySem.W.Frag) (S : Addr → Prop) (B H : Hp) (em : α → D) (Q : VK) (r : Res α) : Prop := Post' K S B H em Q r
theorem Post.open_ {α : Type} {S : Addr → Prop} {B H : Hp} {em : α → D} {Q : VK} {r : Res α} (h : Post K S B H em Q r) :
    ∃ K0 : Res α → Prop, NB K0 ∧ K0 r ∧ ∀ a, K0 (.ok a) → ∀ v B' H', Grow S B H B' H' → Rep K B' (em a) v → Q v H' := by
  unfold Post at h
  exact ⟨Post' K S B H em Q, ⟨fun z => z, fun _ _ z => z⟩, h, fun _ q => q⟩
/-- from a part's wish: the callee's promise -/
theorem Post.mk_ {α : Type} {S : Addr → Prop} {B H : Hp} {em : α → D} {Q : VK} {r : Res α} {a : α} (e : r = .ok a) (h : ∀ v B' H', Grow S B H B' H' → Rep K B' (em a) v → Q v H') : Post K S B H em Q r := by
  unfold Post
  rw [e]; exact h
def PostL' {α : Type} (K : PySem.W.Frag) (S : Addr → Prop) (B H : Hp) (em : α → D) (Q : VK) : Res (List α) → Prop
  | .ok l => ∀ p xs B' H', H p = none → Grow S B H B' H' → B' p = none → H' p = some (.lst xs) → RepL K B' (l.map em) xs → Q (.ref p) H'
  | .err _ _ => False
  | .bad => False
@[irreducible] def PostL {α : Type} (K : PySem.W.Frag) (S : Addr → Prop) (B H : Hp) (em : α → D) (Q : VK) (r : Res (List α)) : Prop := PostL' K S B H em Q r
theorem PostL.open_ {α : Type} {S : Addr → Prop} {B H : Hp} {em : α → D} {Q : VK} {r : Res (List α)} (h : PostL K S B H em Q r) :
    ∃ K0 : Res (List α) → Prop, NB K0 ∧ K0 r ∧ ∀ l, K0 (.ok l) → ∀ p xs B' H', H p = none → Grow S B H B' H' → B' p = none → H' p = some (.lst xs) → RepL K B' (l.map em) xs → Q (.ref p) H' := by
  unfold PostL at h
  exact ⟨PostL' K S B H em Q, ⟨fun z => z, fun _ _ z => z⟩, h, fun _ q => q⟩
theorem PostL.mk_ {α : Type} {S : Addr → Prop} {B0 H0 B H : Hp} {em : α → D} {Q : VK} {r : Res (List α)} {l : List α} (w : Grow S B0 H0 B H) (e : r = .ok l) (h : ∀ p xs B' H', H p = none → Grow S B H B' H' → Own K H0 B' H' p xs (l.map em) → Q (.ref p) H') : PostL K S B H em Q r := by
  unfold PostL
  rw [e]
  exact fun p xs B' H' h1 h2 h3 h4 h5 => h p xs B' H' h1 h2 ⟨by
    cases q : H0 p with
    | none => rfl
    | some o => exact absurd h1 (w.dom p (by rw [q]; exact fun z => by cases z)), h3, h4, h5⟩
end
/-! the source of draws -/
structure Src where
  cells : List Int
  at_ : Int
  mix : Int
structure SrcAt (a c : Addr) (B H : Hp) (s : Src) : Prop where
  hd : H a = some (.lst [.ref c, .int s.at_, .int s.mix])
  cl : H c = some (.lst (s.cells.map V.int))
  ba : B a = none
  bc : B c = none
  ne : a ≠ c
abbrev Sx (a c : Addr) : Addr → Prop := fun p => p = a ∨ p = c
section
variable {K : PySem.W.Frag} {B B' H H' : Hp} {a c : Addr} {s s' : Src}
theorem SrcAt.grow0 (x : SrcAt a c B H s) (g : Grow S0 B H B' H') : SrcAt a c B' H' s :=
  ⟨g.keep a _ (fun z => z) rfl x.hd, g.keep c _ (fun z => z) rfl x.cl, g.own a (by rw [x.hd]; exact fun z => by cases z) x.ba, g.own c (by rw [x.cl]; exact fun z => by cases z) x.bc, x.ne⟩
theorem SrcAt.there (x : SrcAt a c B H s) : ∀ p, Sx a c p → H p ≠ none := fun p hp => by
  rcases hp with rfl | rfl
  · rw [x.hd]; exact fun z => by cases z
  · rw [x.cl]; exact fun z => by cases z
/-- a list of ours is changed -/
theorem SrcAt.mut {H0 : Hp} {l : Addr} {xs : List V} {ds : List D} {u : HO} (x : SrcAt a c B H s) (o : Own K H0 B H l xs ds) (hsd : ∀ p, Sx a c p → H0 p ≠ none) : SrcAt a c B (upd H l u) s :=
  ⟨by rw [upd_ne (fun z => hsd a (.inl rfl) (by rw [z]; exact o.n0))]; exact x.hd, by rw [upd_ne (fun z => hsd c (.inr rfl) (by rw [z]; exact o.n0))]; exact x.cl, x.ba, x.bc, x.ne⟩
theorem SrcAt.frz {H0 : Hp} {l : Addr} {xs : List V} {ds : List D} {u : HO} (x : SrcAt a c B H s) (o : Own K H0 B H l xs ds) (hsd : ∀ p, Sx a c p → H0 p ≠ none) : SrcAt a c (upd B l u) H s :=
  ⟨x.hd, x.cl, by rw [upd_ne (fun z => hsd a (.inl rfl) (by rw [z]; exact o.n0))]; exact x.ba, by rw [upd_ne (fun z => hsd c (.inr rfl) (by rw [z]; exact o.n0))]; exact x.bc, x.ne⟩
theorem SrcAt.fz {H0 : Hp} {l : Addr} (x : SrcAt a c B H s) (n0 : H0 l = none) (hq : ∀ q, q ≠ l → B' q = B q) (hsd : ∀ p, Sx a c p → H0 p ≠ none) : SrcAt a c B' H s :=
  ⟨x.hd, x.cl, (hq a fun z => hsd a (.inl rfl) (by rw [z]; exact n0)).trans x.ba, (hq c fun z => hsd c (.inr rfl) (by rw [z]; exact n0)).trans x.bc, x.ne⟩
theorem SrcAt.own {l : Addr} {o : HO} (x : SrcAt a c B H s) (hp : H l = none) : SrcAt a c B (upd H l o) s :=
  ⟨by rw [upd_ne (ne_of_none x.hd hp)]; exact x.hd, by rw [upd_ne (ne_of_none x.cl hp)]; exact x.cl, x.ba, x.bc, x.ne⟩
theorem SrcAt.growE {S : Addr → Prop} (x : SrcAt a c B H s) (g : Grow S B H B' H') (na : ¬ S a) (nc : ¬ S c) : SrcAt a c B' H' s :=
  ⟨g.keep a _ na rfl x.hd, g.keep c _ nc rfl x.cl, g.own a (by rw [x.hd]; exact fun z => by cases z) x.ba, g.own c (by rw [x.cl]; exact fun z => by cases z) x.bc, x.ne⟩
def PostS' {α : Type} (K : PySem.W.Frag) (a c : Addr) (B H : Hp) (em : α → D) (Q : VK) : Res (Src × α) → Prop
  | .ok r => ∀ v B' H', Grow (Sx a c) B H B' H' → SrcAt a c B' H' r.1 → Rep K B' (em r.2) v → Q v H'
  | .err _ _ => False
  | .bad => False
@[irreducible] def PostS {α : Type} (K : PySem.W.Frag) (a c : Addr) (B H : Hp) (em : α → D) (Q : VK) (r : Res (Src × α)) : Prop := PostS' K a c B H em Q r
theorem PostS.open_ {α : Type} {em : α → D} {Q : VK} {r : Res (Src × α)} (h : PostS K a c B H em Q r) :
    ∃ K0 : Res (Src × α) → Prop, NB K0 ∧ K0 r ∧ ∀ s x, K0 (.ok (s, x)) → ∀ v B' H', Grow (Sx a c) B H B' H' → SrcAt a c B' H' s → Rep K B' (em x) v → Q v H' := by
  unfold PostS at h
  exact ⟨PostS' K a c B H em Q, ⟨fun z => z, fun _ _ z => z⟩, h, fun _ _ q => q⟩
theorem PostS.mk_ {α : Type} {em : α → D} {Q : VK} {r : Res (Src × α)} {p : Src × α} (e : r = .ok p) (h : ∀ v B' H', Grow (Sx a c) B H B' H' → SrcAt a c B' H' p.1 → Rep K B' (em p.2) v → Q v H') : PostS K a c B H em Q r := by
  unfold PostS
  rw [e]; exact h
def PostLS' {α : Type} (K : PySem.W.Frag) (a c : Addr) (B H : Hp) (em : α → D) (Q : VK) : Res (Src × List α) → Prop
  | .ok r => ∀ p xs B' H', H p = none → Grow (Sx a c) B H B' H' → SrcAt a c B' H' r.1 → B' p = none → H' p = some (.lst xs) → RepL K B' (r.2.map em) xs → Q (.ref p) H'
  | .err _ _ => False
  | .bad => False
@[irreducible] def PostLS {α : Type} (K : PySem.W.Frag) (a c : Addr) (B H : Hp) (em : α → D) (Q : VK) (r : Res (Src × List α)) : Prop := PostLS' K a c B H em Q r
theorem PostLS.open_ {α : Type} {em : α → D} {Q : VK} {r : Res (Src × List α)} (h : PostLS K a c B H em Q r) :
    ∃ K0 : Res (Src × List α) → Prop, NB K0 ∧ K0 r ∧ ∀ s l, K0 (.ok (s, l)) → ∀ p xs B' H', H p = none → Grow (Sx a c) B H B' H' → SrcAt a c B' H' s → B' p = none → H' p = some (.lst xs) → RepL K B' (l.map em) xs → Q (.ref p) H' := by
  unfold PostLS at h
  exact ⟨PostLS' K a c B H em Q, ⟨fun z => z, fun _ _ z => z⟩, h, fun _ _ q => q⟩
theorem PostLS.mk_ {α : Type} {B0 H0 : Hp} {S : Addr → Prop} {em : α → D} {Q : VK} {r : Res (Src × List α)} {q : Src × List α} (w : Grow S B0 H0 B H) (e : r = .ok q) (h : ∀ p xs B' H', H p = none → Grow (Sx a c) B H B' H' → SrcAt a c B' H' q.1 → Own K H0 B' H' p xs (q.2.map em) → Q (.ref p) H') : PostLS K a c B H em Q r := by
  unfold PostLS
  rw [e]
  exact fun p xs B' H' h1 h2 h6 h3 h4 h5 => h p xs B' H' h1 h2 h6 ⟨by
    cases q : H0 p with
    | none => rfl
    | some o => exact absurd h1 (w.dom p (by rw [q]; exact fun z => by cases z)), h3, h4, h5⟩
end
end G
set_option maxRecDepth 100000
set_option maxHeartbeats 4000000
namespace G
open PySem PySem.Spec PyProof.Rows L2
theorem nb_bad {α : Type} {K : Res α → Prop} (n : NB K) (h : K .bad) : False := n.bad h
theorem tyes_go {A B : Hp → Prop} {σ : L2.St} {H : Hp} (h : A H) : tYes σ H (fun b H3 => if b = true then A H3 else B H3) := by
  show if true = true then A H else B H
  rw [if_pos rfl]; exact h
theorem tn_go {σ : L2.St} {H : Hp} {Q : Option Int → Hp → Prop} (h : Q none H) : tNoPart σ H Q := h
theorem tc_go {v : V} {σ : L2.St} {H : Hp} {Q : VK} (h : Q v H) : tC v σ H Q := h
/-! ints -/
def mulR (a b : Int) : Res Int := if a.natAbs < 2 ^ 63 ∨ b.natAbs < 2 ^ 63 then .ok (a * b) else .bad
theorem mulR_ok {a b t : Int} (h : mulR a b = .ok t) : CMul a b ∧ t = a * b := by
  unfold mulR at h
  split at h
  · rename_i c
    cases h
    refine ⟨?_, rfl⟩
    rcases c with c | c
    · exact .inl ⟨by omega, by omega⟩
    · exact .inr ⟨by omega, by omega⟩
  · cases h
def CDivG (i j : Int) : Prop := j ≠ 0 ∧ (j.natAbs < 1073741824 ∨ (0 < j ∧ j.natAbs < 2 ^ 200))
def fdivR (a b : Int) : Res Int := if b ≠ 0 ∧ (b.natAbs < 1073741824 ∨ (0 < b ∧ b.natAbs < 2 ^ 200)) then .ok (a.fdiv b) else .bad
theorem fdivR_ok {a b t : Int} (h : fdivR a b = .ok t) : CDivG a b ∧ t = a.fdiv b := by
  unfold fdivR at h
  split at h
  · rename_i c; cases h; exact ⟨c, rfl⟩
  · cases h
theorem op_fdivG {X : Cx} : OpR X (binaryOp .FloorDiv) (rI CDivG fun i j => .int (i.fdiv j)) := by
  intro pins s σ H x y v u Q I rx ry h
  obtain ⟨i, j, rfl, rfl, c, q⟩ := h
  rcases c.2 with c2 | c2
  · exact op_fdivN pins s σ H _ _ v u Q I rx ry ⟨i, j, rfl, rfl, ⟨c.1, c2⟩, q⟩
  · refine op_fdivW pins s σ H _ _ v u Q I rx ry ⟨i, j, rfl, rfl, ⟨c2.1, ?_⟩, ?_⟩
    · have : j.natAbs.log2 < 200 := (Nat.log2_lt (by omega)).mpr c2.2
      omega
    · show Q (.int (i / j)) H
      rw [← Int.fdiv_eq_ediv_of_nonneg _ (Int.le_of_lt c2.1)]; exact q
def fmodR (a b : Int) : Res Int := if b ≠ 0 then .ok (a.fmod b) else .bad
theorem fmodR_ok {a b t : Int} (h : fmodR a b = .ok t) : b ≠ 0 ∧ t = a.fmod b := by
  unfold fmodR at h
  split at h
  · rename_i c; cases h; exact ⟨c, rfl⟩
  · cases h
section
variable {X : Cx}
theorem op_eqI : OpR X (compareOp .Eq) (rI0 fun i j => .bl (decide (i = j))) := by
  intro pins s σ H x y v u Q I rx ry h
  obtain ⟨i, j, rfl, rfl, q⟩ := h
  refine op_eq pins s σ H _ _ v u Q I rx ry ⟨rfl, ?_⟩
  have e : decide (V.int i = V.int j) = decide (i = j) := by
    by_cases h : i = j
    · rw [h]; simp
    · rw [decide_eq_false h, decide_eq_false (fun q => h (V.int.inj q))]
  rw [e]; exact q
theorem op_neI : OpR X (compareOp .NotEq) (rI0 fun i j => .bl (!decide (i = j))) := by
  intro pins s σ H x y v u Q I rx ry h
  obtain ⟨i, j, rfl, rfl, q⟩ := h
  refine op_ne pins s σ H _ _ v u Q I rx ry ⟨rfl, ?_⟩
  have e : decide (V.int i = V.int j) = decide (i = j) := by
    by_cases h : i = j
    · rw [h]; simp
    · rw [decide_eq_false h, decide_eq_false (fun q => h (V.int.inj q))]
  rw [e]; exact q
end
def rangeR (lo hi : Int) : Res (List Int) := if -(2 ^ 62) ≤ lo ∧ lo < 2 ^ 62 ∧ -(2 ^ 62) ≤ hi ∧ hi < 2 ^ 62 then .ok ((List.range (hi - lo).toNat).map fun (i : Nat) => lo + (i : Int)) else .bad
theorem rangeR_ok {lo hi : Int} {l : List Int} (h : rangeR lo hi = .ok l) : (-(2 ^ 62) ≤ lo ∧ lo < 2 ^ 62 ∧ -(2 ^ 62) ≤ hi ∧ hi < 2 ^ 62) ∧ l = (List.range (hi - lo).toNat).map fun (i : Nat) => lo + (i : Int) := by
  unfold rangeR at h
  split at h
  · rename_i c; cases h; exact ⟨c, rfl⟩
  · cases h
theorem rng_at2 {lo hi : Int} {i : Nat} (h : i < (hi - lo).toNat) : ((List.range (hi - lo).toNat).map fun (i : Nat) => lo + (i : Int))[i]? = some (lo + (i : Int)) := by
  rw [List.getElem?_map, List.getElem?_range h]; rfl
theorem rng_at1 {lo hi : Int} {i : Nat} (h : i < hi.toNat) : ((List.range (hi - (0 : Int)).toNat).map fun (i : Nat) => (0 : Int) + (i : Int))[i]? = some ((0 : Int) + (i : Int)) := by
  have e : (hi - (0 : Int)).toNat = hi.toNat := by rw [Int.sub_zero]
  rw [List.getElem?_map, List.getElem?_range (by rw [e]; exact h)]; rfl
theorem rng_len2 {lo hi : Int} : ((List.range (hi - lo).toNat).map fun (i : Nat) => lo + (i : Int)).length ≤ (hi - lo).toNat := by simp
theorem rng_len1 {lo hi : Int} : ((List.range (hi - (0 : Int)).toNat).map fun (i : Nat) => (0 : Int) + (i : Int)).length ≤ hi.toNat := by simp
/-! texts -/
def sgn (c : Nat) : Str := ⟨#[c]⟩
theorem sgn_at {z : Str} {i c : Nat} (h : z.cps[i]? = some c) : z.cps.toList[i]? = some c := by simpa using h
theorem sgn_len (z : Str) : z.cps.toList.length ≤ z.cps.size := by simp
def lenS (z : Str) : Res Int := if z.length ≤ 100000 then .ok (z.length : Int) else .bad
theorem lenS_ok {z : Str} {t : Int} (h : lenS z = .ok t) : z.length ≤ sizeLine ∧ t = (z.length : Int) := by
  unfold lenS at h
  split at h
  · rename_i c; cases h; exact ⟨le_line c, rfl⟩
  · cases h
def addS (a b : Str) : Res Str := if a.length + b.length ≤ 100000 then .ok (a ++ b) else .bad
theorem addS_ok {a b t : Str} (h : addS a b = .ok t) : a.length + b.length ≤ sizeLine ∧ t = a ++ b := by
  unfold addS at h
  split at h
  · rename_i c; cases h; exact ⟨le_line c, rfl⟩
  · cases h
def cutSR (z : Str) (lo hi : Option Int) : Res Str := if z.length ≤ 100000 then .ok (cutS z lo hi) else .bad
theorem cutSR_ok {z t : Str} {lo hi : Option Int} (h : cutSR z lo hi = .ok t) : z.length ≤ sizeLine ∧ t = cutS z lo hi := by
  unfold cutSR at h
  split at h
  · rename_i c; cases h; exact ⟨le_line c, rfl⟩
  · cases h
def ixS (z : Str) (i : Int) : Res Nat := if z.length ≤ 100000 then Res.ofO (atI z.cps.toList i) else .bad
theorem ixS_ok {z : Str} {i : Int} {c : Nat} (h : ixS z i = .ok c) : z.length ≤ sizeLine ∧ atI z.cps.toList i = some c := by
  unfold ixS at h
  split at h
  · rename_i q
    refine ⟨le_line q, ?_⟩
    cases e : atI z.cps.toList i with
    | none => rw [e] at h; cases h
    | some b => rw [e] at h; cases h; rfl
  · cases h
def joinR (a : Str) (ys : List Str) : Res Str := if (ys.map (·.length)).sum + ys.length * a.length ≤ 100000 then .ok (Txt.join a ys) else .bad
theorem joinR_ok {a t : Str} {ys : List Str} (h : joinR a ys = .ok t) : (ys.map (·.length)).sum + ys.length * a.length ≤ 16777216 ∧ t = Txt.join a ys := by
  unfold joinR at h
  split at h
  · rename_i c; cases h; exact ⟨Nat.le_trans c (by decide), rfl⟩
  · cases h
section
variable {K : PySem.W.Frag} {B B' H H' : Hp}
theorem RepL.asSigns : ∀ {l : List Nat} {xs : List V}, RepL K B (l.map fun (c : Nat) => D.str ⟨#[c]⟩) xs → xs = (l.map sgn).map V.str
  | [], _, h => h
  | b :: l, _, ⟨x, r, e1, h1, h2⟩ => by
    have h1 : x = .str ⟨#[b]⟩ := h1
    rw [e1, h1, asSigns h2]; rfl
/-! lists -/
def lenG {α : Type} (l : List α) : Res Unit := if l.length < 100000 then .ok () else .bad
theorem lenG_ok {α : Type} {l : List α} {u : Unit} (h : lenG l = .ok u) : l.length < 100000 := by
  unfold lenG at h
  split at h
  · assumption
  · cases h
theorem own_lt {α : Type} {em : α → D} {H0 : Hp} {l : Addr} {xs : List V} {m : List α} (o : Own K H0 B H l xs (m.map em)) (h : m.length < 100000) : xs.length < 100000 := by rw [o.r.lenm]; exact h
theorem Own.new {S : Addr → Prop} {B0 H0 : Hp} {l : Addr} {xs : List V} {ds : List D} (w : Grow S B0 H0 B H) (hn : H l = none) (r : RepL K B ds xs) : Own K H0 B (upd H l (.lst xs)) l xs ds :=
  ⟨by
    cases q : H0 l with
    | none => rfl
    | some o => exact absurd hn (w.dom l (by rw [q]; exact fun z => by cases z)), same_free w.bh hn, upd_same, r⟩
theorem newO {S : Addr → Prop} {B0 H0 : Hp} {xs : List V} {ds : List D} {Q : VK} (w : Grow S B0 H0 B H) (r : RepL K B ds xs) (k : ∀ l H', H l = none → Grow S0 B H B H' → Own K H0 B H' l xs ds → Q (.ref l) H') :
    ∀ p, H p = none → Q (.ref p) (upd H p (.lst xs)) := fun p hp => k p _ hp (Grow.newOwn w.bh hp) (Own.new w hp r)
theorem newT {xs : List V} {ds : List D} {Q : VK} (bh : Same B H) (r : RepL K B ds xs) (k : ∀ v B' H', Grow S0 B H B' H' → Rep K B' (.tup ds) v → Q v H') :
    ∀ p, H p = none → Q (.ref p) (upd H p (.tup xs)) := fun p hp => k _ _ _ (Grow.new bh hp) ⟨p, xs, rfl, SqT.of upd_same, r.mono (same_upd (same_free bh hp))⟩
def catR {α : Type} (a b : List α) : Res (List α) := if a.length + b.length ≤ 100000 then .ok (a ++ b) else .bad
theorem catR_ok {α : Type} {a b t : List α} (h : catR a b = .ok t) : a.length + b.length ≤ 100000 ∧ t = a ++ b := by
  unfold catR at h
  split at h
  · rename_i c; cases h; exact ⟨c, rfl⟩
  · cases h
theorem cat_len {α : Type} {em : α → D} {a b : List α} {xs ys : List V} (r : RepL K B (a.map em) xs) (r' : RepL K B (b.map em) ys) (h : a.length + b.length ≤ 100000) : xs.length + ys.length ≤ sizeLine := by
  rw [r.lenm, r'.lenm]; exact le_line h
theorem all_flatStrs (l : List Str) : (l.map V.str).all flatV = true := by
  rw [List.all_eq_true]; intro x hx
  obtain ⟨s, _, rfl⟩ := List.mem_map.mp hx
  rfl
theorem all_flatInts (l : List Int) : (l.map V.int).all flatV = true := by
  rw [List.all_eq_true]; intro x hx
  obtain ⟨s, _, rfl⟩ := List.mem_map.mp hx
  rfl
theorem inV_strs (a : Str) (l : List Str) : inV (.str a) (l.map V.str) = decide (a ∈ l) := by
  unfold inV
  induction l with
  | nil => rfl
  | cons b l ih =>
    rw [List.map_cons, List.any_cons, ih]
    show (b == a || decide (a ∈ l)) = decide (a ∈ b :: l)
    by_cases h : a = b
    · subst h; simp
    · have h' : (b == a) = false := beq_eq_false_iff_ne.mpr fun e => h e.symm
      rw [h', Bool.false_or]
      by_cases h2 : a ∈ l
      · rw [decide_eq_true h2, decide_eq_true (List.mem_cons_of_mem _ h2)]
      · rw [decide_eq_false h2, decide_eq_false (fun q => (List.mem_cons.mp q).elim h h2)]
theorem inV_ints (a : Int) (l : List Int) : inV (.int a) (l.map V.int) = decide (a ∈ l) := by
  unfold inV
  induction l with
  | nil => rfl
  | cons b l ih =>
    rw [List.map_cons, List.any_cons, ih]
    show (b == a || decide (a ∈ l)) = decide (a ∈ b :: l)
    by_cases h : a = b
    · subst h; simp
    · have h' : (b == a) = false := beq_eq_false_iff_ne.mpr fun e => h e.symm
      rw [h', Bool.false_or]
      by_cases h2 : a ∈ l
      · rw [decide_eq_true h2, decide_eq_true (List.mem_cons_of_mem _ h2)]
      · rw [decide_eq_false h2, decide_eq_false (fun q => (List.mem_cons.mp q).elim h h2)]
/-- x in xs -/
theorem rin_strs {K : PySem.W.Frag} {neg : Bool} {H : Hp} {p : Addr} {a : Str} {l : List Str} {Q : VK} (h : SqL K H p (l.map V.str) ∨ SqT K H p (l.map V.str)) (k : Q (.bl (if neg then !decide (a ∈ l) else decide (a ∈ l))) H) : rIn K neg (.str a) (.ref p) H Q :=
  ⟨p, _, rfl, h, rfl, all_flatStrs l, by rw [inV_strs]; exact k⟩
theorem rin_ints {K : PySem.W.Frag} {neg : Bool} {H : Hp} {p : Addr} {a : Int} {l : List Int} {Q : VK} (h : SqL K H p (l.map V.int) ∨ SqT K H p (l.map V.int)) (k : Q (.bl (if neg then !decide (a ∈ l) else decide (a ∈ l))) H) : rIn K neg (.int a) (.ref p) H Q :=
  ⟨p, _, rfl, h, rfl, all_flatInts l, by rw [inV_ints]; exact k⟩
theorem tyX_tuple {p : Addr} {xs : List V} (h : SqT K H p xs) : TyX K H (.ref p) (.type "tuple") := by
  rcases h with (h | ⟨o, h⟩) | ⟨o, its, n, hk, hc, _⟩
  · exact .base (.tup h)
  · exact .fTuple h
  · exact .kTuple hk hc
theorem tyX_list {p : Addr} {xs : List V} (h : H p = some (.lst xs)) : TyX K H (.ref p) (.type "list") := .base (.lst h)
/-- a store into a list of ours -/
def ixNR (n : Nat) (i : Int) : Res Nat := Res.ofO (ixN n i)
theorem ixN_of {α : Type} {em : α → D} {m : List α} {xs : List V} {i : Int} {j : Nat} (r : RepL K B (m.map em) xs) (h : ixNR m.length i = .ok j) : ixN xs.length i = some j := by
  rw [r.lenm]
  unfold ixNR at h
  cases q : ixN m.length i with
  | none => rw [q] at h; cases h
  | some k => rw [q] at h; cases h; rfl
theorem RepL.set : ∀ {ds : List D} {xs : List V} {d : D} {x : V} {j : Nat}, RepL K B ds xs → Rep K B d x → RepL K B (ds.set j d) (xs.set j x)
  | [], xs, d, x, j, h, _ => by have h : xs = [] := h; subst h; rfl
  | e :: ds, _, d, x, 0, ⟨y, r, e1, h1, h2⟩, g => by subst e1; exact ⟨x, r, rfl, g, h2⟩
  | e :: ds, _, d, x, j + 1, ⟨y, r, e1, h1, h2⟩, g => by subst e1; exact ⟨y, _, rfl, h1, RepL.set h2 g⟩
theorem RepL.setm {α : Type} {em : α → D} {m : List α} {xs : List V} {a : α} {x : V} {j : Nat} (r : RepL K B (m.map em) xs) (g : Rep K B (em a) x) : RepL K B ((m.set j a).map em) (xs.set j x) := by
  rw [List.map_set]; exact r.set g
/-! cuts -/
def cutA {α : Type} (xs : List α) (lo hi : Option Int) : List α := (xs.drop (HT.sIx xs.length 0 lo)).take (HT.sIx xs.length xs.length hi - HT.sIx xs.length 0 lo)
theorem RepL.drop : ∀ {ds : List D} {xs : List V} (n : Nat), RepL K B ds xs → RepL K B (ds.drop n) (xs.drop n)
  | ds, xs, 0, h => h
  | [], xs, n + 1, h => by have h : xs = [] := h; subst h; rfl
  | d :: ds, _, n + 1, ⟨y, r, e1, h1, h2⟩ => by subst e1; exact RepL.drop n h2
theorem RepL.take : ∀ {ds : List D} {xs : List V} (n : Nat), RepL K B ds xs → RepL K B (ds.take n) (xs.take n)
  | ds, xs, 0, h => by simp only [List.take_zero]; rfl
  | [], xs, n + 1, h => by have h : xs = [] := h; subst h; rfl
  | d :: ds, _, n + 1, ⟨y, r, e1, h1, h2⟩ => by subst e1; exact ⟨y, _, rfl, h1, RepL.take n h2⟩
theorem RepL.cut {α : Type} {em : α → D} {m : List α} {xs : List V} (r : RepL K B (m.map em) xs) (lo hi : Option Int) : RepL K B ((cutA m lo hi).map em) (cutV xs lo hi) := by
  unfold cutA cutV
  rw [List.map_take, List.map_drop, r.lenm]
  exact (r.drop _).take _
theorem rslT {α : Type} {em : α → D} {l : List α} {lo hi : Option Int} {v : V} {Q : VK} (bh : Same B H) (r : Rep K B (.tup (l.map em)) v) (k : ∀ v' B' H', Grow S0 B H B' H' → Rep K B' (.tup ((cutA l lo hi).map em)) v' → Q v' H') : rSlA K v lo hi H Q := by
  obtain ⟨p, xs, rfl, hp, rl⟩ := r
  have rc := rl.cut lo hi
  refine ⟨p, xs, rfl, same_t bh hp, fun h => ?_, fun _ p' hp' => k _ _ _ (Grow.new bh hp') ⟨p', _, rfl, SqT.of upd_same, rc.mono (same_upd (same_free bh hp'))⟩⟩
  refine k _ B H (Grow.refl bh) ⟨p, xs, rfl, hp, ?_⟩
  have e : cutV xs lo hi = xs := by
    unfold cutV
    rw [h.1, h.2, List.drop_zero, Nat.sub_zero, List.take_length]
  rw [e] at rc; exact rc
/-! sorted texts, places -/
def sortS (l : List Str) : Res (List Str) := if l.length < 64 then .ok (l.mergeSort fun a b => decide (a.cps.toList ≤ b.cps.toList)) else .bad
def indexS (l : List Str) (x : Str) : Res Int := if x ∈ l then .ok ((l.findIdx fun y => decide (y = x)) : Nat) else .bad
theorem indexS_ok {l : List Str} {x : Str} {t : Int} (h : indexS l x = .ok t) : ∃ j : Nat, t = (j : Int) ∧ l[j]? = some x ∧ ∀ m, m < j → l[m]? ≠ some x := by
  unfold indexS at h
  split at h
  · rename_i c
    cases h
    refine ⟨_, rfl, ?_, fun m hm e => ?_⟩
    · have hl : (l.findIdx fun y => decide (y = x)) < l.length := List.findIdx_lt_length.mpr ⟨x, c, by simp⟩
      rw [List.getElem?_eq_getElem hl]
      have := List.findIdx_getElem (p := fun y => decide (y = x)) (xs := l) (w := hl)
      rw [of_decide_eq_true this]
    · have := List.not_of_lt_findIdx hm
      obtain ⟨h1, h2⟩ := List.getElem?_eq_some_iff.mp e
      rw [h2] at this
      simp at this
  · cases h
end
/-! methods of tuples that are known to have no dict; tuple(..) of a list -/
section
variable {X : Cx}
def tTI (to te : TE) : TE := fun σ H Q => to σ H fun x H1 => (∃ p o xs, x = .ref p ∧ H1 p = some (.frz o (.tup xs)) ∧ o.dict = none) ∧ te σ H1 fun y H2 =>
  ∃ p, ∃ ys : List Str, ∃ z j, x = .ref p ∧ y = .str z ∧ SqT X.K H2 p (ys.map V.str) ∧ ys[j]? = some z ∧ (∀ m, m < j → ys[m]? ≠ some z) ∧ Q (.int (j : Nat)) H2
theorem pe_tindex {o e : Expr} {to te : TE} {apos pos : Pos} (ho : PE X o to) (he : PE X e te) (hs : starEach [e] X.env = [(false, eval e X.env)] := by rfl) (hbase : attributeBase o "index" X.env (eval o X.env) = eval o X.env := by rfl)
    (hline : (apos.endLine == pos.line) = true := by rfl) : PE X (.Call (.Attribute o "index" apos) [e] [] pos) (tTI (X := X) to te) := by
  refine ⟨fun pins s σ H Q I h => ?_⟩
  refine PySem.Call_method1 hbase hs hline (thn (ho.run pins s σ H _ I h) fun v s1 ⟨x, H1, I1, r1, q1⟩ => ?_)
  obtain ⟨⟨p, ob, xs, rfl, hp, hd⟩, q1⟩ := q1
  have rv : v = Value.ref p := r1
  subst rv
  obtain ⟨e1, e2⟩ := I1.hok p _ hp
  obtain ⟨its, rr, pl, hz⟩ := I1.tuple (xs := xs) (.inl (.inr ⟨ob, hp⟩))
  obtain ⟨o2, e3, hc, hdat⟩ := pl
  rw [e1] at e3; cases e3
  refine ⟨"tuple", _, PySem.F.plainAttrs_tuple, PySem.F.slot_tuple_index, PySem.F.type_tuple_index, ⟨ob, e1, hc⟩, (fun a q => ?_), Calls.callWith_builtin rfl (Calls.evalArgs_plain (Calls.spliced_cons ?_))⟩
  · cases q
    exact ⟨ob, e1, hd⟩
  exact thn (he.run pins s1 σ H1 _ I1 q1) fun u s2 ⟨y, H2, I2, r2, p2, ys, z, j, ex, ey, hq, h1, h2, q2⟩ => Calls.spliced_nil (mt_tup_index pins s2 σ H2 _ [y] _ [u] Q I2 r1 (.cons r2 .nil) ⟨p2, ys, z, j, ex, by rw [ey], hq, h1, h2, q2⟩)
theorem call_tuple_ofK : CallR X (.type "tuple") (fun xs H Q => ∃ p ys, xs = [.ref p] ∧ SqL X.K H p ys ∧ ∀ l (o : Obj), o.dict = none → H l = none → Q (.ref l) (upd H l (.frz o (.tup ys)))) := by
  intro pins s σ H xs us Q I r h
  obtain ⟨p, ys, rfl, hq, q⟩ := h
  obtain ⟨u, rfl, rx⟩ := vals1 r
  cases rx
  obtain ⟨its, r', pl, hz⟩ := I.list hq
  have hlen := r'.length
  refine call_tuple_list pl.isList (fun h' kp => ?_) (by simp only [List.size_toArray] <;> omega)
  have I1 : Inv X pins σ H { s with heap := h' } := I.kept (t' := s.toks) kp
  have I2 : Inv X pins σ (upd H h'.objs.size (.frz { cls := .type "tuple", data := .seq its.toArray } (.tup ys))) { s with heap := h'.push { cls := .type "tuple", data := .seq its.toArray } } :=
    I1.laid (t' := s.toks) (fun b o e => Heap.get?_push_of_some _ e) (Nat.le_refl _) (show ObjOk X.prog X.w _ _ _ (.frz _ (.tup ys)) from ⟨Heap.get?_push_size _ rfl, hz, its, r', IsTup.new _ _⟩)
  exact ⟨.ref h'.objs.size, _, I2, rfl, q _ _ rfl (I1.hok.fresh (Nat.le_refl _))⟩
end
theorem newK {K : PySem.W.Frag} {B H : Hp} {xs : List V} {ds : List D} {Q : VK} (bh : Same B H) (r : RepL K B ds xs) (k : ∀ v B' H', Grow S0 B H B' H' → Rep K B' (.ktup ds) v → Q v H') :
    ∀ l (o : Obj), o.dict = none → H l = none → Q (.ref l) (upd H l (.frz o (.tup xs))) := fun p o hd hp => k _ _ _ (Grow.new bh hp) ⟨p, xs, o, rfl, ⟨upd_same, hd⟩, r.mono (same_upd (same_free bh hp))⟩
section
variable {X : Cx} {K : PySem.W.Frag}
theorem ix_tup' (h : X.K = K) : IxR X (rIxT K) := by subst h; exact ix_tup
theorem ix_list' (h : X.K = K) : IxR X (rIxL K) := by subst h; exact ix_list
theorem call_len_seq' (h : X.K = K) : CallR X (.builtin "len") (fun xs H Q => ∃ p ys, xs = [.ref p] ∧ (SqL K H p ys ∨ SqT K H p ys) ∧ Q (.int ys.length) H) := by subst h; exact call_len_seq
theorem call_list_of' (h : X.K = K) : CallR X (.type "list") (fun xs H Q => ∃ p ys, xs = [.ref p] ∧ (SqL K H p ys ∨ SqT K H p ys) ∧ ∀ l, H l = none → Q (.ref l) (upd H l (.lst ys))) := by subst h; exact call_list_of
theorem call_tuple_of' (h : X.K = K) : CallR X (.type "tuple") (fun xs H Q => ∃ p ys, xs = [.ref p] ∧ ((SqL K H p ys ∧ ∀ l, H l = none → Q (.ref l) (upd H l (.tup ys))) ∨ (SqT K H p ys ∧ Q (.ref p) H))) := by subst h; exact call_tuple_of
theorem call_tuple_ofK' (h : X.K = K) : CallR X (.type "tuple") (fun xs H Q => ∃ p ys, xs = [.ref p] ∧ SqL K H p ys ∧ ∀ l (o : Obj), o.dict = none → H l = none → Q (.ref l) (upd H l (.frz o (.tup ys)))) := by subst h; exact call_tuple_ofK
theorem call_isi' (h : X.K = K) : CallR X (.builtin "isinstance") (rIsi K) := by subst h; exact call_isi
theorem call_isiT' (h : X.K = K) : CallR X (.builtin "isinstance") (rIsiT K) := by subst h; exact call_isiT
theorem op_in_seq' (h : X.K = K) : OpR X (compareOp .In) (rIn K false) := by subst h; exact op_in_seq
theorem op_notIn_seq' (h : X.K = K) : OpR X (compareOp .NotIn) (rIn K true) := by subst h; exact op_notIn_seq
theorem sl_tupA' (h : X.K = K) : SlR X (rSlA K) := by subst h; exact sl_tupA
theorem sl_list' (h : X.K = K) : SlR X (rSlL K) := by subst h; exact sl_list
theorem cr_sortedS' (h : X.K = K) : CallR X (.builtin "sorted") (rSortedS K) := by subst h; exact cr_sortedS
theorem cr_all' (h : X.K = K) (hc : X.calm = true) : CallR X (.builtin "all") (rAll K) := by subst h; exact cr_all hc
theorem op_eqD' (h : X.K = K) (hu : X.A.units + 64 < cLine) : OpR X (compareOp .Eq) (rEqD K) := by subst h; exact op_eqD hu
theorem op_neD' (h : X.K = K) (hu : X.A.units + 64 < cLine) : OpR X (compareOp .NotEq) (rNeD K) := by subst h; exact op_neD hu
theorem pi_list' {tg l : Expr} {tl : TE} (h : X.K = K) (hl : PE X l tl) : PI X tg l (iList K tl) := by subst h; exact pi_list hl
theorem pi_tup' {tg l : Expr} {tl : TE} (h : X.K = K) (hl : PE X l tl) : PI X tg l (iTup K tl) := by subst h; exact pi_tup hl
def tTix (to te : TE) : TE := fun σ H Q => to σ H fun x H1 => (∃ p o xs, x = .ref p ∧ H1 p = some (.frz o (.tup xs)) ∧ o.dict = none) ∧ te σ H1 fun y H2 =>
  ∃ p, ∃ ys : List Str, ∃ z j, x = .ref p ∧ y = .str z ∧ SqT K H2 p (ys.map V.str) ∧ ys[j]? = some z ∧ (∀ m, m < j → ys[m]? ≠ some z) ∧ Q (.int (j : Nat)) H2
theorem pe_tindex' {o e : Expr} {to te : TE} {apos pos : Pos} (h : X.K = K) (ho : PE X o to) (he : PE X e te) (hs : starEach [e] X.env = [(false, eval e X.env)] := by rfl) (hbase : attributeBase o "index" X.env (eval o X.env) = eval o X.env := by rfl)
    (hline : (apos.endLine == pos.line) = true := by rfl) : PE X (.Call (.Attribute o "index" apos) [e] [] pos) (tTix (K := K) to te) := by subst h; exact pe_tindex ho he hs hbase hline
theorem pe_join' {o e : Expr} {to te : TE} {apos pos : Pos} (h : X.K = K) (ho : PE X o to) (he : PE X e te) (hs : starEach [e] X.env = [(false, eval e X.env)] := by rfl) (hbase : attributeBase o "join" X.env (eval o X.env) = eval o X.env := by rfl) (hline : (apos.endLine == pos.line) = true := by rfl) :
    PE X (.Call (.Attribute o "join" apos) [e] [] pos) (tM1 (fun x xs H Q => ∃ a p, ∃ ys : List Str, x = .str a ∧ xs = [.ref p] ∧ (SqL K H p (ys.map V.str) ∨ SqT K H p (ys.map V.str)) ∧
      (ys.map (·.length)).sum + ys.length * a.length ≤ 16777216 ∧ Q (.str (Txt.join a ys)) H) to te) := by subst h; exact pe_join ho he hs hbase hline
theorem pg_tup' {es : List Expr} {k : Nat} {t : TGs} {n : Nat} {pos : Pos} (hK : X.K = K) (hc : X.calm = true) (h : PGs X es t)
    (hn : (assignEach es X.env).length = n := by rfl) (hst : (assignEach es X.env).findIdx? (·.1) = none := by rfl) : PG X (.Tuple es k pos) (gTup K n t) := by subst hK; exact pg_tup hc h hn hst
theorem pe_append' {o e : Expr} {to te : TE} {apos cpos : Pos} (hK : X.K = K) (ho : PE X o to) (ha : PA X [e] (tCons te tNil))
    (hbase : attributeBase o "append" X.env (eval o X.env) = eval o X.env := by rfl)
    (hfew : ((backTo cpos (starEach [e] X.env)).all (fun x => !x.1) && (backToKw cpos (keywordEach [] X.env)).all (fun x => x.1.isSome)
      && decide ([e].length + ([] : List Keyword).length + (if ([] : List Keyword).isEmpty then 0 else 1) < 30)) = true := by rfl)
    (hline : (apos.endLine == cpos.line) = true := by rfl) (hs : starEach [e] X.env = (false, eval e X.env) :: starEach [] X.env := by rfl) (hplain : (backTo cpos (starEach [] X.env)).any (·.1) = false := by rfl) :
    PE X (.Call (.Attribute o "append" apos) [e] [] cpos) (tBM K "list" rAppend to (tCons te tNil)) := by
  subst hK
  exact pe_bm PySem.F.plainAttrs_list PySem.F.slot_list_append PySem.F.type_list_append mt_append ho ha hbase hfew hline hs hplain
end
end G
set_option maxRecDepth 100000
set_option maxHeartbeats 4000000
namespace G
open PySem PySem.Spec PyProof.Rows L2
/-! dicts of our own -/
section
variable {κ : Type} {K : PySem.W.Frag} {B B' H H' : Hp}
def RepD (K : PySem.W.Frag) (B : Hp) : List (κ × D) → List (κ × V) → Prop
  | [], xs => xs = []
  | (k, d) :: ds, xs => ∃ x r, xs = (k, x) :: r ∧ Rep K B d x ∧ RepD K B ds r
theorem RepD.mono (e : Same B B') : ∀ {ds : List (κ × D)} {xs : List (κ × V)}, RepD K B ds xs → RepD K B' ds xs
  | [], _, h => h
  | (k, d) :: ds, _, ⟨x, r, e1, h1, h2⟩ => ⟨x, r, e1, h1.mono e, RepD.mono e h2⟩
theorem RepD.length : ∀ {ds : List (κ × D)} {xs : List (κ × V)}, RepD K B ds xs → xs.length = ds.length
  | [], xs, h => by have h : xs = [] := h; rw [h]; rfl
  | (k, d) :: ds, _, ⟨x, r, e1, h1, h2⟩ => by rw [e1, List.length_cons, List.length_cons, h2.length]
theorem RepD.snoc : ∀ {ds : List (κ × D)} {xs : List (κ × V)} {k : κ} {d : D} {v : V}, RepD K B ds xs → Rep K B d v → RepD K B (ds ++ [(k, d)]) (xs ++ [(k, v)])
  | [], xs, k, d, v, h, g => by have h : xs = [] := h; subst h; exact ⟨v, [], rfl, g, rfl⟩
  | (j, e) :: ds, _, k, d, v, ⟨x, r, e1, h1, h2⟩, g => by subst e1; exact ⟨x, _, rfl, h1, h2.snoc g⟩
variable [DecidableEq κ]
theorem RepD.get : ∀ {ds : List (κ × D)} {xs : List (κ × V)} {k : κ} {d : D}, RepD K B ds xs → (ds.find? fun p => decide (p.1 = k)).map (·.2) = some d → ∃ v, valV xs k = some v ∧ Rep K B d v
  | [], xs, k, d, h, e => by simp at e
  | (j, e0) :: ds, _, k, d, ⟨x, r, e1, h1, h2⟩, e => by
    subst e1
    by_cases q : j = k
    · rw [List.find?_cons_of_pos (by simp [q])] at e
      have e : some e0 = some d := e
      cases e
      exact ⟨x, valV_pos q, h1⟩
    · rw [List.find?_cons_of_neg (by simp [q])] at e
      obtain ⟨v, a, b⟩ := h2.get e
      exact ⟨v, by rw [valV_neg q]; exact a, b⟩
theorem RepD.none : ∀ {ds : List (κ × D)} {xs : List (κ × V)} {k : κ}, RepD K B ds xs → (ds.find? fun p => decide (p.1 = k)).map (·.2) = Option.none → valV xs k = Option.none
  | [], xs, k, h, e => by have h : xs = [] := h; subst h; rfl
  | (j, e0) :: ds, _, k, ⟨x, r, e1, h1, h2⟩, e => by
    subst e1
    by_cases q : j = k
    · rw [List.find?_cons_of_pos (by simp [q])] at e; cases e
    · rw [List.find?_cons_of_neg (by simp [q])] at e
      rw [valV_neg q]; exact h2.none e
def dputD (ds : List (κ × D)) (k : κ) (d : D) : List (κ × D) := if (ds.any fun kv => decide (kv.1 = k)) = true then ds.map (fun kv => if kv.1 = k then (kv.1, d) else kv) else ds ++ [(k, d)]
theorem RepD.any : ∀ {ds : List (κ × D)} {xs : List (κ × V)} {k : κ}, RepD K B ds xs → (xs.any fun kv => decide (kv.1 = k)) = (ds.any fun kv => decide (kv.1 = k))
  | [], xs, k, h => by have h : xs = [] := h; subst h; rfl
  | (j, e0) :: ds, _, k, ⟨x, r, e1, h1, h2⟩ => by subst e1; rw [List.any_cons, List.any_cons, h2.any]
theorem RepD.map : ∀ {ds : List (κ × D)} {xs : List (κ × V)} {k : κ} {d : D} {v : V}, RepD K B ds xs → Rep K B d v → RepD K B (ds.map (fun kv => if kv.1 = k then (kv.1, d) else kv)) (xs.map (fun kv => if kv.1 = k then (kv.1, v) else kv))
  | [], xs, k, d, v, h, _ => by have h : xs = [] := h; subst h; rfl
  | (j, e0) :: ds, _, k, d, v, ⟨x, r, e1, h1, h2⟩, g => by
    subst e1
    have ih := h2.map (k := k) g
    rw [List.map_cons, List.map_cons]
    by_cases q : j = k
    · subst q
      rw [if_pos (show (j, e0).1 = j from rfl), if_pos (show (j, x).1 = j from rfl)]
      exact ⟨v, _, rfl, g, ih⟩
    · rw [if_neg (show ¬ (j, e0).1 = k from q), if_neg (show ¬ (j, x).1 = k from q)]
      exact ⟨x, _, rfl, h1, ih⟩
theorem RepD.put {ds : List (κ × D)} {xs : List (κ × V)} {k : κ} {d : D} {v : V} (h : RepD K B ds xs) (g : Rep K B d v) : RepD K B (dputD ds k d) (putK xs k v) := by
  unfold dputD putK
  rw [h.any]
  split
  · exact h.map g
  · exact h.snoc g
end
/-! typed -/
def dget {α β : Type} [DecidableEq α] (m : List (α × β)) (k : α) : Option β := (m.find? fun p => decide (p.1 = k)).map (·.2)
def dhas {α β : Type} [DecidableEq α] (m : List (α × β)) (k : α) : Bool := m.any fun p => decide (p.1 = k)
def dput {α β : Type} [DecidableEq α] (m : List (α × β)) (k : α) (b : β) : List (α × β) := if dhas m k = true then m.map (fun kv => if kv.1 = k then (kv.1, b) else kv) else m ++ [(k, b)]
def dgetR {α β : Type} [DecidableEq α] (m : List (α × β)) (k : α) : Res β := Res.ofO (dget m k)
section
variable {α β κ : Type} [DecidableEq α] [DecidableEq κ] {ek : α → κ} {em : β → D}
abbrev dmap (ek : α → κ) (em : β → D) (m : List (α × β)) : List (κ × D) := m.map fun p => (ek p.1, em p.2)
theorem dmap_get (hi : ∀ a b, ek a = ek b → a = b) : ∀ (m : List (α × β)) (k : α), ((dmap ek em m).find? fun p => decide (p.1 = ek k)).map (·.2) = (dget m k).map em
  | [], k => rfl
  | (a, b) :: m, k => by
    unfold dget dmap
    rw [List.map_cons]
    by_cases q : a = k
    · subst q
      rw [List.find?_cons_of_pos (by simp), List.find?_cons_of_pos (by simp)]; rfl
    · rw [List.find?_cons_of_neg (by simpa using fun e => q (hi _ _ e)), List.find?_cons_of_neg (by simpa using q)]
      exact dmap_get hi m k
theorem dmap_has (hi : ∀ a b, ek a = ek b → a = b) (m : List (α × β)) (k : α) : ((dmap ek em m).any fun p => decide (p.1 = ek k)) = dhas m k := by
  unfold dhas dmap
  rw [List.any_map]
  congr 1
  funext p
  by_cases q : p.1 = k
  · simp [q]
  · have : ¬ ek p.1 = ek k := fun e => q (hi _ _ e)
    simp [q, this]
theorem dmap_put (hi : ∀ a b, ek a = ek b → a = b) (m : List (α × β)) (k : α) (b : β) : dputD (dmap ek em m) (ek k) (em b) = dmap ek em (dput m k b) := by
  unfold dputD dput
  rw [dmap_has hi]
  split
  · unfold dmap
    rw [List.map_map, List.map_map]
    congr 1
    funext p
    by_cases q : p.1 = k
    · simp [q]
    · have : ¬ ek p.1 = ek k := fun e => q (hi _ _ e)
      simp [q, this]
  · unfold dmap; simp
theorem dget_has (m : List (α × β)) (k : α) : dhas m k = (dget m k).isSome := by
  unfold dhas dget
  induction m with
  | nil => rfl
  | cons p m ih =>
    rw [List.any_cons, ih]
    by_cases q : p.1 = k
    · rw [List.find?_cons_of_pos (by simp [q])]; simp [q]
    · rw [List.find?_cons_of_neg (by simp [q])]; simp [q]
end
structure OwnD {κ : Type} (c : List (κ × V) → HO) (K : PySem.W.Frag) (H0 B H : Hp) (l : Addr) (kvs : List (κ × V)) (ds : List (κ × D)) : Prop where
  n0 : H0 l = none
  b : B l = none
  h : H l = some (c kvs)
  r : RepD K B ds kvs
  p : ∀ x, pl (c x) = true
section
variable {κ : Type} {c : List (κ × V) → HO} {K : PySem.W.Frag} {H0 B B' H H' : Hp} {l : Addr} {kvs : List (κ × V)} {ds : List (κ × D)}
theorem OwnD.grow {S : Addr → Prop} (o : OwnD c K H0 B H l kvs ds) (g : Grow S B H B' H') (hs : ∀ p, S p → H0 p ≠ none) : OwnD c K H0 B' H' l kvs ds :=
  ⟨o.n0, g.own l (by rw [o.h]; exact fun z => by cases z) o.b, g.keep l _ (fun z => hs l z o.n0) (pl_nt (o.p _)) o.h, o.r.mono g.bb, o.p⟩
theorem OwnD.other {p : Addr} {u : HO} (o : OwnD c K H0 B H l kvs ds) (n : l ≠ p) : OwnD c K H0 B (upd H p u) l kvs ds := ⟨o.n0, o.b, by rw [upd_ne n]; exact o.h, o.r, o.p⟩
theorem OwnD.put {kvs' : List (κ × V)} {es : List (κ × D)} (o : OwnD c K H0 B H l kvs ds) (r : RepD K B es kvs') : OwnD c K H0 B (upd H l (c kvs')) l kvs' es := ⟨o.n0, o.b, upd_same, r, o.p⟩
theorem OwnD.fz {p : Addr} (o : OwnD c K H0 B H l kvs ds) (e : Same B B') (hq : ∀ q, q ≠ p → B' q = B q) (n : l ≠ p) : OwnD c K H0 B' H l kvs ds := ⟨o.n0, (hq l n).trans o.b, o.h, o.r.mono e, o.p⟩
theorem OwnD.new {S : Addr → Prop} {B0 : Hp} (w : Grow S B0 H0 B H) (hn : H l = none) (r : RepD K B ds kvs) (hc : ∀ x, pl (c x) = true) : OwnD c K H0 B (upd H l (c kvs)) l kvs ds :=
  ⟨by
    cases q : H0 l with
    | none => rfl
    | some o => exact absurd hn (w.dom l (by rw [q]; exact fun z => by cases z)), same_free w.bh hn, upd_same, r, hc⟩
variable {α β : Type} [DecidableEq α] {em : β → D}
theorem SrcAt.mutD {a c' : Addr} {s : Src} {u : HO} (x : SrcAt a c' B H s) (o : OwnD c K H0 B H l kvs ds) (hsd : ∀ p, Sx a c' p → H0 p ≠ none) : SrcAt a c' B (upd H l u) s :=
  ⟨by rw [upd_ne (fun z => hsd a (.inl rfl) (by rw [z]; exact o.n0))]; exact x.hd, by rw [upd_ne (fun z => hsd c' (.inr rfl) (by rw [z]; exact o.n0))]; exact x.cl, x.ba, x.bc, x.ne⟩
theorem inl_inj : ∀ a b : Int, (Sum.inl a : Key) = Sum.inl b → a = b := fun _ _ h => Sum.inl.inj h
theorem inr_inj : ∀ a b : Str, (Sum.inr a : Key) = Sum.inr b → a = b := fun _ _ h => Sum.inr.inj h
theorem dgetR_ok {α β : Type} [DecidableEq α] {m : List (α × β)} {k : α} {b : β} (h : dgetR m k = .ok b) : dget m k = some b := by
  unfold dgetR at h
  cases q : dget m k with
  | none => rw [q] at h; cases h
  | some z => rw [q] at h; cases h; rfl
/-- k in d, d[k] -/
theorem dk_has {ek : α → Key} (hi : ∀ a b, ek a = ek b → a = b) {m : List (α × β)} {kvs : List (Key × V)} (o : OwnD HO.dK K H0 B H l kvs (dmap ek em m)) (k : α) : ∃ r, DGet H l (kV (ek k)) r ∧ r.isSome = dhas m k := by
  refine ⟨_, DGet.k o.h, ?_⟩
  rw [dget_has]
  have z := dmap_get (em := em) hi m k
  cases q : dget m k with
  | none => rw [q] at z; rw [o.r.none (by rw [z]; rfl)]; rfl
  | some b =>
    rw [q] at z
    obtain ⟨v, h1, _⟩ := o.r.get (by rw [z]; rfl)
    rw [h1]; rfl
theorem dk_get {ek : α → Key} (hi : ∀ a b, ek a = ek b → a = b) {m : List (α × β)} {kvs : List (Key × V)} (o : OwnD HO.dK K H0 B H l kvs (dmap ek em m)) {k : α} {b : β} (h : dgetR m k = .ok b) : ∃ v, DGet H l (kV (ek k)) (some v) ∧ Rep K B (em b) v := by
  have z := dmap_get (em := em) hi m k
  rw [dgetR_ok h] at z
  obtain ⟨v, h1, h2⟩ := o.r.get z
  exact ⟨v, by rw [← h1]; exact DGet.k o.h, h2⟩
theorem dk_put {ek : α → Key} (hi : ∀ a b, ek a = ek b → a = b) {m : List (α × β)} {kvs : List (Key × V)} (o : OwnD HO.dK K H0 B H l kvs (dmap ek em m)) {k : α} {b : β} {v : V} (g : Rep K B (em b) v) : RepD K B (dmap ek em (dput m k b)) (putK kvs (ek k) v) := by
  rw [← dmap_put hi]; exact o.r.put g
theorem ownd_lt {ek : α → κ} {m : List (α × β)} (o : OwnD c K H0 B H l kvs (dmap ek em m)) (h : m.length < 100000) : kvs.length < sizeLine := by
  rw [o.r.length]; unfold dmap; rw [List.length_map]; exact lt_line h
end
end G
set_option maxRecDepth 100000
set_option maxHeartbeats 4000000
namespace G
open PySem PySem.Spec PyProof.Rows L2 RZ
/-! enumerate(tuple) -/
theorem meets_enumerate_newT (l : Addr) (items : Array Value) (n : Nat) (dct : Option Addr) (sl : Array (Option Value)) :
    Meets (Builtin.«enumerate.__new__» ⟨[.type "enumerate", .ref l], []⟩) (fun _ R s => s.heap.get? l = some { cls := .type "tuple", dict := dct, data := .seq items n, slots := sl } ∧
      R (.ok (.ret (.ref (s.heap.push { cls := .type "tuple_iterator", data := .fields #[.ref l, .int 0 0] }).objs.size)))
        { s with heap := (s.heap.push { cls := .type "tuple_iterator", data := .fields #[.ref l, .int 0 0] }).push { cls := .type "enumerate", data := .fields #[.none, .bool false, .ref s.heap.objs.size, rawInt 0, .none, .none] } }) :=
  .of_wp fun prog w A R s h => by
    obtain ⟨hp, g, d, tk, os⟩ := s; obtain ⟨hl, h⟩ := h
    have hsub := sub_enumerate
    have hL : Heap.IsTuple (Shared.heap ⟨hp, g, d, tk, os⟩) l items := ⟨_, hl, rfl, n, rfl⟩
    wp_walk using wpAny_loadPart' hl
    refine wpAny_stack_any fun st => wpAny_pure ?_
    split
    · rename_i c _ _ _ _ _
      cases (c == Value.type "enumerate")
      · wp_walk using wpAny_loadPart' hl, wpAny_pyIter_tuple hL
        exact ⟨_, rfl, h⟩
      · wp_walk using wpAny_loadPart' hl, wpAny_pyIter_tuple hL
        exact ⟨_, rfl, h⟩
    · wp_walk using wpAny_loadPart' hl, wpAny_pyIter_tuple hL
      exact ⟨_, rfl, h⟩
section
variable {prog : Program} {w : World} {A : Around} {E : Value → Shared → Prop} {s : Shared}
theorem call_enumerate_tup {l : Addr} {items : Array Value} {Q : Value → Shared → Prop} (hL : s.heap.IsTuple l items)
    (h : ∀ h', IsEnum h' (s.heap.objs.size + 1) s.heap.objs.size 0 .none → h'.IsTupleIter s.heap.objs.size l 0 → h'.objs.size = s.heap.objs.size + 2 →
      (∀ b o, s.heap.get? b = some o → h'.get? b = some o) → Q (.ref (s.heap.objs.size + 1)) { s with heap := h' }) :
    wpAny (model prog w) A (call (.type "enumerate") [.ref l]) Q E s := by
  obtain ⟨⟨c, dct, dt, sl⟩, hl, hc, n, hd⟩ := hL
  replace hc : c = .type "tuple" := hc
  replace hd : dt = .seq items n := hd
  subst hc hd
  refine callType_new F.called_enumerate (by decide) (F.typeCall_enumerate_1 _) (F.newCall_enumerate_1 _) (fun obj => F.args_object_init_2 obj _) F.entry_enumerate_new
    (meets_enumerate_newT l items n dct sl) ⟨hl, ?_⟩
  have hz : (s.heap.push { cls := .type "tuple_iterator", data := .fields #[.ref l, .int 0 0] }).objs.size = s.heap.objs.size + 1 := Heap.size_push ..
  show _ ∧ _
  rw [hz]
  have he : IsEnum ((s.heap.push { cls := .type "tuple_iterator", data := .fields #[.ref l, .int 0 0] }).push
      { cls := .type "enumerate", data := .fields #[.none, .bool false, .ref s.heap.objs.size, rawInt 0, .none, .none] }) (s.heap.objs.size + 1) s.heap.objs.size 0 .none := by
    have := Heap.get?_push_size (s.heap.push { cls := .type "tuple_iterator", data := .fields #[.ref l, .int 0 0] })
      (o := { cls := .type "enumerate", data := .fields #[.none, .bool false, .ref s.heap.objs.size, rawInt 0, .none, .none] }) rfl
    rw [hz] at this; exact this
  refine ⟨⟨_, he, rfl⟩, h _ he ⟨_, Heap.get?_push_of_some _ (Heap.get?_push_size _ rfl), rfl, rfl⟩ (by rw [Heap.size_push, hz]) fun b o x => Heap.get?_push_of_some _ (Heap.get?_push_of_some _ x)⟩
end
def IteT (K : PySem.W.Frag) (a : Addr) : It :=
  ⟨fun i H => ∃ (xs : List V) (x : V), SqT K H a xs ∧ xs[i]? = some x, fun i H v H' => ∃ T x, v = .ref T ∧ H T = none ∧ H' = upd H T (.tup [.int (i : Nat), x]) ∧ ∀ xs, SqT K H a xs → xs[i]? = some x, fun i H => ∃ xs : List V, SqT K H a xs ∧ xs.length = i⟩
theorem turn_enumT {P : Program} {w : World} {K : PySem.W.Frag} {elts : List Expr} {kk : Nat} {tpos : Pos} (a e it : Addr) (hai : a ≠ it) (hae : a ≠ e) :
    Turn P w K (.Tuple elts kk tpos) (IteT K a) [e, it] e (fun i h => (∃ old, IsEnum h e it ((i : Nat) : Int) old) ∧ h.IsTupleIter it a i ∧ e ≠ it) where
  mem := by simp
  obj := fun i h st b hb => by
    obtain ⟨⟨old, he⟩, ⟨o, ho, hc, hd⟩, _⟩ := st
    have e' : b = e ∨ b = it := by simpa using hb
    rcases e' with z | z
    · rw [z]; exact ⟨_, he, fun v q => nomatch q⟩
    · rw [z]; exact ⟨o, ho, fun v q => by rw [hd] at q; cases q⟩
  keep := fun i h h' st k => let ⟨⟨old, he⟩, hi, hne⟩ := st; ⟨⟨old, k e (by simp) _ he⟩, hi.at fun o q => k it (by simp) o q, hne⟩
  item := by
    intro X hP hw hK hc i pins s σ H E I hf st hg
    subst hP hw hK
    obtain ⟨⟨old, he⟩, hit, hne⟩ := st
    obtain ⟨xs, x, hq, hx⟩ := hg
    obtain ⟨its, rv, p, hz⟩ := I.tuple hq
    obtain ⟨u, hu, ru⟩ := rv.get hx
    have hel : e < s.heap.objs.size := Heap.lt_size he
    have hil : it < s.heap.objs.size := by obtain ⟨_, q, _⟩ := hit; exact Heap.lt_size q
    have hlt : i < its.toArray.size := by
      have := (List.getElem?_eq_some_iff.mp hu).1
      simpa using this
    refine wpAny_pyNext_enum_itemD (Draws.tuple (show X.A.in1.handled = none from I.ok.hd hc) it a hai its.toArray) he ⟨hit, p⟩ hlt hne (by simp [hne, Ne.symm hae]) fun y h' tk hy ho hit' hT hsz hk => ?_
    have ey : y = u := by
      have h1 : its.toArray[i]? = some y := hy
      have h2 : its.toArray[i]? = some u := by simpa using hu
      rw [h1] at h2; exact Option.some.inj h2
    subst ey
    refine ⟨_, rfl, wpAny_letOwnedTupleGo_enum (s := { s with heap := h', toks := tk + 1 }) ho fun h'' he' sb => ?_⟩
    have hT2 : h''.get? s.heap.objs.size = some { cls := .type "tuple", data := .seq #[.int i tk, y] } := (sb.2 _ (Nat.ne_of_gt hel)).trans hT
    have new : ObjOk X.prog X.w (upd H s.heap.objs.size (.tup [.int (i : Nat), x])) h'' s.heap.objs.size (.tup [.int (i : Nat), x]) :=
      ⟨by show 2 ≤ sizeLine; decide, [.int i tk, y], .cons ⟨_, rfl⟩ (.cons ru .nil), ⟨_, hT2, rfl, _, rfl⟩⟩
    have I1 : Inv X pins σ (upd H s.heap.objs.size (.tup [.int (i : Nat), x])) { s with heap := h'', toks := tk + 1 } :=
      I.turnedNew (ch := [e, it]) (fun b ob hb q => (sb.2 b (fun z => hb (by simp [z]))).trans (hk b ob (fun z => hb (by simp [z])) (fun z => hb (by simp [z])) q)) hf (Nat.le_refl _) new
    refine ⟨.ref s.heap.objs.size, _, I1, rfl, ⟨_, x, rfl, I.hok.fresh (Nat.le_refl _), rfl, fun ys hy => by rw [I.tuple_inj hy hq]; exact hx⟩, ⟨⟨y, ?_⟩, hit'.1.at fun o q => (sb.2 it (Ne.symm hne)).trans q, hne⟩, fun b hb => ?_⟩
    · have e1 : ((i + 1 : Nat) : Int) = (i : Int) + 1 := by omega
      rw [e1]; exact he'
    · have hb' : b < s.heap.objs.size := by
        have e' : b = e ∨ b = it := by simpa using hb
        rcases e' with z | z
        · rw [z]; exact hel
        · rw [z]; exact hil
      rw [upd_ne (Nat.ne_of_lt hb')]
      exact (hf b hb).1
  done := by
    intro X hP hw hK hc i pins s σ H E I hf st hg
    subst hP hw hK
    obtain ⟨⟨old, he⟩, hit, hne⟩ := st
    obtain ⟨xs, hq, hx⟩ := hg
    obtain ⟨its, rv, p, hz⟩ := I.tuple hq
    obtain ⟨f0, f1, f2, f3, f4, f5⟩ := hf it (by simp)
    have hl := rv.length
    have hle : its.toArray.size = i := by simp; omega
    exact wpAny_pyNext_enum_endD (Draws.tuple (show X.A.in1.handled = none from I.ok.hd hc) it a hai its.toArray) he ⟨by rw [hle]; exact hit, p⟩ fun h' eb => ⟨rfl, I.turned (t' := s.toks) (fun b o hb q => eb b o hb q) f0 f1 f3 f4 f5⟩
  self := fun A i s Q E st h => let ⟨⟨_, he⟩, _⟩ := st; wpAny_pyIter_enum he h
def iEnumT (K : PySem.W.Frag) (ta : TA) : TI := fun σ H R => ta σ H fun vs H1 => ∃ a xs, vs = [.ref a] ∧ SqT K H1 a xs ∧ R (IteT K a) H1
theorem pi_enumT {X : Cx} {e : Expr} {ta : TA} {p pos tpos : Pos} {elts : List Expr} {kk : Nat} (hg : Gl X "enumerate") (hm : X.mg "enumerate" = none) (ha : PA X [e] ta) (hs : starEach [e] X.env = [(false, eval e X.env)] := by rfl) :
    PI X (.Tuple elts kk tpos) (.Call (.Name "enumerate" p) [e] [] pos) (iEnumT X.K ta) := by
  refine ⟨fun pins s σ H R I h => ?_⟩
  refine Call_ (ld_blt I hg hm boot_enumerate (PyProof.Rows.callWith_type1 (thn (ha.run pos pins s σ H _ I h) fun us s1 ⟨vs, H1, I1, r1, q1⟩ => ?_) hs rfl))
  obtain ⟨a, xs, ex, hq, q⟩ := q1
  subst ex
  cases r1 with
  | cons r rr =>
    cases rr
    cases r
    obtain ⟨its, rv, p', hz⟩ := I1.tuple hq
    have hal : a < s1.heap.objs.size := by obtain ⟨_, q, _⟩ := p'; exact Heap.lt_size q
    refine call_enumerate_tup p' fun h' he hit hsz hk => wpAny_pyIter_enum he ?_
    have I2 : Inv X pins σ H1 { s1 with heap := h' } := I1.kept (t' := s1.toks) hk
    refine ⟨s1.heap.objs.size + 1, [s1.heap.objs.size + 1, s1.heap.objs.size], _, _, H1, rfl, I2, turn_enumT a (s1.heap.objs.size + 1) s1.heap.objs.size (Nat.ne_of_lt hal) (Nat.ne_of_lt (Nat.lt_succ_of_lt hal)), ⟨⟨.none, he⟩, hit, Nat.succ_ne_self _⟩, fun b hb => ?_, q⟩
    have e' : b = s1.heap.objs.size + 1 ∨ b = s1.heap.objs.size := by simpa using hb
    have hle : s1.heap.objs.size ≤ b := by
      rcases e' with z | z
      · rw [z]; exact Nat.le_add_right _ _
      · rw [z]; exact Nat.le_refl _
    exact I1.fpOk hle (I1.hok.fresh hle)
section
variable {X : Cx} {K : PySem.W.Frag} {e e2 : Expr} {ta : TA} {p pos tpos : Pos} {elts : List Expr} {kk : Nat}
theorem pi_enumT' (h : X.K = K) (hg : Gl X "enumerate") (hm : X.mg "enumerate" = none) (ha : PA X [e] ta) (hs : starEach [e] X.env = [(false, eval e X.env)] := by rfl) :
    PI X (.Tuple elts kk tpos) (.Call (.Name "enumerate" p) [e] [] pos) (iEnumT K ta) := by subst h; exact pi_enumT hg hm ha hs
theorem pi_enum' (h : X.K = K) (hg : Gl X "enumerate") (hm : X.mg "enumerate" = none) (ha : PA X [e] ta) (hs : starEach [e] X.env = [(false, eval e X.env)] := by rfl) :
    PI X (.Tuple elts kk tpos) (.Call (.Name "enumerate" p) [e] [] pos) (iEnum K ta) := by subst h; exact pi_enum hg hm ha hs
theorem pi_zipA' (h : X.K = K) (hg : Gl X "zip") (hm : X.mg "zip" = none) (ha : PA X [e, e2] ta)
    (hs : starEach [e, e2] X.env = (false, eval e X.env) :: starEach [e2] X.env := by rfl) (hpl : (backTo pos (starEach [e2] X.env)).any (·.1) = false := by rfl) :
    PI X (.Tuple elts kk tpos) (.Call (.Name "zip" p) [e, e2] [] pos) (iZipA K ta) := by subst h; exact pi_zipA hg hm ha hs hpl
variable {a b : Addr} {xs ys : List V}
theorem walk_enumT : Walk (IteT K a) xs.length (fun H => SqT K H a xs) (YPair (fun i => some (.int (i : Nat))) (fun i => xs[i]?)) := by
  refine ⟨fun i _ hi q => ⟨xs, xs[i], q, by simp [hi]⟩, fun _ q => ⟨xs, q, rfl⟩, fun i H v H' _ q y => ?_⟩
  obtain ⟨T, x, h1, h2, h3, h4⟩ := y
  exact ⟨T, .int (i : Nat), x, h1, h2, h3, rfl, h4 xs q⟩
theorem walk_zipT {n : Nat} (hn : n = min xs.length ys.length) : Walk (ItzT K a b) n (fun H => SqT K H a xs ∧ SqT K H b ys) (YPair (fun i => xs[i]?) (fun i => ys[i]?)) := by
  subst hn
  refine ⟨fun i _ hi q => ?_, fun _ q => ⟨xs, ys, q.1, q.2, by omega⟩, fun i H v H' _ q y => ?_⟩
  · have h1 : i < xs.length := by omega
    have h2 : i < ys.length := by omega
    exact ⟨xs, ys, xs[i], ys[i], q.1, q.2, by simp [h1], by simp [h2]⟩
  · obtain ⟨T, x, z, h1, h2, h3, h4, h5⟩ := y
    exact ⟨T, x, z, h1, h2, h3, h4 xs q.1, h5 ys q.2⟩
end
/-! pairs -/
def enumL {α : Type} (l : List α) : List (Int × α) := (List.range l.length).map (fun (i : Nat) => (i : Int)) |>.zip l
theorem enumL_at {α : Type} {l : List α} {i : Nat} {a : α} (h : l[i]? = some a) : (enumL l)[i]? = some ((i : Int), a) := by
  obtain ⟨hi, e⟩ := List.getElem?_eq_some_iff.mp h
  unfold enumL
  rw [List.getElem?_zip_eq_some]
  refine ⟨?_, h⟩
  rw [List.getElem?_map, List.getElem?_range hi]; rfl
theorem enumL_len {α : Type} (l : List α) : (enumL l).length = l.length := by unfold enumL; simp
theorem zip_at {α β : Type} {l : List α} {m : List β} {i : Nat} {a : α} {b : β} (h : l[i]? = some a) (g : m[i]? = some b) : (l.zip m)[i]? = some (a, b) := List.getElem?_zip_eq_some.mpr ⟨h, g⟩
theorem zip_len {α β : Type} {K : PySem.W.Frag} {B B' : Hp} {ea : α → D} {eb : β → D} {l : List α} {m : List β} {xs ys : List V} (r : RepL K B (l.map ea) xs) (r' : RepL K B' (m.map eb) ys) : (l.zip m).length = min xs.length ys.length := by
  rw [List.length_zip, r.lenm, r'.lenm]
end G
set_option maxRecDepth 100000
set_option maxHeartbeats 4000000
namespace G
open PySem PySem.Spec PyProof.Rows L2 LamX
/-! a lambda with parameters, handed to a def -/
/-- the heap behind the making of a lambda -/
def MadeAt (P : Addr) (H H2 : Hp) : Prop := H2 = H ∨ ∃ ps more c u, H P = some (.tbl ps) ∧ H c = none ∧ H2 = upd (upd H P (.tbl (ps ++ more))) c u
theorem MadeAt.grow {P : Addr} {B H H2 : Hp} (m : MadeAt P H H2) (bh : Same B H) (bP : B P = none) (t2 : TabG H P → TabG H2 P) (un : ∀ P', TabG H P' → P' ≠ P → TabG H2 P') : Grow S0 B H B H2 := by
  have tab : ∀ P', TabG H P' → TabG H2 P' := fun P' t => by
    by_cases z : P' = P
    · subst z; exact t2 t
    · exact un P' t z
  rcases m with rfl | ⟨ps, more, c, u, hP, hc, rfl⟩
  · exact Grow.refl bh
  have bc := same_free bh hc
  have nPc : P ≠ c := ne_of_none hP hc
  refine ⟨Same.refl _, fun a o e => ?_, fun a o _ t e => ?_, fun _ _ e => e, fun a n => ?_, tab⟩
  · rw [upd_ne (ne_of_none e bc), upd_ne (ne_of_none e bP)]; exact bh a o e
  · rw [upd_ne (ne_of_none e hc), upd_ne (fun z => by rw [z, hP] at e; cases e; cases t)]; exact e
  · rw [upd_ne (fun z => n (by rw [z]; exact hc))]
    by_cases z : a = P
    · rw [z, upd_same]; exact fun q => by cases q
    · rw [upd_ne z]; exact n
theorem MadeAt.un {P P' : Addr} {H H2 : Hp} (m : MadeAt P H H2) (t : TabG H P') (n : P' ≠ P) : TabG H2 P' := by
  rcases m with rfl | ⟨ps, more, c, u, hP, hc, rfl⟩
  · exact t
  obtain ⟨qs, h1, ht, ha⟩ := t
  refine ⟨qs, by rw [upd_ne (ne_of_none h1 hc), upd_ne n]; exact h1, ht, fun pos cv z => ?_⟩
  obtain ⟨c0, e1, e2⟩ := ha pos cv z
  exact ⟨c0, e1, by rw [upd_ne (ne_of_none e2 hc), upd_ne (fun z => by rw [z, hP] at e2; exact codeO_ne _ (Option.some.inj e2).symm)]; exact e2⟩
section
variable {X : Cx} {pins : List (Addr × Obj)} {σ : L2.St} {H : Hp} {s : Shared}
/-- the lambda is made: its code object is new, or found in the table -/
theorem lam_makeP {c P : Addr} {params : Arguments} {body : Expr} {scope : Scope} {pos : Pos} {E : Value → Shared → Prop} {Q : Value → Shared → Prop} (I : Inv X pins σ H s) (TB : TabB X.base X.mg c P) (hcode : X.env.code = .ref c)
    (hn : nmG pos.line pos.col = X.env.qual ++ "<lambda>") (hT : TabG H P) (hdef : defaultsOf params X.env = ([], [])) (hfree : ∀ y ∈ scope.names, y.2 = .free → ∃ c, X.env.cells.lookup y.1 = some c)
    (h : ∀ (f c' : Addr) (pm ctv : Value) (H1 : Hp) (s' : Shared), Inv X pins σ H1 s' → MadeAt P H H1 → TabG H1 P →
      s'.heap.get? f = some (PySem.W.kla_obj "<lambda>" (X.env.qual ++ "<lambda>") params body scope (cloFrom X.env.cells scope.names []) pm c' ctv) → H1 f = none → f ∉ frs X.stack → H1 c' = some (CodeO c' (X.env.qual ++ "<lambda>")) → Q (.ref f) s') :
    wpAny (model X.prog X.w) X.A (eval (.Lambda params body scope pos) X.env) Q E s := by
  obtain ⟨ps, hP, ht, ha⟩ := hT
  refine PySem.W.kla_eval hdef ?_
  have bP : s.heap.BuiltinsAt X.mg P := TB.bm.keeps I.bk
  have hP' : s.heap.get? P = some { cls := .none, data := .fields ps } := I.hok P _ hP
  have nofr : ∀ f, s.heap.objs.size ≤ f → f ∉ frs X.stack := fun f hf z => by
    rcases List.mem_cons.mp (I.stkSub _ z) with e | e
    · have h1 := I.lt
      rw [← e] at h1
      exact Nat.lt_irrefl _ (Nat.lt_of_lt_of_le h1 hf)
    · exact I.nofs hf e
  cases hc : codeAmong pos ps.toList with
  | none =>
    refine PySem.W.kla_makeFunction (mg := X.mg) (c := c) (P := P) (ps := ps) (closure_ok hfree) I.ok.glob (I.mod.glob.keeps I.bk) hcode (TB.code.keeps I.bk) hP' ht hc TB.gP bP fun c' ctv h' tk hx hge hlt hrec htb => ?_
    obtain ⟨c2, oc, vs, t, e2, hoc, hd, hv⟩ := hrec
    cases e2
    have hsz : s.heap.objs.size ≤ h'.objs.size := Nat.le_trans hge (Nat.le_of_lt hlt)
    have nC : H c' = none := I.hok.fresh hge
    have nPc : P ≠ c' := ne_of_none hP nC
    have I1 := inv_table (t' := tk) (more := #[rawInt pos.line, rawInt pos.col, .ref c']) (h' := h'.push (PySem.W.kla_obj "<lambda>" (X.env.qual ++ "<lambda>") params body scope (cloFrom X.env.cells scope.names []) ((X.mg "__name__").getD .none) c' ctv)) I hP
      (fun b o hb e => Heap.get?_push_of_some _ (hx b o hb e)) (Heap.get?_push_of_some _ htb) hge ⟨oc, vs, t, Heap.get?_push_of_some _ hoc, hd, hv⟩
    have eL : (ps ++ #[rawInt pos.line, rawInt pos.col, .ref c']).toList = ps.toList ++ [rawInt pos.line, rawInt pos.col, .ref c'] := by simp
    refine h h'.objs.size c' ((X.mg "__name__").getD .none) ctv _ _ I1 (.inr ⟨ps, _, c', _, hP, nC, rfl⟩) ⟨_, by rw [upd_ne nPc, upd_same], by rw [eL]; exact PySem.TriplesOk_snoc _ _ _ _ ht, fun p' cv hcv => ?_⟩ (Heap.get?_push_size _ rfl) ?_ (nofr _ hsz) upd_same
    · rw [eL] at hcv
      rcases NdefX.among_app2 _ ht hcv with z | ⟨z, z1, z2⟩
      · obtain ⟨c0, e1, e2⟩ := ha p' cv z
        exact ⟨c0, e1, by rw [upd_ne (ne_of_none e2 nC), upd_ne (fun z => by rw [z, hP] at e2; exact codeO_ne _ (Option.some.inj e2).symm)]; exact e2⟩
      · refine ⟨c', z, ?_⟩
        rw [← z1, ← z2, hn]
        exact upd_same
    · have n1 : h'.objs.size ≠ c' := Nat.ne_of_gt hlt
      have n2 : h'.objs.size ≠ P := Nat.ne_of_gt (Nat.lt_of_lt_of_le (Heap.lt_size hP') hsz)
      rw [upd_ne n1, upd_ne n2]
      exact I.hok.fresh hsz
  | some cv =>
    obtain ⟨c', e, hco⟩ := ha pos cv hc
    subst e
    rw [hn] at hco
    refine PySem.W.kla_makeFunctionHit (mg := X.mg) (c := c) (P := P) (ps := ps) (closure_ok hfree) I.ok.glob (I.mod.glob.keeps I.bk) hcode (TB.code.keeps I.bk) hP' ht hc bP fun ctv h' tk hx hsz => ?_
    have I1 : Inv X pins σ H { s with heap := h'.push (PySem.W.kla_obj "<lambda>" (X.env.qual ++ "<lambda>") params body scope (cloFrom X.env.cells scope.names []) ((X.mg "__name__").getD .none) c' ctv), toks := tk } := I.kept fun b o e => Heap.get?_push_of_some _ (hx b o e)
    exact h h'.objs.size c' ((X.mg "__name__").getD .none) ctv H _ I1 (.inl rfl) ⟨ps, hP, ht, ha⟩ (Heap.get?_push_size _ rfl) (I.hok.fresh hsz) (nofr _ hsz) hco
end
/-- its names: parameters, captured ones, globals -/
structure LamP (sc scope : Scope) (N ps : List Str) : Prop where
  kind : scope.kind = .function
  co : scope.isCoroutine = false
  gen : scope.isGenerator = false
  nocell : ∀ y ∈ scope.names, y.2 ≠ .cell
  loc : ∀ y ∈ scope.names, y.2 = .local → y.1 ∈ ps
  par : ∀ x ∈ ps, scope.names.lookup x = some .local
  free : ∀ y ∈ scope.names, y.2 = .free → sc.names.lookup y.1 = some .cell ∨ sc.names.lookup y.1 = some .free
  nd : ps.Nodup
  dis : ∀ x ∈ ps, x ∉ N
def lamPB (sc scope : Scope) (N ps : List Str) : Bool :=
  decide (scope.kind = .function) && !scope.isCoroutine && !scope.isGenerator && (scope.names.all fun y => !decide (y.2 = .cell)) && (scope.names.all fun y => !decide (y.2 = .local) || decide (y.1 ∈ ps)) && (ps.all fun x => decide (scope.names.lookup x = some .local)) &&
    (scope.names.all fun y => !decide (y.2 = .free) || (decide (sc.names.lookup y.1 = some .cell) || decide (sc.names.lookup y.1 = some .free))) && decide ps.Nodup && ps.all fun x => !decide (x ∈ N)
theorem lamP_by {sc scope : Scope} {N ps : List Str} (h : lamPB sc scope N ps = true) : LamP sc scope N ps := by
  unfold lamPB at h
  simp only [Bool.and_eq_true, Bool.or_eq_true, Bool.not_eq_true', decide_eq_true_eq, decide_eq_false_iff_not, List.all_eq_true] at h
  obtain ⟨⟨⟨⟨⟨⟨⟨⟨h1, h2⟩, h3⟩, h4⟩, h5⟩, h6⟩, h7⟩, h8⟩, h9⟩ := h
  exact ⟨h1, h2, h3, h4, fun y hy e => (h5 y hy).elim (fun z => absurd e z) id, h6, fun y hy e => (h7 y hy).elim (fun z => absurd e z) id, h8, h9⟩
/-- the context of its body, entered at s from the frames outer -/
def lamCxP (X : Cx) (A : Around) (outer : List Env) (s : Shared) (H : Hp) (scope : Scope) (f c' : Addr) (ps : List Str) : Cx where
  prog := X.prog
  w := X.w
  K := X.K
  mg := X.mg
  base := X.base
  A := A.deeper (lamEnv X scope s.heap.objs.size f c')
  N := X.N ++ ps
  s_0 := s
  H_0 := H
  env := lamEnv X scope s.heap.objs.size f c'
  outer := outer
  stack := lamEnv X scope s.heap.objs.size f c' :: outer
  ex := []
  fn := fun _ => false
  calm := true
  pn := []
  xe := fun _ _ => False
section
variable {X : Cx} {pins : List (Addr × Obj)} {σ : L2.St} {H HZ : Hp} {s s1 : Shared}
theorem lamP_has {scope : Scope} {ps : List Str} (L : LamP X.env.scope scope X.N ps) (ok : X.Ok) : ∀ y ∈ scope.names, y.2 = .free → ∃ c, X.env.cells.lookup y.1 = some c := fun y hy e => by
  rcases L.free y hy e with k | k
  · exact ok.has _ (.inl k)
  · exact ok.has _ (.inr k)
theorem lam_startP {A : Around} {outer : List Env} {scope : Scope} {f c' : Addr} {h₁ : Heap} {tk : Nat} {ps : List Str} {us : List Value} {vs : List V} (I : Inv X pins σ H s) (L : LamP X.env.scope scope X.N ps) (e0 : Env0 X.prog X.w X.K X.mg X.base A outer s1 HZ) (hd : A.handled = none)
    (un : Un (frs X.stack) [] H HZ s.heap s1.heap) (hns : h₁.Ns s1.heap.objs.size fun y => (ps.zip us).reverse.lookup y) (kp : ∀ b o, s1.heap.get? b = some o → h₁.get? b = some o) (r : Vals vs us) (hl : vs.length = ps.length) :
    Inv (lamCxP X A outer s1 HZ scope f c' ps) [] (σ ++ vs.map some) HZ { s1 with heap := h₁, toks := tk } := by
  have hfree := lamP_has L I.ok
  have cm : ∀ {y c}, (cloFrom X.env.cells scope.names []).lookup y = some c → X.env.cells.lookup y = some c := fun {y c} e => NdefX.clo_cm hfree e
  have look : ∀ {y}, scope.names.lookup y = some .free → ∃ c, (cloFrom X.env.cells scope.names []).lookup y = some c := fun {y} hl => by
    have hy : (y, NameKind.free) ∈ scope.names := PySem.mem_of_lookup hl
    exact mem_lookup (cloFrom_has (cells := X.env.cells) (acc := []) hy)
  have cellK : ∀ {c : Addr} {v : Option Value}, H c = none → s.heap.IsCell c v → h₁.IsCell c v := fun {c v} n ⟨o, ho, hd⟩ => by
    obtain ⟨sl, q⟩ := un.any ho n (by simp)
    exact ⟨_, kp _ _ q, hd⟩
  have noA : ∀ b : Addr, b ∉ (lamCxP X A outer s1 HZ scope f c' ps).ex := fun b z => absurd (show b ∈ ([] : List Addr) from z) (by simp)
  refine ⟨⟨e0.mod, L.kind, rfl, rfl, Nat.le_refl _, fun y z c e1 e2 => I.ok.inj y z c (cm e1) (cm e2), fun y hy => ?_, fun y c z _ => ?_, fun _ => hd, Around.frames_deeper e0.frames, .inr ⟨rfl, rfl⟩, fun b z => absurd z (noA b), e0.bs, e0.bsz, fun b _ _ => noA b,
      fun b z => absurd z (noA b), e0.funs, e0.frf⟩,
    rfl, e0.bare, Un.kept kp, ⟨_, hns, fun i y v e1 e2 e3 => ?_⟩, fun y c e => ?_, e0.hok.fresh (Nat.le_refl _), fun y c e => ?_, fun q hq => absurd (show q ∈ ([] : List (Addr × Obj)) ++ [] from hq) (by simp), e0.hok.kept kp, ?_⟩
  · have hy : scope.names.lookup y = some .cell ∨ scope.names.lookup y = some .free := hy
    rcases hy with hy | hy
    · exact absurd rfl (L.nocell _ (PySem.mem_of_lookup hy))
    · exact look hy
  · have z : false = true := z
    cases z
  · have e3 : Vis scope y := e3
    have e1 : (X.N ++ ps)[i]? = some y := e1
    have lenN := I.len
    by_cases hi : i < X.N.length
    · rw [List.getElem?_append_left hi] at e1
      rw [List.getElem?_append_left (by rw [lenN]; exact hi)] at e2
      rcases e3 with k | k | k
      · exact absurd (List.mem_of_getElem? e1) (L.dis _ (L.loc _ (PySem.mem_of_lookup k) rfl))
      · exact absurd rfl (L.nocell _ (PySem.mem_of_lookup k))
      · obtain ⟨m, hn, hlk⟩ := I.loc
        have hvis : Vis X.env.scope y := (L.free _ (PySem.mem_of_lookup k) rfl).elim (fun k => .inr (.inl k)) (fun k => .inr (.inr k))
        obtain ⟨w', r, q⟩ := hlk i y v e1 e2 hvis
        obtain ⟨c2, h2⟩ := look k
        refine ⟨w', r, .inr ⟨.inr k, c2, h2, ?_⟩⟩
        have c1 := cm h2
        rcases q with ⟨k', _⟩ | ⟨_, c3, e', z⟩
        · have k' : X.env.scope.names.lookup y = some .local := k'
          rcases L.free _ (PySem.mem_of_lookup k) rfl with k2 | k2 <;> rw [show X.env.scope.names.lookup y = _ from k2] at k' <;> cases k'
        · rw [c1] at e'
          cases e'
          exact cellK (I.freeC y _ c1) z
    · have hi : X.N.length ≤ i := Nat.le_of_not_lt hi
      rw [List.getElem?_append_right hi] at e1
      rw [List.getElem?_append_right (by rw [lenN]; exact hi), List.getElem?_map, lenN] at e2
      have ha : vs[i - X.N.length]? = some v := by
        cases e : vs[i - X.N.length]? with
        | none => rw [e] at e2; cases e2
        | some a => rw [e] at e2; cases e2; rfl
      obtain ⟨u, hu, rv⟩ := r.get ha
      exact ⟨u, rv, .inl ⟨L.par y (List.mem_of_getElem? e1), NdefX.zip_look L.nd e1 hu⟩⟩
  · obtain ⟨w', z⟩ := I.cell y c (cm e)
    exact ⟨w', cellK (I.freeC y c (cm e)) z⟩
  · obtain ⟨v, o, ho, hd⟩ := I.cell y c (cm e)
    exact un.free c o ho (I.freeC y c (cm e)) (by simp)
  · show (σ ++ vs.map some).length = (X.N ++ ps).length
    rw [List.length_append, List.length_append, List.length_map, hl, I.len]
/-- a(e, ..), in the def that got the lambda: Z is that def's context, entered at s -/
theorem pe_actP {Ng : List Str} {qg : Str} {sg : Scope} {g f c' : Addr} {cdg pm ctv : Value} {params : Arguments} {body : Expr} {scope : Scope} {k i : Nat} {a : Str} {ps : List Str} {Eg : XK} {tb : TE} {p1 p2 : Pos} {e : Expr} {es : List Expr} {t : TA}
    (I : Inv X pins σ H s) (L : LamP X.env.scope scope X.N ps) (hf : s.heap.get? f = some (PySem.W.kla_obj "<lambda>" (X.env.qual ++ "<lambda>") params body scope (cloFrom X.env.cells scope.names []) pm c' ctv)) (hfn : H f = none) (hfr : f ∉ frs X.stack)
    (hbind : ∀ us : List Value, us.length = ps.length → bindArgs (PySem.W.kla_fn "<lambda>" (X.env.qual ++ "<lambda>") params body scope (cloFrom X.env.cells scope.names []) pm (.ref c') ctv) ⟨us, []⟩ = pure (ps.zip us))
    (hr : Room (k + 1) (X.A.deeper (envOfC qg sg s.heap.objs.size g cdg)))
    (hbody : ∀ (A : Around) (outer : List Env) (s : Shared) (H : Hp), Room k (A.deeper (lamEnv X scope s.heap.objs.size f c')) → PE (lamCxP X A outer s H scope f c' ps) body tb)
    (hN : Ng[i]? = some a) (hv : Vis sg a) (ha : PA (cxOf L2.CX0 X.prog X.w X.K X.mg X.base Ng qg sg g cdg X.A X.stack s H Eg).nox (e :: es) t) (hd : (a == ("__debug__" : Str)) = false) (hcd : (a == ("__classdict__" : Str)) = false)
    (he : starEach (e :: es) (envOfC qg sg s.heap.objs.size g cdg) = (false, eval e (envOfC qg sg s.heap.objs.size g cdg)) :: starEach es (envOfC qg sg s.heap.objs.size g cdg)) (hpl : (backTo p2 (starEach es (envOfC qg sg s.heap.objs.size g cdg))).any (·.1) = false) :
    PE (cxOf L2.CX0 X.prog X.w X.K X.mg X.base Ng qg sg g cdg X.A X.stack s H Eg).nox (.Call (.Name a p1) (e :: es) [] p2)
      (fun σZ HZ Q => σZ[i]? = some (some (.ref f)) ∧ t σZ HZ fun vs H1 => H1 c' = some (CodeO c' (X.env.qual ++ "<lambda>")) ∧ vs.length = ps.length ∧ tb (σ ++ vs.map some) H1 Q) := by
  refine ⟨fun pinsZ sZ σZ HZ Q IZ h => ?_⟩
  obtain ⟨hs, ht⟩ := h
  refine wpAny_Call_Name_kw (thn ((pe_var (pos := p1) (i := i) hN hv hd hcd).run pinsZ sZ σZ HZ (fun v H1 => v = .ref f ∧ H1 = HZ) IZ ⟨.ref f, hs, rfl, rfl⟩) fun u s1 ⟨v, H1, I1, r1, q1⟩ => ?_)
  obtain ⟨ev, eH⟩ := q1
  subst ev
  rw [eH] at I1
  obtain rfl : u = Value.ref f := r1
  have fnAt : ∀ {σ' H' s'}, Inv (cxOf L2.CX0 X.prog X.w X.K X.mg X.base Ng qg sg g cdg X.A X.stack s H Eg).nox pinsZ σ' H' s' → s'.heap.get? f = some (PySem.W.kla_obj "<lambda>" (X.env.qual ++ "<lambda>") params body scope (cloFrom X.env.cells scope.names []) pm c' ctv) :=
    fun I1 => I1.base.keep f _ hf hfn hfr (fun z => nomatch (show f ∈ ([] : List Addr) from z))
  refine PySem.W.callWith_F (first := []) ⟨_, _, _, _, fnAt I1⟩ (thn (ha.run p2 pinsZ s1 σZ _ _ I1 ht) fun us s2 ⟨vs, H2, I2, r, hc, hlv, q⟩ => ⟨⟨_, _, _, _, fnAt I2⟩, ?_⟩) he hpl
  show wpAny _ _ (call (.ref f) us) _ _ _
  have of1 := fnAt I2
  have un : Un (frs X.stack) [] H H2 s.heap s2.heap := I2.base
  obtain ⟨⟨oc, vs', t', hoc, hdc, hvc⟩, _, _⟩ := I2.hok c' _ hc
  have rc : codeAny (model X.prog X.w) (X.A.deeper (envOfC qg sg s.heap.objs.size g cdg)) (.call (.ref f) ⟨us, []⟩) (CR L2.CX0 (envOfC qg sg s.heap.objs.size g cdg :: X.stack) X.prog X.w H2 s2 Q L2.E0) s2 := by
    refine PySem.W.kla_callFunE hr.depth of1 rfl L.co L.gen rfl ⟨c', oc, vs', t', rfl, hoc, hdc, hvc⟩ ?_
    rw [hbind us (r.length.symm.trans hlv)]
    refine wpAny_pure (wpAny_newFunctionEnv L.nocell (fun ⟨n, _⟩ hy => L.par n (List.of_mem_zip hy).1) (fun h₁ hns hsb => ⟨I2.nolimit.fresh _ hsb, ?_⟩) L.kind)
    show codeAny _ _ (.expr body (lamEnv X scope s2.heap.objs.size f c')) _ _
    have kp : ∀ b o, s2.heap.get? b = some o → h₁.get? b = some o := fun b o e => hsb.extBut b o (Nat.ne_of_lt (Heap.lt_size e)) (Heap.get?_push_of_some _ e)
    have J : Inv (lamCxP X (X.A.deeper (envOfC qg sg s.heap.objs.size g cdg)) (envOfC qg sg s.heap.objs.size g cdg :: X.stack) s2 H2 scope f c' ps) [] (σ ++ vs.map some) H2 { s2 with heap := h₁, toks := s2.toks + (ps.zip us).length } :=
      lam_startP I L I2.env0 hr.hd un hns kp r hlv
    refine PySem.W.kla_codeExpr (wpAny_mono ((hbody _ _ s2 H2 (hr.deeper _)).run [] _ _ H2 Q J q) (fun v s' hq => ?_) fun e s' hq => (show False from hq).elim)
    obtain ⟨w', H', J', rv, q⟩ := hq
    exact ⟨w', H', J'.os, J'.bare, J'.base, J'.hok, rv, q⟩
  refine wpAny_call (codeAny_mono rc fun r s' hq => ?_)
  cases r with
  | error e => exact (show False from hq).elim
  | ok fl =>
    cases fl with
    | ret u => exact I2.after hq
    | next => exact False.elim hq
    | brk => exact False.elim hq
    | cont => exact False.elim hq
end
/-- the def that calls what it got in its slot 1, its first argument v1; TT: what it makes of the lambda's reading -/
def GivesP (X : Cx) (k : Nat) (Ng : List Str) (x : Str) (sg : Scope) (g : Addr) (cdg : Value) (bg : List Stmt) (a : Str) (q : Str) (n : Nat) (TT : V → (List V → Hp → VK → Prop) → Hp → VK → Prop) : Prop :=
  ∀ (f c' : Addr) (s : Shared) (H : Hp) (v1 : V) (Q : VK) (tl : List V → Hp → VK → Prop), Room k (X.A.deeper (envOfC x sg s.heap.objs.size g cdg)) →
    (∀ (p1 p2 : Pos) (e : Expr) (es : List Expr) (t : TA), PA (cxOf L2.CX0 X.prog X.w X.K X.mg X.base Ng x sg g cdg X.A X.stack s H L2.E0).nox (e :: es) t →
      starEach (e :: es) (envOfC x sg s.heap.objs.size g cdg) = (false, eval e (envOfC x sg s.heap.objs.size g cdg)) :: starEach es (envOfC x sg s.heap.objs.size g cdg) → (backTo p2 (starEach es (envOfC x sg s.heap.objs.size g cdg))).any (·.1) = false →
      PE (cxOf L2.CX0 X.prog X.w X.K X.mg X.base Ng x sg g cdg X.A X.stack s H L2.E0).nox (.Call (.Name a p1) (e :: es) [] p2) (fun σZ HZ Q => σZ[1]? = some (some (.ref f)) ∧ t σZ HZ fun vs H1 => H1 c' = some (CodeO c' q) ∧ vs.length = n ∧ tl vs H1 Q)) →
    H c' = some (CodeO c' q) → TT v1 tl H Q →
    ∃ t, PSs (cxOf L2.CX0 X.prog X.w X.K X.mg X.base Ng x sg g cdg X.A X.stack s H L2.E0) bg t ∧ t { nx := fun _ H' => Q .non H', rt := Q } (L2.start Ng [v1, .ref f]) H
def tLamP (P : Addr) (TT : V → (List V → Hp → VK → Prop) → Hp → VK → Prop) (t1 : TE) (t : TE) : TE := fun σ H Q => t1 σ H fun v1 H1 => TabG H1 P ∧ ∀ H2, MadeAt P H1 H2 → TabG H2 P → TT v1 (fun vs H' Q' => t (σ ++ vs.map some) H' Q') H2 Q
section
variable {X : Cx}
/-- x(e1, lambda ..: body) -/
theorem pe_lamcallP {TT : V → (List V → Hp → VK → Prop) → Hp → VK → Prop} {x a1 a : Str} {g c P : Addr} {k : Nat} {pg : Arguments} {bg : List Stmt} {sg : Scope} {g' : FuncData} {Ng : List Str}
    {params : Arguments} {body e1 : Expr} {scope : Scope} {t1 t : TE} {p lpos pos : Pos} {ps : List Str} (hg : Gl X x) (hm : X.mg x = some (.ref g)) (FD : FunD X.K x x pg bg sg [] [] g g') (hb : L2.Binds X.K g' [a1, a] []) (Sg : FnScope Ng [a1, a] sg) (hNg : Ng[1]? = some a) (hva : Vis sg a)
    (hG : ∀ cdg, GivesP X (k + 1) Ng x sg g cdg bg a (X.env.qual ++ "<lambda>") ps.length TT)
    (TB : TabB X.base X.mg c P) (hcode : X.env.code = .ref c) (hn : nmG lpos.line lpos.col = X.env.qual ++ "<lambda>") (hr : Room (k + 2) X.A) (L : LamP X.env.scope scope X.N ps) (hdef : defaultsOf params X.env = ([], []))
    (hbind : ∀ (q : Str) (cl : List (Str × Addr)) (pm cv ctv : Value) (us : List Value), us.length = ps.length → bindArgs (PySem.W.kla_fn "<lambda>" q params body scope cl pm cv ctv) ⟨us, []⟩ = pure (ps.zip us))
    (he1 : PE X e1 t1) (hns : starEach [e1, .Lambda params body scope lpos] X.env = [(false, eval e1 X.env), (false, eval (.Lambda params body scope lpos) X.env)])
    (hbody : ∀ (A : Around) (outer : List Env) (s : Shared) (H : Hp) (f c' : Addr), Room k (A.deeper (lamEnv X scope s.heap.objs.size f c')) → PE (lamCxP X A outer s H scope f c' ps) body t)
    (hdb : (x == ("__debug__" : Str)) = false := by decide) (hd : (a == ("__debug__" : Str)) = false := by decide) (hcd : (a == ("__classdict__" : Str)) = false := by decide) :
    PE X (.Call (.Name x p) [e1, .Lambda params body scope lpos] [] pos) (tLamP P TT t1 t) := by
  refine ⟨fun pins s σ H Q I h => ?_⟩
  refine wpAny_Call_Name_kw (ld_glob I hg hm ?_ hdb)
  have hns2 : starEach [.Lambda params body scope lpos] X.env = [(false, eval (.Lambda params body scope lpos) X.env)] := rfl
  refine PySem.W.callWith_K (h₀ := X.base) I.ok.mod.kin FD.kp ?_ (by rw [hns, hns2]) (by rw [hns2]; rfl)
  rw [hns]
  show wpAny _ _ (spliced ((false, eval e1 X.env) :: (false, eval (.Lambda params body scope lpos) X.env) :: [])) _ _ s
  refine Calls.spliced_cons (thn (he1.run pins s σ H _ I h) fun u1 s0 ⟨v1, H0, I0, r1, hT, h⟩ => ?_)
  refine Calls.spliced_cons (lam_makeP I0 TB hcode hn hT hdef (lamP_has L I0.ok) fun f c' pm' ctv H1 s' I1 eN T1 hf hfn hfr hco => ?_)
  refine Calls.spliced_nil ⟨I1.kIn, ?_⟩
  obtain ⟨oc, od, dV, kV, doc, pm, an, cdv, ct, osl, rfl, lk, hcg, _, _⟩ := FD.ex
  have rc : codeAny (model X.prog X.w) X.A (.call (.ref g) ⟨[u1, .ref f], []⟩) (CR L2.CX0 X.stack X.prog X.w H1 s' Q L2.E0) s' := by
    refine run_ofS (N := Ng) (ps := [a1, a]) (us := [u1, .ref f]) (vs := [v1, .ref f]) lk hcg Sg hr I1.env0 (hb s' [u1, .ref f] I1.kIn rfl) (.cons r1 (.cons rfl .nil)) rfl fun hr' => ?_
    exact hG _ f c' s' H1 v1 Q (fun vs H' Q' => t (σ ++ vs.map some) H' Q') hr' (fun p1 p2 e es ta ha h1 h2 => pe_actP (i := 1) I1 L hf hfn hfr (hbind _ _ _ _ _) hr' (fun A outer s H hr2 => hbody A outer s H f c' hr2) hNg hva ha hd hcd h1 h2) hco (h H1 eN T1)
  refine wpAny_call (codeAny_mono rc fun r s2 hq => ?_)
  cases r with
  | error e => exact (show False from hq).elim
  | ok fl =>
    cases fl with
    | ret u => exact I1.after hq
    | next => exact False.elim hq
    | brk => exact False.elim hq
    | cont => exact False.elim hq
end
end G
set_option maxRecDepth 100000
set_option maxHeartbeats 4000000
namespace G
open PySem PySem.Spec PyProof.Rows L2
/-! sorted texts -/
theorem str_of_cps {a b : Str} (h : a.cps.toList = b.cps.toList) : a = b := by
  obtain ⟨x⟩ := a; obtain ⟨y⟩ := b
  have : x = y := Array.toList_inj.mp h
  rw [this]
abbrev leS (a b : Str) : Bool := decide (a.cps.toList ≤ b.cps.toList)
theorem risingS_all : ∀ {p : Str} {l : List Str}, risingS p l = true → (p :: l).Pairwise fun a b => leS a b = true
  | p, [], _ => List.pairwise_singleton _ _
  | p, x :: r, h => by
    have h : (!ltCps x.cps.toList p.cps.toList && risingS x r) = true := h
    rw [Bool.and_eq_true, Bool.not_eq_true', ltCps_eq, decide_eq_false_iff_not] at h
    have ih := risingS_all h.2
    have e : leS p x = true := decide_eq_true (List.not_lt.mp h.1)
    refine List.pairwise_cons.mpr ⟨fun y hy => ?_, ih⟩
    rcases List.mem_cons.mp hy with rfl | hy
    · exact e
    · have := (List.pairwise_cons.mp ih).1 y hy
      exact decide_eq_true (List.le_trans (of_decide_eq_true e) (of_decide_eq_true this))
theorem sortedS_all {l : List Str} (h : sortedS l = true) : l.Pairwise fun a b => leS a b = true := by
  cases l with
  | nil => exact .nil
  | cons p l => exact risingS_all h
theorem leS_trans : ∀ a b c : Str, leS a b = true → leS b c = true → leS a c = true := fun a b c h1 h2 => decide_eq_true (List.le_trans (of_decide_eq_true h1) (of_decide_eq_true h2))
theorem leS_total : ∀ a b : Str, (leS a b || leS b a) = true := fun a b => by
  rw [Bool.or_eq_true]
  rcases List.le_total a.cps.toList b.cps.toList with h | h
  · exact .inl (decide_eq_true h)
  · exact .inr (decide_eq_true h)
theorem leS_anti {a b : Str} (h1 : leS a b = true) (h2 : leS b a = true) : a = b := str_of_cps (List.le_antisymm (of_decide_eq_true h1) (of_decide_eq_true h2))
theorem sortS_ok {l t : List Str} (h : sortS l = .ok t) : l.length < 64 ∧ ∀ ys : List Str, ys.Perm l → sortedS ys = true → ys = t := by
  unfold sortS at h
  split at h
  · rename_i c
    cases h
    refine ⟨c, fun ys pm so => List.Perm.eq_of_pairwise (le := fun a b => leS a b = true) (fun a b _ _ h1 h2 => leS_anti h1 h2) (sortedS_all so) (List.pairwise_mergeSort leS_trans leS_total l) (pm.trans (List.mergeSort_perm _ _).symm)⟩
  · cases h
/-! a new object of an own class, while its __init__ runs -/
abbrev Sf (x : Addr) : Addr → Prop := fun p => p = x
structure SelfAt (C x dx : Addr) (B H : Hp) (fs : List (Str × V)) : Prop where
  b : B x = none
  h : H x = some (.ins C dx fs)
section
variable {K : PySem.W.Frag} {B B' H H' : Hp} {C x dx : Addr} {fs : List (Str × V)}
theorem SelfAt.grow0 (z : SelfAt C x dx B H fs) (g : Grow S0 B H B' H') : SelfAt C x dx B' H' fs :=
  ⟨g.own x (by rw [z.h]; exact fun q => by cases q) z.b, g.keep x _ (fun q => q) rfl z.h⟩
theorem SelfAt.put (z : SelfAt C x dx B H fs) (f : Str) (v : V) : SelfAt C x dx B (upd H x (.ins C dx (putF f v fs))) (putF f v fs) := ⟨z.b, upd_same⟩
theorem SelfAt.mut {l : Addr} {o : HO} (z : SelfAt C x dx B H fs) (n : l ≠ x) : SelfAt C x dx B (upd H l o) fs := ⟨z.b, by rw [upd_ne n.symm]; exact z.h⟩
theorem SelfAt.fz {l : Addr} (z : SelfAt C x dx B H fs) (n : l ≠ x) (hq : ∀ q, q ≠ l → B' q = B q) : SelfAt C x dx B' H fs := ⟨(hq x n.symm).trans z.b, z.h⟩
theorem Own.apart {S : Addr → Prop} {H0 : Hp} {l p : Addr} {xs : List V} {ds : List D} (o : Own K H0 B H l xs ds) (hsd : ∀ p, S p → H0 p ≠ none) (h : S p) : l ≠ p := fun z => hsd p h (by rw [← z]; exact o.n0)
theorem OwnD.apart {κ : Type} {c : List (κ × V) → HO} {S : Addr → Prop} {H0 : Hp} {l p : Addr} {xs : List (κ × V)} {ds : List (κ × D)} (o : OwnD c K H0 B H l xs ds) (hsd : ∀ p, S p → H0 p ≠ none) (h : S p) : l ≠ p := fun z => hsd p h (by rw [← z]; exact o.n0)
theorem SelfAt.there (z : SelfAt C x dx B H fs) : ∀ p, Sf x p → H p ≠ none := fun p hp => by
  have hp : p = x := hp
  rw [hp, z.h]; exact fun q => by cases q
theorem Grow.mutS {B0 H0 : Hp} {o o' : HO} (g : Grow (Sf x) B0 H0 B H) (hb : B x = none) (hh : H x = some o') (hp : pl o' = true) : Grow (Sf x) B0 H0 B (upd H x o) :=
  ⟨g.bb, fun a u e => by rw [upd_ne (ne_of_none e hb)]; exact g.bh a u e, fun a u n t e => by rw [upd_ne n]; exact g.keep a u n t e, g.own, fun a n => by
    unfold upd; split
    · exact fun z => by cases z
    · exact g.dom a n, fun P t => tab_upd (g.tab P t) hh hp⟩
def PostN' (C x dx : Addr) (B H : Hp) (fs : List (Str × V)) (Q : VK) : Res Unit → Prop
  | .ok _ => ∀ B' H', Grow (Sf x) B H B' H' → SelfAt C x dx B' H' fs → Q .non H'
  | .err _ _ => False
  | .bad => False
@[irreducible] def PostN (C x dx : Addr) (B H : Hp) (fs : List (Str × V)) (Q : VK) (r : Res Unit) : Prop := PostN' C x dx B H fs Q r
theorem PostN.open_ {Q : VK} {r : Res Unit} (h : PostN C x dx B H fs Q r) : ∃ K0 : Res Unit → Prop, NB K0 ∧ K0 r ∧ (K0 (.ok ()) → ∀ B' H', Grow (Sf x) B H B' H' → SelfAt C x dx B' H' fs → Q .non H') := by
  unfold PostN at h
  exact ⟨PostN' C x dx B H fs Q, ⟨fun z => z, fun _ _ z => z⟩, h, fun q => q⟩
theorem PostN.mk_ {Q : VK} {r : Res Unit} {a : Unit} (e : r = .ok a) (h : ∀ B' H', Grow (Sf x) B H B' H' → SelfAt C x dx B' H' fs → Q .non H') : PostN C x dx B H fs Q r := by
  unfold PostN
  rw [e]; exact h
theorem made_free {a : Addr} (nx : H x = none) (nd : H dx = none) {o : HO} (e : H a = some o) : a ≠ x ∧ a ≠ dx := ⟨ne_of_none e nx, ne_of_none e nd⟩
theorem made_same (bh : Same B H) (nx : H x = none) (nd : H dx = none) : Same B (upd (upd H dx (.own x)) x (.ins C dx fs)) := fun a u e => by
  have e := bh a u e
  rw [upd_ne (ne_of_none e nx), upd_ne (ne_of_none e nd)]; exact e
theorem made_self (bh : Same B H) (nx : H x = none) (nd : H dx = none) : SelfAt C x dx B (upd (upd H dx (.own x)) x (.ins C dx [])) [] := ⟨same_free bh nx, upd_same⟩
theorem Grow.made {gs : List (Str × V)} (bh : Same B H) (nx : H x = none) (nd : H dx = none) (ne : dx ≠ x) (g : Grow (Sf x) B (upd (upd H dx (.own x)) x (.ins C dx gs)) B' H') (sf : SelfAt C x dx B' H' fs) : Grow S0 B H (upd B' x (.ins C dx fs)) H' := by
  have lift : ∀ {a u}, H a = some u → upd (upd H dx (.own x)) x (.ins C dx gs) a = some u := fun {a u} e => by rw [upd_ne (ne_of_none e nx), upd_ne (ne_of_none e nd)]; exact e
  refine ⟨fun a u e => ?_, fun a u e => ?_, fun a u _ t e => g.keep a u (fun z => by
    have z : a = x := z
    rw [z, nx] at e; cases e) t (lift e), fun a n e => ?_, fun a n => ?_, fun P t => g.tab P (tab_new (tab_new t nd) (by rw [upd_ne (fun z => ne z.symm)]; exact nx))⟩
  · rw [upd_ne (ne_of_none e (same_free bh nx))]; exact g.bb a u e
  · by_cases z : a = x
    · rw [z, upd_same] at e; cases e; rw [z]; exact sf.h
    · rw [upd_ne z] at e; exact g.bh a u e
  · have na : a ≠ x := fun z => n (by rw [z]; exact nx)
    rw [upd_ne na]
    refine g.own a ?_ e
    cases q : H a with
    | none => exact absurd q n
    | some u => rw [lift q]; exact fun z => by cases z
  · refine g.dom a ?_
    cases q : H a with
    | none => exact absurd q n
    | some u => rw [lift q]; exact fun z => by cases z
/-! programs -/
structure Prog where
  kinds : List Str
  passes : List (List Int × List (List (Int × Int)))
  tells : List (Str × Int)
abbrev emPass (p : List Int × List (List (Int × Int))) : D := D.tup [D.tup (p.1.map D.int), D.tup (p.2.map fun r => D.tup (r.map fun q => D.tup [D.int q.1, D.int q.2]))]
abbrev emTell (p : Str × Int) : D := D.tup [D.str p.1, D.int p.2]
def Prog.em (C : Addr) (p : Prog) : D := .obj C [("p_kinds", .ktup (p.kinds.map D.str)), ("p_passes", .tup (p.passes.map emPass)), ("p_tells", .tup (p.tells.map emTell))]
theorem prog_rep {x dx : Addr} {u : Prog} {v1 v2 v3 : V} {Bx : Hp} (e : Bx x = some (.ins C dx (putF "p_tells" v3 (putF "p_passes" v2 (putF "p_kinds" v1 []))))) (r1 : Rep K Bx (.ktup (u.kinds.map D.str)) v1) (r2 : Rep K Bx (.tup (u.passes.map emPass)) v2) (r3 : Rep K Bx (.tup (u.tells.map emTell)) v3) : Rep K Bx (Prog.em C u) (.ref x) := by
  refine ⟨x, dx, _, rfl, e, ?_⟩
  show RepF K Bx _ [("p_kinds", v1), ("p_passes", v2), ("p_tells", v3)]
  exact ⟨_, _, rfl, r1, _, _, rfl, r2, _, _, rfl, r3, rfl⟩
theorem prog_open {u : Prog} {v : V} (r : Rep K B (Prog.em C u) v) : ∃ x dx v1 v2 v3, v = .ref x ∧ B x = some (.ins C dx [("p_kinds", v1), ("p_passes", v2), ("p_tells", v3)]) ∧ Rep K B (.ktup (u.kinds.map D.str)) v1 ∧ Rep K B (.tup (u.passes.map emPass)) v2 ∧ Rep K B (.tup (u.tells.map emTell)) v3 := by
  obtain ⟨x, dx, xs, rfl, h, v1, r1, rfl, a1, v2, r2, rfl, a2, v3, r3, rfl, a3, rfl⟩ := r
  exact ⟨x, dx, v1, v2, v3, rfl, h, a1, a2, a3⟩
theorem prog_kinds {u : Prog} {v : V} (r : Rep K B (Prog.em C u) v) (bh : Same B H) {Q : VK} {E : XK} (k : ∀ x, Rep K B (.ktup (u.kinds.map D.str)) x → Q x H) : ∃ a dx fs, v = .ref a ∧ H a = some (.ins C dx fs) ∧ getSp C "p_kinds" (.ref a :: []) H Q E := by
  obtain ⟨x, dx, v1, v2, v3, rfl, h, r1, _, _⟩ := prog_open r
  exact ⟨x, dx, _, rfl, bh _ _ h, x, dx, _, _, rfl, bh _ _ h, rfl, k _ r1⟩
theorem prog_passes {u : Prog} {v : V} (r : Rep K B (Prog.em C u) v) (bh : Same B H) {Q : VK} {E : XK} (k : ∀ x, Rep K B (.tup (u.passes.map emPass)) x → Q x H) : ∃ a dx fs, v = .ref a ∧ H a = some (.ins C dx fs) ∧ getSp C "p_passes" (.ref a :: []) H Q E := by
  obtain ⟨x, dx, v1, v2, v3, rfl, h, _, r1, _⟩ := prog_open r
  exact ⟨x, dx, _, rfl, bh _ _ h, x, dx, _, _, rfl, bh _ _ h, rfl, k _ r1⟩
theorem prog_tells {u : Prog} {v : V} (r : Rep K B (Prog.em C u) v) (bh : Same B H) {Q : VK} {E : XK} (k : ∀ x, Rep K B (.tup (u.tells.map emTell)) x → Q x H) : ∃ a dx fs, v = .ref a ∧ H a = some (.ins C dx fs) ∧ getSp C "p_tells" (.ref a :: []) H Q E := by
  obtain ⟨x, dx, v1, v2, v3, rfl, h, _, _, r1⟩ := prog_open r
  exact ⟨x, dx, _, rfl, bh _ _ h, x, dx, _, _, rfl, bh _ _ h, rfl, k _ r1⟩
end
section
variable {P : Program} {w : World} {K : PySem.W.Frag} {mg : Str → Option Value} {base : Heap}
/-- a getter: return self.f -/
theorem getter_of {name qual f : Str} {params : Arguments} {body : List Stmt} {scope : Scope} {fa C : Addr} {fd : FuncData} {N : List Str} {p1 p2 p3 : Pos} (F : FunD K name qual params body scope [] [] fa fd) (S : FnScope N ["self"] scope) (hN : N[0]? = some ("self" : Str))
    (hb : body = [.Return (some (.Attribute (.Name "self" p1) f p2)) p3]) (c : Cls K C) (n : NoAttr K C f) : FnOk P w K mg base L2.CX0 1 fa fd ["self"] (getSp C f) := by
  obtain ⟨oc, od, dV, kV, doc, pm, an, cdv, ct, osl, rfl, lk, hcg, _, _⟩ := F.ex
  exact fn_getter lk hcg S hN hb c n
end
end G
set_option maxRecDepth 100000
set_option maxHeartbeats 4000000
namespace G
open PySem PySem.Spec PyProof.Rows L2
/-- the tuple itself: empty, or taken once -/
theorem tuple_mul1 (l : Addr) (items : Array Value) (n : Nat) (dd : Option Addr) (sl : Array (Option Value)) (x : Int) (u : Tok) (c0 : (decide (x < -(2 ^ 63)) || decide (x ≥ 2 ^ 63)) = false) (c1 : (items.isEmpty || x == 1) = true) :
    Meets (Builtin.«tuple.__mul__» ⟨[.ref l, .int x u], []⟩) (fun _ R s => s.heap.get? l = some { cls := .type "tuple", dict := dd, data := .seq items n, slots := sl } ∧ R (.ok (.ret (Value.ref l))) s) :=
  .of_wp fun prog w A R s h => by
    obtain ⟨hp, g, d, tk, os⟩ := s
    obtain ⟨hl, h⟩ := h
    have f1 := AutoSeq1.idx_int
    wp_walk using wpAny_loadPart' hl
    refine wpAny_ite_false (decide_eq_false (by rw [c0]; exact Bool.false_ne_true)) ?_
    wp_walk using wpAny_loadPart' hl
    exact ⟨_, rfl, h⟩
/-- taken no times -/
theorem tuple_mul0 (l : Addr) (items : Array Value) (n : Nat) (dd : Option Addr) (sl : Array (Option Value)) (x : Int) (u : Tok) (c0 : (decide (x < -(2 ^ 63)) || decide (x ≥ 2 ^ 63)) = false) (c1 : (items.isEmpty || x == 1) = false) (c2 : (decide (x ≤ 0) || items.isEmpty) = true) :
    Meets (Builtin.«tuple.__mul__» ⟨[.ref l, .int x u], []⟩) (fun _ R s => s.heap.get? l = some { cls := .type "tuple", dict := dd, data := .seq items n, slots := sl } ∧
      R (.ok (.ret (Value.ref s.heap.objs.size))) { s with heap := s.heap.push { cls := Value.type "tuple", data := Data.seq #[] }, toks := s.toks }) :=
  .of_wp fun prog w A R s h => by
    obtain ⟨hp, g, d, tk, os⟩ := s
    obtain ⟨hl, h⟩ := h
    have f1 := AutoSeq1.idx_int
    wp_walk using wpAny_loadPart' hl
    refine wpAny_ite_false (decide_eq_false (by rw [c0]; exact Bool.false_ne_true)) ?_
    wp_walk using wpAny_loadPart' hl
    repeat (first
      | (refine wpAny_ite_false (decide_eq_false (by rw [c1]; exact Bool.false_ne_true)) ?_; wp_walk using wpAny_loadPart' hl)
      | (refine wpAny_ite_true (decide_eq_true (by rw [c2])) ?_; wp_walk using wpAny_loadPart' hl))
    exact ⟨_, rfl, h⟩
def rRepA (K : PySem.W.Frag) : R2 := fun x y H Q => ∃ l k xs, x = .ref l ∧ y = .int k ∧ SqT K H l xs ∧ -1000 ≤ k ∧ k ≤ 1000 ∧ xs.length ≤ 1000 ∧ ((xs = [] ∨ k = 1) → Q (.ref l) H) ∧
  (¬(xs = [] ∨ k = 1) → ∀ p, H p = none → Q (.ref p) (upd H p (.tup (List.replicate k.toNat xs).flatten)))
theorem op_repA {X : Cx} : OpR X (binaryOp .Mult) (rRepA X.K) := by
  intro pins s σ H x y v u Q I rx ry h
  obtain ⟨l, k, xs, rfl, rfl, hT, h1, h2, hz, q1, q2⟩ := h
  by_cases hc : xs ≠ [] ∧ 2 ≤ k
  · exact op_repT pins s σ H _ _ v u Q I rx ry ⟨l, k, xs, rfl, rfl, hT, hc.1, hc.2, h2, hz, q2 (fun z => z.elim (fun z => hc.1 z) (fun z => by omega))⟩
  cases rx
  obtain ⟨t, rfl⟩ := ry
  obtain ⟨its, r, ⟨⟨cls, dd, data, sl⟩, ho, hcl, n, hd⟩, hs⟩ := I.tuple hT
  simp only at hcl hd
  subst hcl hd
  have hle : its.length = xs.length := r.length.symm
  have c0 : (decide (k < -(2 ^ 63)) || decide (k ≥ 2 ^ 63)) = false := by
    rw [decide_eq_false (by omega), decide_eq_false (by omega)] <;> rfl
  have emp : its.toArray.isEmpty = decide (xs = []) := by
    cases its with
    | nil => rw [List.eq_nil_of_length_eq_zero hle.symm]; rfl
    | cons a b =>
      cases xs with
      | nil => simp at hle
      | cons c d => simp
  by_cases hc1 : xs = [] ∨ k = 1
  · have c1 : (its.toArray.isEmpty || k == 1) = true := by
      rw [emp, Bool.or_eq_true]
      exact hc1.elim (fun z => .inl (decide_eq_true z)) (fun z => .inr (by rw [z]; rfl))
    refine wpAny_binaryOp_repeat_ref (T := "tuple") (U := "int") (by decide) ⟨_, ho, rfl⟩ (fun s' => typeIs_int s' k t) noFill_tuple_mul F.fills_int_mul F.slot_int_rmul repeat_tuple F.slot_int_index.lookup
      (call_meets F.slot_int_rmul (typeIs_int s k t) F.entry_int_rmul (F.args_int_rmul_2 _ _) (int_rmul_tuple k t l its.toArray n dd sl)
        ⟨ho, rfl, ⟨_, ho, rfl⟩, call_meets F.slot_tuple_mul ⟨_, ho, rfl⟩ F.entry_tuple_mul (F.args_tuple_mul_2 _ _) (tuple_mul1 l its.toArray n dd sl k t c0 c1) ⟨ho, ?_⟩⟩)
    exact ⟨.ref l, H, I, rfl, q1 hc1⟩
  · have c1 : (its.toArray.isEmpty || k == 1) = false := by
      rw [emp, decide_eq_false (fun z => hc1 (.inl z)), Bool.false_or]
      exact beq_eq_false_iff_ne.mpr fun z => hc1 (.inr z)
    have k0 : k ≤ 0 := by
      rcases Int.lt_or_le 1 k with z | z
      · exact absurd ⟨fun e => hc1 (.inl e), z⟩ hc
      · have : k ≠ 1 := fun e => hc1 (.inr e)
        omega
    have c2 : (decide (k ≤ 0) || its.toArray.isEmpty) = true := by rw [decide_eq_true k0]; rfl
    have q := q2 hc1
    have e0 : (List.replicate k.toNat xs).flatten = [] := by rw [show k.toNat = 0 by omega]; rfl
    rw [e0] at q
    refine wpAny_binaryOp_repeat_ref (T := "tuple") (U := "int") (by decide) ⟨_, ho, rfl⟩ (fun s' => typeIs_int s' k t) noFill_tuple_mul F.fills_int_mul F.slot_int_rmul repeat_tuple F.slot_int_index.lookup
      (call_meets F.slot_int_rmul (typeIs_int s k t) F.entry_int_rmul (F.args_int_rmul_2 _ _) (int_rmul_tuple k t l its.toArray n dd sl)
        ⟨ho, rfl, ⟨_, ho, rfl⟩, call_meets F.slot_tuple_mul ⟨_, ho, rfl⟩ F.entry_tuple_mul (F.args_tuple_mul_2 _ _) (tuple_mul0 l its.toArray n dd sl k t c0 c1 c2) ⟨ho, ?_⟩⟩)
    refine ⟨.ref s.heap.objs.size, _, I.laid (t' := s.toks) (o := .tup []) (fun b ob q => Heap.get?_push_of_some _ q) (Nat.le_refl _) ?_, rfl, q _ (I.hok.fresh (Nat.le_refl _))⟩
    exact ⟨by decide, _, .nil, IsTup.new _ _⟩
theorem op_repA' {X : Cx} {K : PySem.W.Frag} (h : X.K = K) : OpR X (binaryOp .Mult) (rRepA K) := by subst h; exact op_repA
/-- l * k, of a tuple -/
def mulT {α : Type} (l : List α) (k : Int) : Res (List α) := if -1000 ≤ k ∧ k ≤ 1000 ∧ l.length ≤ 1000 then .ok (List.replicate k.toNat l).flatten else .bad
theorem RepL.rep {K : PySem.W.Frag} {B : Hp} {α : Type} {em : α → D} {l : List α} {xs : List V} (h : RepL K B (l.map em) xs) : ∀ n : Nat, RepL K B (((List.replicate n l).flatten).map em) (List.replicate n xs).flatten
  | 0 => rfl
  | n + 1 => by
    rw [List.replicate_succ, List.replicate_succ, List.flatten_cons, List.flatten_cons, List.map_append]
    exact h.append (RepL.rep h n)
theorem rep1 {α : Type} (l : List α) : (List.replicate (1 : Int).toNat l).flatten = l := by
  show (List.replicate 1 l).flatten = l
  simp
theorem repNil {α : Type} : ∀ n : Nat, (List.replicate n ([] : List α)).flatten = []
  | 0 => rfl
  | n + 1 => by rw [List.replicate_succ, List.flatten_cons, repNil n]; rfl
theorem rmulT {K : PySem.W.Frag} {B H : Hp} {α : Type} {em : α → D} {l t : List α} {k : Int} {v : V} {Q : VK} (bh : Same B H) (r : Rep K B (.tup (l.map em)) v) (h : mulT l k = .ok t)
    (q : ∀ v' B' H', Grow S0 B H B' H' → Rep K B' (.tup (t.map em)) v' → Q v' H') : rRepA K v (.int k) H Q := by
  unfold mulT at h
  split at h
  · rename_i c
    cases h
    obtain ⟨p, xs, rfl, hp, rl⟩ := r
    refine ⟨p, k, xs, rfl, rfl, same_t bh hp, c.1, c.2.1, by rw [rl.lenm]; exact c.2.2, fun z => q _ B H (Grow.refl bh) ⟨p, xs, rfl, hp, ?_⟩, fun _ p' hp' => q _ _ _ (Grow.new bh hp') ⟨p', _, rfl, SqT.of upd_same, (RepL.rep rl k.toNat).mono (same_upd (same_free bh hp'))⟩⟩
    rcases z with z | z
    · have e : l = [] := by
        have := rl.lenm
        rw [z] at this
        exact List.eq_nil_of_length_eq_zero this.symm
      rw [e, repNil]; rw [e] at rl; exact rl
    · rw [z, rep1]; exact rl
  · cases h
end G
set_option maxRecDepth 100000
set_option maxHeartbeats 4000000
namespace G
open PySem PySem.Spec PyProof.Rows L2
/-! calls with keywords alone -/
section
variable {X : Cx} {CX : CXT} {k n : Nat} {f C : Addr} {fd : FuncData} {ps ks : List Str} {sp : L2.Sp} {E : XK} {x : Str} {p pos : Pos} {kws : List Keyword} {tk : TA} {g : List Value → List Value → List Value} {gV : List V → List V → List V}
theorem pe_callK0 (F : FnOk X.prog X.w X.K X.mg X.base CX k f fd ps sp) (hr : Room k X.A) (hg : Gl X x) (hm : X.mg x = some (.ref f)) (hk : PySem.W.keepIn X.K (.ref f) = true) (hb : KBinds X.K fd ps ks g gV) (hx : Passes CX X E)
    (hkw : PK X kws tk) (hall : (backToKw pos (keywordEach kws X.env)).all (·.1.isSome) = true := by rfl) (hks : (backToKw pos (keywordEach kws X.env)).filterMap (·.1) = ks := by rfl)
    (hdb : (x == ("__debug__" : Str)) = false := by decide)
    (hpl : ((backTo pos (starEach [] X.env)).any (·.1) || (backToKw pos (keywordEach kws X.env)).any (·.1.isNone)) = false := by rfl) :
    PE X (.Call (.Name x p) [] kws pos) (tCallK sp gV E tNil tk) := by
  refine ⟨fun pins s σ H Q I h => ?_⟩
  refine wpAny_Call_Name_kw (ld_glob I hg hm ?_ hdb)
  refine PySem.W.callWith_KW0 (h₀ := X.base) I.ok.mod.kin hk hall ?_ hpl
  refine thn (hkw.run pos pins s σ H _ I h) fun ws s2 ⟨zs, H2, I2, rz, q2⟩ => ⟨I2.kIn, ?_⟩
  rw [hks]
  exact run_fnk (us := []) (vs := []) F hr hb hx I2 .nil rz q2
end
/-- how the parameters lie among the positional values and the keywords' -/
def pick {α : Type} (n m : Nat) (is : List Nat) (us ws : List α) : List α := if us.length = n ∧ ws.length = m then is.filterMap fun i => (us ++ ws)[i]? else []
theorem vals_pick : ∀ (is : List Nat) {vs : List V} {us : List Value}, Vals vs us → Vals (is.filterMap fun i => vs[i]?) (is.filterMap fun i => us[i]?)
  | [], _, _, _ => .nil
  | i :: is, vs, us, r => by
    have ih := vals_pick is r
    cases q : vs[i]? with
    | none =>
      have z : us[i]? = none := by
        rw [List.getElem?_eq_none_iff] at q ⊢
        rw [← r.length]; exact q
      rw [List.filterMap_cons_none q, List.filterMap_cons_none z]; exact ih
    | some v =>
      obtain ⟨u, hu, rv⟩ := r.get q
      rw [List.filterMap_cons_some q, List.filterMap_cons_some hu]; exact .cons rv ih
theorem pick_rel {n m : Nat} {is : List Nat} {vs zs : List V} {us ws : List Value} (r : Vals vs us) (rz : Vals zs ws) : Vals (pick n m is vs zs) (pick n m is us ws) := by
  unfold pick
  rw [r.length, rz.length]
  split
  · exact vals_pick is (r.append rz)
  · exact .nil
theorem pick_len {α : Type} {n m : Nat} {is : List Nat} {us ws : List α} {j : Nat} (h : (pick n m is us ws).length = j + 1) : us.length = n ∧ ws.length = m := by
  unfold pick at h
  split at h
  · assumption
  · cases h
/-- a def whose code object is known -/
theorem funD_okC {P : Program} {w : World} {K : PySem.W.Frag} {mg : Str → Option Value} {base : Heap} {x qual : Str} {params : Arguments} {body : List Stmt} {scope : Scope} {dvs : List V} {kws : List (Str × V)} {f c : Addr} {fd : FuncData} {CX : CXT} {N ps : List Str} {k : Nat} {sp : L2.Sp}
    (F : FunD K x qual params body scope dvs kws f fd) (hc : fd.code = .ref c) (S : FnScope N ps scope) (len : ∀ vs H Q E, sp vs H Q E → vs.length = ps.length)
    (hbody : ∀ (A : Around) (outer : List Env) (s : Shared) (H : Hp) (vs : List V) (Q : VK) (E : XK), Room k (A.deeper (envOfC qual scope s.heap.objs.size f (.ref c))) → sp vs H Q E →
      ∃ t, PSs (cxOf CX P w K mg base N qual scope f (.ref c) A outer s H E) body t ∧ t { nx := fun _ H' => Q .non H', rt := Q } (L2.start N vs) H) : FnOk P w K mg base CX (k + 1) f fd ps sp := by
  obtain ⟨oc, od, dV, kV, doc, pm, an, cdv, ct, osl, rfl, lk, hcd, _, _⟩ := F.ex
  have e : cdv = .ref c := hc
  subst e
  exact fn_of lk hcd S len fun A outer s H vs Q E hr hsp => hbody A outer s H vs Q E hr hsp
/-! reading the list at p -/
theorem rixH {K : PySem.W.Frag} {B H : Hp} {α : Type} {em : α → D} {l : List α} {p : Addr} {xs : List V} {i : Int} {a : α} {Q : VK} (hp : SqL K H p xs) (rl : RepL K B (l.map em) xs) (h : ixR l i = .ok a) (k : ∀ x, Rep K B (em a) x → Q x H) : rIxL K (.ref p) (.int i) H Q := by
  obtain ⟨x, h1, h2⟩ := rep_ix rl h
  exact ⟨p, xs, i, x, rfl, rfl, hp, h1, k x h2⟩
/-! the source is written -/
section
variable {K : PySem.W.Frag} {B B' H H' : Hp} {a c : Addr} {s : Src}
theorem SrcAt.setAt (x : SrcAt a c B H s) (v : Int) : SrcAt a c B (upd H a (.lst [.ref c, .int v, .int s.mix])) ⟨s.cells, v, s.mix⟩ :=
  ⟨upd_same, by rw [upd_ne x.ne.symm]; exact x.cl, x.ba, x.bc, x.ne⟩
theorem SrcAt.setMix (x : SrcAt a c B H s) (v : Int) : SrcAt a c B (upd H a (.lst [.ref c, .int s.at_, .int v])) ⟨s.cells, s.at_, v⟩ :=
  ⟨upd_same, by rw [upd_ne x.ne.symm]; exact x.cl, x.ba, x.bc, x.ne⟩
theorem SrcAt.setCell (x : SrcAt a c B H s) (j : Nat) (v : Int) : SrcAt a c B (upd H c (.lst ((s.cells.map V.int).set j (.int v)))) ⟨s.cells.set j v, s.at_, s.mix⟩ :=
  ⟨by rw [upd_ne x.ne]; exact x.hd, by rw [upd_same, List.map_set], x.ba, x.bc, x.ne⟩
theorem Grow.mutX {S : Addr → Prop} {B0 H0 : Hp} {p : Addr} {o o' : HO} (g : Grow S B0 H0 B H) (hS : S p) (hb : B p = none) (hh : H p = some o') (hp : pl o' = true) : Grow S B0 H0 B (upd H p o) :=
  ⟨g.bb, fun a u e => by rw [upd_ne (ne_of_none e hb)]; exact g.bh a u e, fun a u n t e => by rw [upd_ne (fun z => n (by rw [z]; exact hS))]; exact g.keep a u n t e, g.own, fun a n => by
    unfold upd; split
    · exact fun z => by cases z
    · exact g.dom a n, fun P t => tab_upd (g.tab P t) hh hp⟩
theorem ixN_map {α : Type} {f : α → V} {m : List α} {i : Int} {j : Nat} (h : ixNR m.length i = .ok j) : ixN (m.map f).length i = some j := by
  rw [List.length_map]
  unfold ixNR at h
  cases q : ixN m.length i with
  | none => rw [q] at h; cases h
  | some z => rw [q] at h; cases h; rfl
/-- the law's first def makes the source -/
def PostB0' (B H : Hp) (Q : VK) : Res Src → Prop
  | .ok s => ∀ a c B' H', Grow S0 B H B' H' → SrcAt a c B' H' s → Q (.ref a) H'
  | .err _ _ => False
  | .bad => False
@[irreducible] def PostB0 (B H : Hp) (Q : VK) (r : Res Src) : Prop := PostB0' B H Q r
theorem PostB0.open_ {Q : VK} {r : Res Src} (h : PostB0 B H Q r) : ∃ K0 : Res Src → Prop, NB K0 ∧ K0 r ∧ ∀ s, K0 (.ok s) → ∀ a c B' H', Grow S0 B H B' H' → SrcAt a c B' H' s → Q (.ref a) H' := by
  unfold PostB0 at h
  exact ⟨PostB0' B H Q, ⟨fun z => z, fun _ _ z => z⟩, h, fun _ q => q⟩
theorem PostB0.mk_ {Q : VK} {r : Res Src} {s : Src} (e : r = .ok s) (h : ∀ a c B' H', Grow S0 B H B' H' → SrcAt a c B' H' s → Q (.ref a) H') : PostB0 B H Q r := by
  unfold PostB0
  rw [e]; exact h
theorem srcNew {H0 : Hp} {l p : Addr} {m : List Int} {xs : List V} {S : Addr → Prop} {B0 : Hp} (w : Grow S B0 H0 B H) (o : Own K H0 B H l xs (m.map D.int)) (hp : H p = none) : SrcAt p l B (upd H p (.lst [.ref l, .int 0, .int 1])) ⟨m, 0, 1⟩ := by
  have e := o.r.asInts
  subst e
  exact ⟨upd_same, by rw [upd_ne (ne_of_none o.h hp)]; exact o.h, same_free w.bh hp, o.b, fun z => by have := o.h; rw [← z, hp] at this; cases this⟩
/-- the law: its answer is True, whatever the heap -/
def PostT' (Q : VK) : Res Bool → Prop
  | .ok b => b = true ∧ ∀ H', Q (.bl true) H'
  | .err _ _ => False
  | .bad => False
@[irreducible] def PostT (Q : VK) (r : Res Bool) : Prop := PostT' Q r
theorem PostT.open_ {Q : VK} {r : Res Bool} (h : PostT Q r) : ∃ K0 : Res Bool → Prop, NB K0 ∧ K0 r ∧ ∀ b, K0 (.ok b) → ∀ H', Q (.bl b) H' := by
  unfold PostT at h
  exact ⟨PostT' Q, ⟨fun z => z, fun _ _ z => z⟩, h, fun b q H' => by
    obtain ⟨q1, q2⟩ := q
    rw [q1]; exact q2 H'⟩
theorem postT_true {Q : VK} {r : Res Bool} (e : r = .ok true) (q : ∀ H', Q (.bl true) H' := by exact fun _ => rfl) : PostT Q r := by
  unfold PostT
  rw [e]; exact ⟨rfl, q⟩
theorem tab_ne {H : Hp} {P : Addr} (t : TabG H P) : H P ≠ none := by
  obtain ⟨ps, h, _⟩ := t
  rw [h]; exact fun z => by cases z
theorem emp_len {α : Type} {m : List α} {xs : List V} {em : α → D} (r : RepL K B (m.map em) xs) : (!xs.isEmpty) = !m.isEmpty := by
  have := r.lenm
  cases m <;> cases xs <;> first | rfl | (simp at this)
end
end G
set_option maxRecDepth 100000
set_option maxHeartbeats 4000000
namespace G
open PySem PySem.Spec PyProof.Rows L2
/-! laws of Res -/
def Ok {α : Type} (r : Res α) (P : α → Prop) : Prop := ∃ a, r = .ok a ∧ P a
section
variable {α β σ ρ : Type} {P : α → Prop} {Q : β → Prop}
theorem Ok.bind {m : Res α} {f : α → Res β} (h : Ok m P) (k : ∀ a, P a → Ok (f a) Q) : Ok (m.bind f) Q := by
  obtain ⟨a, rfl, p⟩ := h; exact k a p
theorem Ok.ret {a : α} (h : P a) : Ok (.ok a) P := ⟨a, rfl, h⟩
theorem Ok.imp {m : Res α} {P' : α → Prop} (h : Ok m P) (k : ∀ a, P a → P' a) : Ok m P' := by
  obtain ⟨a, e, p⟩ := h; exact ⟨a, e, k a p⟩
theorem Ok.ite {c : Bool} {A B : Res α} (ht : c = true → Ok A P) (hf : c = false → Ok B P) : Ok (if c = true then A else B) P := by
  cases c with
  | true => exact ht rfl
  | false => exact hf rfl
theorem Ok.of {m : Res α} {a : α} (e : m = .ok a) (p : P a) : Ok m P := ⟨a, e, p⟩
theorem Ok.eq {m : Res α} {a : α} (h : Ok m (fun x => x = a)) : m = .ok a := by obtain ⟨x, e, rfl⟩ := h; exact e
theorem bind_eq {m : Res α} {f : α → Res β} {a : α} (e : m = .ok a) : m.bind f = f a := by rw [e]; rfl
/-- for loops -/
theorem Ok.forR_aux {f : σ → α → Res σ} : ∀ (items : List α) (I : Nat → σ → Prop) (k : Nat) (st : σ), I k st → (∀ i a s, items[i]? = some a → I (k + i) s → Ok (f s a) (I (k + i + 1))) → Ok (forR items st f) (I (k + items.length))
  | [], I, k, st, h0, _ => ⟨st, rfl, h0⟩
  | a :: as, I, k, st, h0, hs => by
    have h1 := hs 0 a st rfl h0
    show Ok ((f st a).bind fun s => forR as s f) _
    refine h1.bind fun s hi => ?_
    have := Ok.forR_aux as I (k + 1) s hi (fun i b s e q => by
      have q2 : I (k + (i + 1)) s := by rw [show k + (i + 1) = k + 1 + i by omega]; exact q
      have := hs (i + 1) b s (by simpa using e) q2
      rw [show k + (i + 1) + 1 = k + 1 + i + 1 by omega] at this
      exact this)
    rw [show k + (a :: as).length = k + 1 + as.length by rw [List.length_cons]; omega]
    exact this
theorem Ok.forR {items : List α} {st : σ} {f : σ → α → Res σ} (I : Nat → σ → Prop) (h0 : I 0 st) (hs : ∀ i a s, items[i]? = some a → I i s → Ok (f s a) (I (i + 1))) : Ok (forR items st f) (I items.length) := by
  have := Ok.forR_aux items I 0 st h0 (fun i a s e q => by
    rw [Nat.zero_add] at q ⊢; exact hs i a s e q)
  rw [Nat.zero_add] at this; exact this
/-- a loop that folds -/
theorem forR_fold {f : σ → α → Res σ} {g : σ → α → σ} (I : σ → Prop) : ∀ {items : List α} {st : σ}, I st → (∀ s a, a ∈ items → I s → f s a = .ok (g s a) ∧ I (g s a)) → forR items st f = .ok (items.foldl g st) ∧ I (items.foldl g st)
  | [], st, h0, _ => ⟨rfl, h0⟩
  | a :: as, st, h0, hs => by
    obtain ⟨e, hi⟩ := hs st a (List.mem_cons_self ..) h0
    have := forR_fold I (items := as) (st := g st a) hi fun s b hb q => hs s b (List.mem_cons_of_mem _ hb) q
    refine ⟨?_, this.2⟩
    show (f st a).bind (fun s => forR as s f) = _
    rw [e]; exact this.1
/-- loops with ways out that go to the end -/
theorem Ok.forX {f : σ → α → Res (Flow σ ρ)} (I : σ → Prop) : ∀ {items : List α} {st : σ}, I st → (∀ s a, a ∈ items → I s → Ok (f s a) fun fl => ∃ s', fl = .nx s' ∧ I s') → Ok (forX items st f) fun fl => ∃ s', fl = .nx s' ∧ I s'
  | [], st, h0, _ => ⟨_, rfl, st, rfl, h0⟩
  | a :: as, st, h0, hs => by
    show Ok ((f st a).bind _) _
    refine (hs st a (List.mem_cons_self ..) h0).bind fun fl hfl => ?_
    obtain ⟨s', rfl, hi⟩ := hfl
    exact Ok.forX I (items := as) hi fun s b hb q => hs s b (List.mem_cons_of_mem _ hb) q
/-- comprehensions -/
theorem Ok.compGo {f : σ → α → Res (σ × Option β)} : ∀ (items : List α) (I : Nat → σ → List β → Prop) (k : Nat) (st : σ) (acc : List β), I k st acc →
    (∀ i a s acc, items[i]? = some a → I (k + i) s acc → Ok (f s a) fun p => I (k + i + 1) p.1 (match p.2 with | some b => acc ++ [b] | none => acc)) → Ok (compR.compGo items st acc f) fun p => I (k + items.length) p.1 p.2
  | [], I, k, st, acc, h0, _ => ⟨_, rfl, h0⟩
  | a :: as, I, k, st, acc, h0, hs => by
    show Ok ((f st a).bind fun p => compR.compGo as p.1 (match p.2 with | some b => acc ++ [b] | none => acc) f) _
    refine (hs 0 a st acc rfl h0).bind fun p hp => ?_
    have := Ok.compGo as I (k + 1) p.1 _ hp (fun i b s acc e q => by
      have q2 : I (k + (i + 1)) s acc := by rw [show k + (i + 1) = k + 1 + i by omega]; exact q
      have := hs (i + 1) b s acc (by simpa using e) q2
      rw [show k + (i + 1) + 1 = k + 1 + i + 1 by omega] at this
      exact this)
    rw [show k + (a :: as).length = k + 1 + as.length by rw [List.length_cons]; omega]
    exact this
theorem Ok.compR {items : List α} {st : σ} {f : σ → α → Res (σ × Option β)} (I : Nat → σ → List β → Prop) (hl : items.length ≤ 100000) (h0 : I 0 st []) (hs : ∀ i a s acc, items[i]? = some a → I i s acc → Ok (f s a) fun p => I (i + 1) p.1 (match p.2 with | some b => acc ++ [b] | none => acc)) :
    Ok (compR items st f) fun p => I items.length p.1 p.2 := by
  unfold G.compR
  rw [if_pos hl]
  have := Ok.compGo items I 0 st [] h0 (fun i a s acc e q => by
    rw [Nat.zero_add] at q ⊢; exact hs i a s acc e q)
  rw [Nat.zero_add] at this; exact this
/-- each item gives an item; what is drawn keeps J -/
theorem Ok.compD {items : List α} {st : σ} {f : σ → α → Res (σ × Option β)} (J : σ → Prop) (R : β → Prop) (hl : items.length ≤ 100000) (h0 : J st) (hs : ∀ s a, a ∈ items → J s → Ok (f s a) fun p => J p.1 ∧ ∃ b, p.2 = some b ∧ R b) :
    Ok (G.compR items st f) fun p => J p.1 ∧ p.2.length = items.length ∧ ∀ b ∈ p.2, R b := by
  refine Ok.imp (Ok.compR (fun i s acc => J s ∧ acc.length = i ∧ ∀ b ∈ acc, R b) hl ⟨h0, rfl, fun b hb => by cases hb⟩ fun i a s acc e q => ?_) fun p hp => hp
  refine (hs s a (List.mem_of_getElem? e) q.1).imp fun p hp => ?_
  obtain ⟨j, b, eb, rb⟩ := hp
  rw [eb]
  refine ⟨j, by rw [List.length_append, q.2.1]; rfl, fun c hc => ?_⟩
  rcases List.mem_append.mp hc with hc | hc
  · exact q.2.2 c hc
  · rw [List.mem_singleton.mp hc]; exact rb
theorem compGo_map {f : Unit → α → Res (Unit × Option β)} {g : α → β} : ∀ (items : List α) (acc : List β), (∀ a ∈ items, f () a = .ok ((), some (g a))) → compR.compGo items () acc f = .ok ((), acc ++ items.map g)
  | [], acc, _ => by rw [List.map_nil, List.append_nil]; rfl
  | a :: as, acc, hs => by
    show (f () a).bind (fun p => compR.compGo as p.1 _ f) = _
    rw [hs a (List.mem_cons_self ..)]
    show compR.compGo as () (acc ++ [g a]) f = _
    rw [compGo_map as _ fun b hb => hs b (List.mem_cons_of_mem _ hb), List.map_cons, List.append_assoc]; rfl
theorem compR_map {items : List α} {f : Unit → α → Res (Unit × Option β)} (g : α → β) (hl : items.length ≤ 100000) (hs : ∀ a ∈ items, f () a = .ok ((), some (g a))) : compR items () f = .ok ((), items.map g) := by
  unfold compR
  rw [if_pos hl, compGo_map items [] hs, List.nil_append]
theorem compGo_filter {f : Unit → α → Res (Unit × Option α)} {c : α → Bool} : ∀ (items : List α) (acc : List α), (∀ a ∈ items, f () a = .ok ((), if c a = true then some a else none)) → compR.compGo items () acc f = .ok ((), acc ++ items.filter c)
  | [], acc, _ => by rw [List.filter_nil, List.append_nil]; rfl
  | a :: as, acc, hs => by
    show (f () a).bind (fun p => compR.compGo as p.1 _ f) = _
    rw [hs a (List.mem_cons_self ..)]
    show compR.compGo as () (match (if c a = true then some a else none) with | some b => acc ++ [b] | none => acc) f = _
    by_cases q : c a = true
    · rw [if_pos q, List.filter_cons_of_pos q]
      show compR.compGo as () (acc ++ [a]) f = _
      rw [compGo_filter as _ fun b hb => hs b (List.mem_cons_of_mem _ hb), List.append_assoc]; rfl
    · rw [if_neg q, List.filter_cons_of_neg q]
      exact compGo_filter as _ fun b hb => hs b (List.mem_cons_of_mem _ hb)
theorem compR_filter {items : List α} {f : Unit → α → Res (Unit × Option α)} (c : α → Bool) (hl : items.length ≤ 100000) (hs : ∀ a ∈ items, f () a = .ok ((), if c a = true then some a else none)) : compR items () f = .ok ((), items.filter c) := by
  unfold compR
  rw [if_pos hl, compGo_filter items [] hs, List.nil_append]
end
/-! places -/
section
variable {α : Type} [Inhabited α]
def at0 (l : List α) (i : Int) : α := l.getD i.toNat default
theorem at0_get {l : List α} {i : Int} (h0 : 0 ≤ i) (h1 : i < l.length) : l[i.toNat]? = some (at0 l i) := by
  have h : i.toNat < l.length := by omega
  unfold at0
  rw [List.getD_eq_getElem?_getD, List.getElem?_eq_getElem h]; rfl
theorem at0_mem {l : List α} {i : Int} (h0 : 0 ≤ i) (h1 : i < l.length) : at0 l i ∈ l := List.mem_of_getElem? (at0_get h0 h1)
theorem ixR_at {l : List α} {i : Int} (h0 : 0 ≤ i) (h1 : i < l.length) : ixR l i = .ok (at0 l i) := by
  have e := at0_get h0 h1
  unfold ixR atI
  have : ixN l.length i = some i.toNat := by
    unfold ixN
    simp [h0, h1]
  rw [this]
  show Res.ofO (l[i.toNat]?) = _
  rw [e]; rfl
theorem ixR_last {l : List α} (h : l ≠ []) : ∃ a, ixR l (-(1 : Int)) = .ok a ∧ l.getLast? = some a := by
  have hp : 0 < l.length := List.length_pos_iff.mpr h
  have : ixN l.length (-(1 : Int)) = some (l.length - 1) := by
    unfold ixN
    have e1 : ¬ (0 : Int) ≤ -1 := by decide
    simp [e1]
    omega
  refine ⟨l.getLast h, ?_, List.getLast?_eq_some_getLast h⟩
  unfold ixR atI
  rw [this]
  show Res.ofO (l[l.length - 1]?) = _
  rw [← List.getLast?_eq_getElem?, List.getLast?_eq_some_getLast h]; rfl
theorem ixR_mem {l : List α} {i : Int} {a : α} (h : ixR l i = .ok a) : a ∈ l := by
  obtain ⟨j, _, e⟩ := ixR_ok h
  exact List.mem_of_getElem? e
end
end G
set_option maxRecDepth 100000
set_option maxHeartbeats 4000000
namespace G
open PySem PySem.Spec PyProof.Rows L2
/-! steps again and again -/
def itn {α : Type} (f : α → α) : Nat → α → α
  | 0, x => x
  | n + 1, x => itn f n (f x)
section
variable {α : Type} {f : α → α}
theorem itn_add : ∀ (a b : Nat) (x : α), itn f (a + b) x = itn f b (itn f a x)
  | 0, b, x => by rw [Nat.zero_add]; rfl
  | a + 1, b, x => by rw [show a + 1 + b = (a + b) + 1 by omega]; exact itn_add a b (f x)
theorem itn_one (n : Nat) (x : α) : itn f (n + 1) x = f (itn f n x) := itn_add n 1 x
theorem itn_inv {P : α → Prop} (h : ∀ x, P x → P (f x)) : ∀ (n : Nat) {x : α}, P x → P (itn f n x)
  | 0, _, p => p
  | n + 1, x, p => itn_inv h n (h x p)
theorem itn_comm {g : α → α} (h : ∀ x, f (g x) = g (f x)) : ∀ (n : Nat) (x : α), itn f n (g x) = g (itn f n x)
  | 0, _ => rfl
  | n + 1, x => by
    show itn f n (f (g x)) = g (itn f n (f x))
    rw [h, itn_comm h n]
theorem foldl_range {β : Type} (l : List β) (x : α) : l.foldl (fun s _ => f s) x = itn f l.length x := by
  induction l generalizing x with
  | nil => rfl
  | cons a l ih => exact ih (f x)
theorem foldl_rep {β : Type} {g : α → β → α} (l : List β) : ∀ (n : Nat) (x : α), ((List.replicate n l).flatten).foldl g x = itn (fun s => l.foldl g s) n x
  | 0, _ => rfl
  | n + 1, x => by
    rw [List.replicate_succ, List.flatten_cons, List.foldl_append]
    exact foldl_rep l n _
end
/-! a table: where each state leads, what it gains -/
instance iIP : Inhabited (Int × Int) := ⟨(0, 0)⟩
def ap (T : List (Int × Int)) (s : Int × Int) : Int × Int := ((at0 T s.1).1, s.2 + (at0 T s.1).2)
def TOk (T : List (Int × Int)) : Prop := ∀ q ∈ T, 0 ≤ q.1 ∧ q.1 < (T.length : Int)
def sh (c : Int) (p : Int × Int) : Int × Int := (p.1, p.2 + c)
theorem ap_sh (T : List (Int × Int)) (c : Int) (p : Int × Int) : ap T (sh c p) = sh c (ap T p) := by
  unfold ap sh
  dsimp only
  rw [Int.add_right_comm]
theorem sh_add (a b : Int) (p : Int × Int) : sh a (sh b p) = sh (b + a) p := by unfold sh; dsimp only; rw [Int.add_assoc]
theorem ap_in {T : List (Int × Int)} (h : TOk T) {s : Int × Int} (hs : 0 ≤ s.1 ∧ s.1 < (T.length : Int)) : 0 ≤ (ap T s).1 ∧ (ap T s).1 < (T.length : Int) := h (at0 T s.1) (at0_mem hs.1 hs.2)
theorem it_in {T : List (Int × Int)} (h : TOk T) (n : Nat) {s : Int × Int} (hs : 0 ≤ s.1 ∧ s.1 < (T.length : Int)) : 0 ≤ (itn (ap T) n s).1 ∧ (itn (ap T) n s).1 < (T.length : Int) :=
  itn_inv (P := fun s : Int × Int => 0 ≤ s.1 ∧ s.1 < (T.length : Int)) (fun _ q => ap_in h q) n hs
theorem it_sh (T : List (Int × Int)) (c : Int) (n : Nat) (p : Int × Int) : itn (ap T) n (sh c p) = sh c (itn (ap T) n p) := itn_comm (fun x => ap_sh T c x) n p
/-- a state comes again: the rest by whole rounds -/
theorem rounds {T : List (Int × Int)} {a b : Int × Int} {d : Nat} (hd : itn (ap T) d a = b) (h : b.1 = a.1) : ∀ q : Nat, itn (ap T) (d * q) b = sh ((b.2 - a.2) * q) b
  | 0 => by
    show itn (ap T) 0 b = _
    unfold sh
    simp [itn]
  | q + 1 => by
    have e : b = sh (b.2 - a.2) a := by
      unfold sh
      rw [← h]
      exact Prod.ext rfl (by show b.2 = a.2 + (b.2 - a.2); omega)
    have e2 : itn (ap T) d b = sh (b.2 - a.2) b := by
      have := it_sh T (b.2 - a.2) d a
      rw [hd, ← e] at this
      exact this
    rw [show d * (q + 1) = d + d * q by rw [Nat.mul_succ, Nat.add_comm], itn_add, e2, it_sh, rounds hd h q, sh_add]
    congr 1
    rw [Int.natCast_succ, Int.mul_add, Int.mul_one, Int.add_comm]
end G
set_option maxRecDepth 100000
set_option maxHeartbeats 4000000
namespace G
open PySem PySem.Spec PyProof.Rows L2
def m_l_begun (u0 : (List Int)) : Res Src :=
  (compR (cutA u0 none (some (63 : Int))) () (fun _ (a30 : Int) =>
    .ok ((), some (if a30 < 0 then -a30 else a30)))).bind fun (_, x19) =>
  if (!(x19).isEmpty) = true then
    (.ok (⟨x19, 0, 1⟩ : Src))
  else
    (.ok (⟨([(1 : Int)] : List Int), 0, 1⟩ : Src))
def m_l_take (s0 : Src) (u1 : Int) : Res (Src × Int) :=
  (fmodR s0.at_ (s0.cells.length : Int)).bind fun t1 =>
  (ixR s0.cells (s0.at_.fmod (s0.cells.length : Int))).bind fun t3 =>
  if (decide (((10 : Int) ^ ((18 : Int)).toNat) ≤ t3)) = true then
    ((fdivR t3 u1).bind fun t8 =>
    (ixNR s0.cells.length (s0.at_.fmod (s0.cells.length : Int))).bind fun j12 =>
    (fmodR t3 u1).bind fun t14 =>
    .ok ((⟨s0.cells.set j12 (t3.fdiv u1), s0.at_, s0.mix⟩ : Src), (t3.fmod u1)))
  else
    ((mulR (⟨(⟨s0.cells, (s0.at_ + (1 : Int)), s0.mix⟩ : Src).cells, (⟨s0.cells, (s0.at_ + (1 : Int)), s0.mix⟩ : Src).at_, ((((((⟨s0.cells, (s0.at_ + (1 : Int)), s0.mix⟩ : Src).mix * (48271 : Int)) + t3) + ((7919 : Int) * (⟨s0.cells, (s0.at_ + (1 : Int)), s0.mix⟩ : Src).at_)) + (12345 : Int)) % (2147483647 : Int))⟩ : Src).mix (⟨(⟨s0.cells, (s0.at_ + (1 : Int)), s0.mix⟩ : Src).cells, (⟨s0.cells, (s0.at_ + (1 : Int)), s0.mix⟩ : Src).at_, ((((((⟨s0.cells, (s0.at_ + (1 : Int)), s0.mix⟩ : Src).mix * (48271 : Int)) + t3) + ((7919 : Int) * (⟨s0.cells, (s0.at_ + (1 : Int)), s0.mix⟩ : Src).at_)) + (12345 : Int)) % (2147483647 : Int))⟩ : Src).mix).bind fun t20 =>
    (fmodR ((((⟨(⟨s0.cells, (s0.at_ + (1 : Int)), s0.mix⟩ : Src).cells, (⟨s0.cells, (s0.at_ + (1 : Int)), s0.mix⟩ : Src).at_, ((((((⟨s0.cells, (s0.at_ + (1 : Int)), s0.mix⟩ : Src).mix * (48271 : Int)) + t3) + ((7919 : Int) * (⟨s0.cells, (s0.at_ + (1 : Int)), s0.mix⟩ : Src).at_)) + (12345 : Int)) % (2147483647 : Int))⟩ : Src).mix * (⟨(⟨s0.cells, (s0.at_ + (1 : Int)), s0.mix⟩ : Src).cells, (⟨s0.cells, (s0.at_ + (1 : Int)), s0.mix⟩ : Src).at_, ((((((⟨s0.cells, (s0.at_ + (1 : Int)), s0.mix⟩ : Src).mix * (48271 : Int)) + t3) + ((7919 : Int) * (⟨s0.cells, (s0.at_ + (1 : Int)), s0.mix⟩ : Src).at_)) + (12345 : Int)) % (2147483647 : Int))⟩ : Src).mix) % (2147483629 : Int)) / (16 : Int)) u1).bind fun t22 =>
    .ok ((⟨(⟨s0.cells, (s0.at_ + (1 : Int)), s0.mix⟩ : Src).cells, (⟨s0.cells, (s0.at_ + (1 : Int)), s0.mix⟩ : Src).at_, ((((((⟨s0.cells, (s0.at_ + (1 : Int)), s0.mix⟩ : Src).mix * (48271 : Int)) + t3) + ((7919 : Int) * (⟨s0.cells, (s0.at_ + (1 : Int)), s0.mix⟩ : Src).at_)) + (12345 : Int)) % (2147483647 : Int))⟩ : Src), (((((⟨(⟨s0.cells, (s0.at_ + (1 : Int)), s0.mix⟩ : Src).cells, (⟨s0.cells, (s0.at_ + (1 : Int)), s0.mix⟩ : Src).at_, ((((((⟨s0.cells, (s0.at_ + (1 : Int)), s0.mix⟩ : Src).mix * (48271 : Int)) + t3) + ((7919 : Int) * (⟨s0.cells, (s0.at_ + (1 : Int)), s0.mix⟩ : Src).at_)) + (12345 : Int)) % (2147483647 : Int))⟩ : Src).mix * (⟨(⟨s0.cells, (s0.at_ + (1 : Int)), s0.mix⟩ : Src).cells, (⟨s0.cells, (s0.at_ + (1 : Int)), s0.mix⟩ : Src).at_, ((((((⟨s0.cells, (s0.at_ + (1 : Int)), s0.mix⟩ : Src).mix * (48271 : Int)) + t3) + ((7919 : Int) * (⟨s0.cells, (s0.at_ + (1 : Int)), s0.mix⟩ : Src).at_)) + (12345 : Int)) % (2147483647 : Int))⟩ : Src).mix) % (2147483629 : Int)) / (16 : Int)).fmod u1)))
def m_l_pick (s0 : Src) (u1 : (List Int)) : Res (Src × Int) :=
  (m_l_take s0 (u1.length : Int)).bind fun t6 =>
  (ixR u1 t6.2).bind fun t16 =>
  .ok (t6.1, t16)
def m_l_pick_1 (s0 : Src) (u1 : (List Str)) : Res (Src × Str) :=
  (m_l_take s0 (u1.length : Int)).bind fun t6 =>
  (ixR u1 t6.2).bind fun t16 =>
  .ok (t6.1, t16)
def m_l_pick_2 (s0 : Src) (u1 : Str) : Res (Src × Nat) :=
  (lenS u1).bind fun t1 =>
  (m_l_take s0 (u1.length : Int)).bind fun t3 =>
  (ixS u1 t3.2).bind fun t13 =>
  .ok (t3.1, t13)
def m_l_labels (s0 : Src) (u1 : Int) : Res (Src × (List Str)) :=
  (rangeR (0 : Int) u1).bind fun l32 =>
  (forR l32 (s0, ([] : List Str)) (fun (s37, x35) (it297 : Int) =>
    (m_l_pick_1 s37 ([("a" : Str), ("b" : Str), ("ab" : Str), ("z" : Str), ("run" : Str), ("swap" : Str), ("once" : Str), ("pass" : Str), ("tell" : Str), ("step" : Str), ("same" : Str), ("zzzzzzzz" : Str)] : List Str)).bind fun t61 =>
    ((m_l_take t61.1 (4 : Int)).bind fun t85 =>
      if (decide (t85.2 = (0 : Int))) = true then
        ((m_l_take t85.1 (8 : Int)).bind fun t97 =>
        (rangeR (0 : Int) ((1 : Int) + t97.2)).bind fun l108 =>
        (compR l108 t97.1 (fun s125 (it162 : Int) =>
          (m_l_pick_2 s125 ("abcdefghijklmnopqrstuvwxyz" : Str)).bind fun t143 =>
          .ok (t143.1, some t143.2))).bind fun (s125, x123) =>
        (joinR ("" : Str) (x123.map sgn)).bind fun t160 =>
        .ok (s125, (Txt.join ("" : Str) (x123.map sgn))))
      else
        (.ok (t85.1, t61.2))).bind fun (s77, x76) =>
    (compR (("abcdefghijklmnopqrstuvwxyz" : Str).cps.toList) () (fun _ (c200 : Nat) =>
      (cutSR x76 none (some (7 : Int))).bind fun t208 =>
      (addS (cutS x76 none (some (7 : Int))) (⟨#[c200]⟩ : Str)).bind fun t210 =>
      .ok ((), some ((cutS x76 none (some (7 : Int))) ++ (⟨#[c200]⟩ : Str))))).bind fun (_, x187) =>
    (catR ([x76] : List Str) x187).bind fun t217 =>
    (compR (([x76] : List Str) ++ x187) () (fun _ (a266 : Str) =>
      if (!decide (a266 ∈ x35)) = true then
        (.ok ((), some a266))
      else
        (.ok ((), none)))).bind fun (_, x251) =>
    (ixR x251 (0 : Int)).bind fun t284 =>
    (lenG x35).bind fun t288 =>
    .ok (s77, (x35 ++ [t284])))).bind fun (s37, x35) =>
  .ok (s37, x35)
def m_l_any_gain (s0 : Src)  : Res (Src × Int) :=
  (m_l_take s0 (1999 : Int)).bind fun t1 =>
  (m_l_pick t1.1 ([(0 : Int), (0 : Int), (0 : Int), (1 : Int), (1 : Int), (-(1 : Int)), (2 : Int), (t1.2 - (999 : Int))] : List Int)).bind fun t24 =>
  .ok (t24.1, t24.2)
def m_l_any_rows (s0 : Src) (u1 : (List Str)) (u2 : Int) : Res (Src × (List (List (Int × Int)))) :=
  (m_l_take s0 (3 : Int)).bind fun t1 =>
  (compR u1 t1.1 (fun s38 (a49 : Str) =>
    (m_l_take s38 u2).bind fun t58 =>
    .ok (t58.1, some t58.2))).bind fun (s38, x36) =>
  (compR u1 s38 (fun s96 (a108 : Str) =>
    (m_l_any_gain s96).bind fun t117 =>
    .ok (t117.1, some t117.2))).bind fun (s96, x94) =>
  (rangeR (0 : Int) u2).bind fun l158 =>
  (forR l158 (s96, ([] : List (List (Int × Int)))) (fun (s163, x161) (it517 : Int) =>
    (rangeR (0 : Int) (u1.length : Int)).bind fun l192 =>
    (compR l192 () (fun _ (it508 : Int) =>
      (ixR x36 it508).bind fun t226 =>
      (fmodR (it517 + t226) u2).bind fun t230 =>
      (ixR x94 it508).bind fun t232 =>
      .ok ((), some (((it517 + t226).fmod u2), t232)))).bind fun (_, x207) =>
    (if (decide (t1.2 = (0 : Int))) = true then
        ((m_l_take s163 u2).bind fun t265 =>
        (m_l_any_gain t265.1).bind fun t277 =>
        (m_l_take t277.1 (u1.length : Int)).bind fun t303 =>
        (ixNR x207.length t303.2).bind fun j315 =>
        .ok (t303.1, (x207.set j315 (t265.2, t277.2))))
      else
        (if (decide (t1.2 = (1 : Int))) = true then
          ((m_l_take s163 (4 : Int)).bind fun t322 =>
          if (decide (t322.2 = (0 : Int))) = true then
            ((m_l_take t322.1 u2).bind fun t335 =>
            (m_l_any_gain t335.1).bind fun t347 =>
            (m_l_take t347.1 (u1.length : Int)).bind fun t373 =>
            (ixNR x207.length t373.2).bind fun j385 =>
            .ok (t373.1, (x207.set j385 (t335.2, t347.2))))
          else
            (.ok (t322.1, x207)))
        else
          (.ok (s163, x207)))).bind fun (s255, x253) =>
    (if (decide (t1.2 = (0 : Int))) = true then
        ((compR u1 s255 (fun s431 (a443 : Str) =>
          (m_l_take s431 u2).bind fun t452 =>
          (m_l_any_gain t452.1).bind fun t465 =>
          .ok (t465.1, some (t452.2, t465.2)))).bind fun (s431, x429) =>
        .ok (s431, x429))
      else
        (.ok (s255, x253))).bind fun (s398, x396) =>
    (lenG x161).bind fun t502 =>
    .ok (s398, (x161 ++ [x396])))).bind fun (s163, x161) =>
  .ok (s163, x161)
def m_l_story (s0 : Src) (u1 : Int) : Res (Src × ((List Str) × (List ((List Int) × (List (List (Int × Int))))) × (List (Str × Int)))) :=
  (m_l_pick s0 ([(0 : Int), (1 : Int), (1 : Int), (2 : Int), (2 : Int)] : List Int)).bind fun t14 =>
  (m_l_labels t14.1 ((1 : Int) + t14.2)).bind fun t24 =>
  (sortS t24.2).bind fun t39 =>
  (m_l_take t24.1 u1).bind fun t64 =>
  (m_l_take t64.1 u1).bind fun t76 =>
  (m_l_take t76.1 ((1 : Int) + t64.2)).bind fun t96 =>
  (m_l_any_rows t96.1 t39 ((1 : Int) + t64.2)).bind fun t117 =>
  ((m_l_take t117.1 (3 : Int)).bind fun t168 =>
    if (decide ((0 : Int) < t168.2)) = true then
      ((rangeR (0 : Int) ((1 : Int) + t64.2)).bind fun l182 =>
      (compR l182 t168.1 (fun s203 (it287 : Int) =>
        (m_l_take s203 ((1 : Int) + t76.2)).bind fun t223 =>
        .ok (t223.1, some t223.2))).bind fun (s203, x201) =>
      (m_l_any_rows s203 t39 ((1 : Int) + t76.2)).bind fun t254 =>
      (lenG ([(([t96.2] : List Int), t117.2)] : List ((List Int) × (List (List (Int × Int)))))).bind fun t279 =>
      .ok (t254.1, (([(([t96.2] : List Int), t117.2)] : List ((List Int) × (List (List (Int × Int))))) ++ [(x201, t254.2)])))
    else
      (.ok (t168.1, ([(([t96.2] : List Int), t117.2)] : List ((List Int) × (List (List (Int × Int)))))))).bind fun (s155, x153) =>
  (m_l_labels s155 (2 : Int)).bind fun t288 =>
  (ixR x153 (-(1 : Int))).bind fun t317 =>
  (compR t317.2 t288.1 (fun s347 (a360 : (List (Int × Int))) =>
    (m_l_pick_1 s347 t288.2).bind fun t369 =>
    (m_l_any_gain t369.1).bind fun t383 =>
    .ok (t383.1, some (t369.2, t383.2)))).bind fun (s347, x345) =>
  .ok (s347, (t39, x153, x345))
def m_is_name (u0 : Str) : Res Bool :=
  (lenS u0).bind fun t1 =>
  if (decide ((1 : Int) ≤ (u0.length : Int))) = true then
    (if (!(decide ((u0.length : Int) ≤ (8 : Int)))) = true then
      (.ok false)
    else
      ((compR u0.cps.toList () (fun _ (c25 : Nat) =>
        .ok ((), some (decide (c25 ∈ ("abcdefghijklmnopqrstuvwxyz" : Str).cps.toList))))).bind fun (_, x15) =>
      .ok (x15.all id)))
  else
    (.ok false)
def m_are_kinds (u0 : (List Str)) : Res Bool :=
  if (decide ((1 : Int) ≤ (u0.length : Int))) = true then
    (if (!(decide ((u0.length : Int) ≤ (4 : Int)))) = true then
      (.ok false)
    else
      ((compR u0 () (fun _ (a38 : Str) =>
        (m_is_name a38).bind fun t47 =>
        .ok ((), some t47))).bind fun (_, x28) =>
      if (!(x28.all id)) = true then
        (.ok false)
      else
        ((compR (List.zip u0 (cutA u0 (some (1 : Int)) none)) () (fun _ (it128 : (Str × Str)) =>
          .ok ((), some (decide (it128.1.cps.toList < it128.2.cps.toList))))).bind fun (_, x91) =>
        .ok (x91.all id))))
  else
    (.ok false)
def m_is_integer (u0 : Int) : Res Bool :=
  .ok true
def m_is_state (u0 : Int) (u1 : Int) : Res Bool :=
  (m_is_integer u1).bind fun t1 =>
  if t1 = true then
    (if (decide ((0 : Int) ≤ u1)) = true then
      (.ok (decide (u1 < u0)))
    else
      (.ok false))
  else
    (.ok false)
def m_is_pair (u0 : Int) (u1 : (Int × Int)) : Res Bool :=
  if (decide (((2 : Nat) : Int) = (2 : Int))) = true then
    ((m_is_state u0 u1.1).bind fun t14 =>
    if t14 = true then
      ((m_is_integer u1.2).bind fun t26 =>
      .ok t26)
    else
      (.ok false))
  else
    (.ok false)
def m_are_rows (u0 : Int) (u1 : (List (List (Int × Int)))) : Res Bool :=
  (eqD ((fun (l : List (List (Int × Int))) => D.tup (l.map (fun (l : List (Int × Int)) => D.tup (l.map (fun (p : (Int × Int)) => D.tup [D.int p.1, D.int p.2]))))) u1) ((fun (l : List (List (Int × Int))) => D.tup (l.map (fun (l : List (Int × Int)) => D.tup (l.map (fun (p : (Int × Int)) => D.tup [D.int p.1, D.int p.2]))))) ([] : List (List (Int × Int))))).bind fun b12 =>
  if b12 = true then
    (.ok false)
  else
    ((compR u1 () (fun _ (a40 : (List (Int × Int))) =>
      .ok ((), some (decide ((a40.length : Int) = u0))))).bind fun (_, x30) =>
    if (!(x30.all id)) = true then
      (.ok false)
    else
      ((compR u1 () (fun _ (a91 : (List (Int × Int))) =>
        (compR a91 () (fun _ (a131 : (Int × Int)) =>
          (m_is_pair (u1.length : Int) a131).bind fun t145 =>
          .ok ((), some t145))).bind fun (_, x119) =>
        .ok ((), some (x119.all id)))).bind fun (_, x80) =>
      .ok (x80.all id)))
def m_is_pass (u0 : Int) (u1 : Int) (u2 : ((List Int) × (List (List (Int × Int))))) : Res Bool :=
  if (!decide (((2 : Nat) : Int) = (2 : Int))) = true then
    (.ok false)
  else
    ((m_are_rows u0 u2.2).bind fun t14 =>
    if (!t14) = true then
      (.ok false)
    else
      (if (!decide ((u2.1.length : Int) = u1)) = true then
        (.ok false)
      else
        ((compR u2.1 () (fun _ (a66 : Int) =>
          (m_is_state (u2.2.length : Int) a66).bind fun t82 =>
          .ok ((), some t82))).bind fun (_, x56) =>
        .ok (x56.all id))))
def m_are_passes (u0 : Int) (u1 : (List ((List Int) × (List (List (Int × Int)))))) : Res Bool :=
  if (decide ((1 : Int) ≤ (u1.length : Int))) = true then
    (if (!(decide ((u1.length : Int) ≤ (2 : Int)))) = true then
      (.ok false)
    else
      ((ixR u1 (0 : Int)).bind fun t13 =>
      (m_is_pass u0 (1 : Int) t13).bind fun t17 =>
      if (!t17) = true then
        (.ok false)
      else
        ((compR (cutA u1 (some (1 : Int)) none) () (fun _ (a59 : ((List Int) × (List (List (Int × Int))))) =>
          (ixR u1 (0 : Int)).bind fun t68 =>
          (m_is_pass u0 (t68.2.length : Int) a59).bind fun t79 =>
          .ok ((), some t79))).bind fun (_, x49) =>
        .ok (x49.all id))))
  else
    (.ok false)
def m_is_tell (u0 : (Str × Int)) : Res Bool :=
  if (decide (((2 : Nat) : Int) = (2 : Int))) = true then
    ((m_is_name u0.1).bind fun t14 =>
    if t14 = true then
      ((m_is_integer u0.2).bind fun t26 =>
      .ok t26)
    else
      (.ok false))
  else
    (.ok false)
def m_Program___init__ (u1 : (List Str)) (u2 : (List ((List Int) × (List (List (Int × Int)))))) (u3 : (List (Str × Int))) : Res Unit :=
  (m_are_kinds u1).bind fun t1 =>
  if (!t1) = true then
    (.bad)
  else
    ((m_are_passes (u1.length : Int) u2).bind fun t17 =>
    if (!t17) = true then
      (.bad)
    else
      ((ixR u2 (-(1 : Int))).bind fun t38 =>
      if (!decide ((u3.length : Int) = (t38.2.length : Int))) = true then
        (.bad)
      else
        ((compR u3 () (fun _ (a77 : (Str × Int)) =>
          (m_is_tell a77).bind fun t86 =>
          .ok ((), some t86))).bind fun (_, x66) =>
        if (!(x66.all id)) = true then
          (.bad)
        else
          (.ok ()))))
def m_l_pick_3 (s0 : Src) (u1 : (List Str)) : Res (Src × Str) :=
  (m_l_take s0 (u1.length : Int)).bind fun t6 =>
  (ixR u1 t6.2).bind fun t16 =>
  .ok (t6.1, t16)
def m_l_any_order (s0 : Src) (u1 : (List Str)) (u2 : Int) : Res (Src × (List Str)) :=
  (m_l_take s0 (u2 + (1 : Int))).bind fun t1 =>
  (rangeR (0 : Int) t1.2).bind fun l11 =>
  (compR l11 t1.1 (fun s26 (it65 : Int) =>
    (m_l_pick_3 s26 u1).bind fun t43 =>
    .ok (t43.1, some t43.2))).bind fun (s26, x24) =>
  .ok (s26, x24)
def m_l_ran (u0 : ((List Str) × (List ((List Int) × (List (List (Int × Int))))) × (List (Str × Int)))) (u1 : (List Str)) : Res (Str × Int) :=
  (forR u0.2.1 ((0 : Int), (0 : Int)) (fun (x22, x23) (a38 : ((List Int) × (List (List (Int × Int))))) =>
    (ixR a38.1 x22).bind fun t54 =>
    (forR u1 (t54, x23) (fun (x65, x66) (a79 : Str) =>
      (ixR a38.2 x65).bind fun t88 =>
      (indexS u0.1 a79).bind fun t100 =>
      (ixR t88 t100).bind fun t103 =>
      .ok (t103.1, (x66 + t103.2)))).bind fun (x65, x66) =>
    .ok (x65, x66))).bind fun (x22, x23) =>
  (ixR u0.2.2 x22).bind fun t114 =>
  (ixR u0.2.2 x22).bind fun t120 =>
  .ok (t114.1, (x23 + t120.2))
def m_need_order (u0 : Prog) (u1 : (List Str)) : Res Unit :=
  (forX (enumL u1) () (fun _ (it55 : (Int × Str)) =>
    if (!decide (it55.2 ∈ u0.kinds)) = true then
      (.bad)
    else
      (.ok (.nx ())))).bind fun fl => fl.go .ok fun _ =>
  .ok ()
def m_told_behind (u0 : Prog) (u1 : ((List (List (Int × Int))) → Int → Res (Int × Int))) : Res (Str × Int) :=
  (forR u0.passes ((0 : Int), (0 : Int)) (fun (x15, x16) (a32 : ((List Int) × (List (List (Int × Int))))) =>
    (ixR a32.1 x15).bind fun t48 =>
    (u1 a32.2 t48).bind fun t52 =>
    .ok (t52.1, (x16 + t52.2)))).bind fun (x15, x16) =>
  (ixR u0.tells x15).bind fun t70 =>
  .ok (t70.1, (x16 + t70.2))
def m_table_of (u0 : (List (List (Int × Int)))) (u1 : (List Int)) : Res (List (Int × Int)) :=
  (rangeR (0 : Int) (u0.length : Int)).bind fun l13 =>
  (forR l13 ([] : List (Int × Int)) (fun x16 (it98 : Int) =>
    (forR u1 (it98, (0 : Int)) (fun (x48, x49) (a63 : Int) =>
      (ixR u0 x48).bind fun t72 =>
      (ixR t72 a63).bind fun t76 =>
      .ok (t76.1, (x49 + t76.2)))).bind fun (x48, x49) =>
    (lenG x16).bind fun t94 =>
    .ok (x16 ++ [(x48, x49)]))).bind fun x16 =>
  .ok x16
def m_leaped (u0 : (List (Int × Int))) (u1 : Int) (u2 : Int) : Res (Int × Int) :=
  (whileX (u0.length + 2) (([] : List (Int × Int)), ([] : List Int), (0 : Int), u1) (fun (x18, x20, x16, x17) =>
    .ok (decide ((x20.length : Int) < u2)))
    (fun (x18, x20, x16, x17) =>
    if (dhas x18 x17) = true then
      ((dgetR x18 x17).bind fun t49 =>
      (ixR x20 t49).bind fun t54 =>
      (fmodR (u2 - (x20.length : Int)) ((x20.length : Int) - t49)).bind fun t58 =>
      (fdivR (u2 - (x20.length : Int)) ((x20.length : Int) - t49)).bind fun t60 =>
      (mulR (x16 - t54) ((u2 - (x20.length : Int)).fdiv ((x20.length : Int) - t49))).bind fun t62 =>
      (rangeR (0 : Int) ((u2 - (x20.length : Int)).fmod ((x20.length : Int) - t49))).bind fun l65 =>
      (forR l65 (x17, (x16 + ((x16 - t54) * ((u2 - (x20.length : Int)).fdiv ((x20.length : Int) - t49))))) (fun (x68, x69) (it110 : Int) =>
        (ixR u0 x68).bind fun t91 =>
        .ok (t91.1, (x69 + t91.2)))).bind fun (x68, x69) =>
      .ok (.rt (x68, x69)))
    else
      ((lenG x18).bind fun t111 =>
      (lenG x20).bind fun t116 =>
      (ixR u0 x17).bind fun t121 =>
      .ok (.nx ((dput x18 x17 (x20.length : Int)), (x20 ++ [x16]), (x16 + t121.2), t121.1))))).bind fun fl => fl.go .ok fun (x18, x20, x16, x17) =>
  .ok (x17, x16)
def m_repeated_outcome (u0 : Prog) (u1 : (List Str)) (u2 : Int) : Res (Str × Int) :=
  (m_need_order u0 u1).bind fun t1 =>
  (m_is_integer u2).bind fun t10 =>
  if (!t10) = true then
    (.bad)
  else
    (if (decide ((0 : Int) ≤ u2)) = true then
      (if (!(decide (u2 ≤ (1000000000000 : Int)))) = true then
        (.bad)
      else
        ((compR u1 () (fun _ (a47 : Str) =>
          (indexS u0.kinds a47).bind fun t66 =>
          .ok ((), some t66))).bind fun (_, x37) =>
        (m_told_behind u0 (fun (y98 : (List (List (Int × Int)))) (y101 : Int) =>
          (m_table_of y98 x37).bind fun t102 =>
          (m_leaped t102 y101 u2).bind fun t120 =>
          .ok t120)).bind fun t82 =>
        .ok t82))
    else
      (.bad))
def m_l_word_power (u0 : ((List Str) × (List ((List Int) × (List (List (Int × Int))))) × (List (Str × Int)))) (u1 : (List Str)) (u2 : Int) (u3 : Int) : Res (List (Int × Int)) :=
  (ixR u0.2.1 u2).bind fun t3 =>
  (rangeR (0 : Int) (t3.2.length : Int)).bind fun l14 =>
  (compR l14 () (fun _ (it404 : Int) =>
    .ok ((), some (it404, (0 : Int))))).bind fun (_, x26) =>
  (forR u1 x26 (fun x64 (a82 : Str) =>
    (indexS u0.1 a82).bind fun t101 =>
    (compR x64 () (fun _ (a129 : (Int × Int)) =>
      (ixR t3.2 a129.1).bind fun t145 =>
      (ixR t145 t101).bind fun t149 =>
      (ixR t3.2 a129.1).bind fun t155 =>
      (ixR t155 t101).bind fun t159 =>
      .ok ((), some (t149.1, (a129.2 + t159.2))))).bind fun (_, x119) =>
    .ok x119)).bind fun x64 =>
  (rangeR (0 : Int) (t3.2.length : Int)).bind fun l184 =>
  (compR l184 () (fun _ (it403 : Int) =>
    .ok ((), some (it403, (0 : Int))))).bind fun (_, x196) =>
  (whileX (u3.toNat + 1) (x196, x64, u3) (fun (x228, x230, x232) =>
    .ok (decide ((0 : Int) < x232)))
    (fun (x228, x230, x232) =>
    (if (decide ((x232 % (2 : Int)) = (1 : Int))) = true then
        ((compR x228 () (fun _ (a294 : (Int × Int)) =>
          (ixR x230 a294.1).bind fun t310 =>
          (ixR x230 a294.1).bind fun t316 =>
          .ok ((), some (t310.1, (a294.2 + t316.2))))).bind fun (_, x284) =>
        .ok x284)
      else
        (.ok x228)).bind fun x258 =>
    (compR x230 () (fun _ (a361 : (Int × Int)) =>
      (ixR x230 a361.1).bind fun t377 =>
      (ixR x230 a361.1).bind fun t383 =>
      .ok ((), some (t377.1, (a361.2 + t383.2))))).bind fun (_, x351) =>
    .ok (.nx (x258, x351, (x232 / (2 : Int)))))).bind fun fl => fl.go .ok fun (x228, x230, x232) =>
  .ok x228
def m_l_powered (u0 : ((List Str) × (List ((List Int) × (List (List (Int × Int))))) × (List (Str × Int)))) (u1 : (List Str)) (u2 : Int) : Res (Str × Int) :=
  (forR (enumL u0.2.1) ((0 : Int), (0 : Int)) (fun (x15, x16) (it99 : (Int × ((List Int) × (List (List (Int × Int)))))) =>
    (m_l_word_power u0 u1 it99.1 u2).bind fun t53 =>
    (ixR it99.2.1 x15).bind fun t62 =>
    (ixR t53 t62).bind fun t66 =>
    .ok (t66.1, (x16 + t66.2)))).bind fun (x15, x16) =>
  (ixR u0.2.2 x15).bind fun t79 =>
  (ixR u0.2.2 x15).bind fun t87 =>
  .ok (t79.1, (x16 + t87.2))
def m_need_order_1 (u0 : Prog) (u1 : (List Str)) : Res Unit :=
  (forX (enumL u1) () (fun _ (it55 : (Int × Str)) =>
    if (!decide (it55.2 ∈ u0.kinds)) = true then
      (.bad)
    else
      (.ok (.nx ())))).bind fun fl => fl.go .ok fun _ =>
  .ok ()
def m_repeated_outcome_1 (u0 : Prog) (u1 : (List Str)) (u2 : Int) : Res (Str × Int) :=
  (m_need_order_1 u0 u1).bind fun t1 =>
  (m_is_integer u2).bind fun t10 =>
  if (!t10) = true then
    (.bad)
  else
    (if (decide ((0 : Int) ≤ u2)) = true then
      (if (!(decide (u2 ≤ (1000000000000 : Int)))) = true then
        (.bad)
      else
        ((compR u1 () (fun _ (a47 : Str) =>
          (indexS u0.kinds a47).bind fun t66 =>
          .ok ((), some t66))).bind fun (_, x37) =>
        (m_told_behind u0 (fun (y98 : (List (List (Int × Int)))) (y101 : Int) =>
          (m_table_of y98 x37).bind fun t102 =>
          (m_leaped t102 y101 u2).bind fun t120 =>
          .ok t120)).bind fun t82 =>
        .ok t82))
    else
      (.bad))
def m_law (u0 : (List Int)) : Res Bool :=
  (m_l_begun u0).bind fun t1 =>
  (rangeR (0 : Int) (5 : Int)).bind fun l9 =>
  (forX l9 t1 (fun s12 (it286 : Int) =>
    (m_l_story s12 (6 : Int)).bind fun t40 =>
    (m_Program___init__ t40.2.1 t40.2.2.1 t40.2.2.2).bind fun t56 =>
    (rangeR (0 : Int) (5 : Int)).bind fun l73 =>
    (forX l73 t40.1 (fun s76 (it285 : Int) =>
      (m_l_any_order s76 t40.2.1 (10 : Int)).bind fun t103 =>
      (m_l_take t103.1 (13 : Int)).bind fun t113 =>
      (mulT t103.2 t113.2).bind fun t123 =>
      (m_l_ran t40.2 t123).bind fun t133 =>
      (m_repeated_outcome (Prog.mk t40.2.1 t40.2.2.1 t40.2.2.2) t103.2 t113.2).bind fun t143 =>
      (eqD ((fun (p : (Str × Int)) => D.tup [D.str p.1, D.int p.2]) t143) ((fun (p : (Str × Int)) => D.tup [D.str p.1, D.int p.2]) t133)).bind fun b153 =>
      if (!b153) = true then
        (.ok (.rt false))
      else
        ((m_l_powered t40.2 t103.2 t113.2).bind fun t156 =>
        (eqD ((fun (p : (Str × Int)) => D.tup [D.str p.1, D.int p.2]) t156) ((fun (p : (Str × Int)) => D.tup [D.str p.1, D.int p.2]) t133)).bind fun b166 =>
        if (!b166) = true then
          (.ok (.rt false))
        else
          ((m_l_take t113.1 (((10 : Int) ^ ((12 : Int)).toNat) + (1 : Int))).bind fun t169 =>
          (m_l_take t169.1 (60 : Int)).bind fun t179 =>
          (m_l_pick t179.1 ([t169.2, ((10 : Int) ^ ((12 : Int)).toNat), (((10 : Int) ^ ((12 : Int)).toNat) - (1 : Int)), t179.2] : List Int)).bind fun t202 =>
          (m_l_powered t40.2 t103.2 t202.2).bind fun t212 =>
          (m_repeated_outcome_1 (Prog.mk t40.2.1 t40.2.2.1 t40.2.2.2) t103.2 t202.2).bind fun t240 =>
          (m_repeated_outcome (Prog.mk t40.2.1 t40.2.2.1 t40.2.2.2) t103.2 t202.2).bind fun t257 =>
          (lenG ([t240] : List (Str × Int))).bind fun t268 =>
          (eqD (D.lst ((([t240] : List (Str × Int)) ++ [t257]).map (fun (p : (Str × Int)) => D.tup [D.str p.1, D.int p.2]))) (D.lst (([t212, t212] : List (Str × Int)).map (fun (p : (Str × Int)) => D.tup [D.str p.1, D.int p.2])))).bind fun b282 =>
          if (!b282) = true then
            (.ok (.rt false))
          else
            (.ok (.nx t202.1)))))).bind fun fl => fl.go (fun r => .ok (.rt r)) fun s76 =>
    .ok (.nx s76))).bind fun fl => fl.go .ok fun s12 =>
  .ok true
end G
set_option maxRecDepth 100000
set_option maxHeartbeats 4000000
namespace G
open PySem PySem.Spec PyProof.Rows L2
/-! guards that hold -/
theorem fmodR_eq {a b : Int} (h : b ≠ 0) : fmodR a b = .ok (a.fmod b) := if_pos h
theorem fdivR_eq {a b : Int} (h : 0 < b) (h2 : b < 2 ^ 199) : fdivR a b = .ok (a.fdiv b) := if_pos ⟨by omega, .inr ⟨h, by omega⟩⟩
theorem mulR_eq {a b : Int} (h : b.natAbs < 2 ^ 63) : mulR a b = .ok (a * b) := if_pos (.inr h)
theorem rangeR_eq {b : Int} (h0 : -1000 ≤ b) (h : b < 2 ^ 62) : rangeR 0 b = .ok ((List.range (b - 0).toNat).map fun (i : Nat) => (0 : Int) + (i : Int)) := if_pos ⟨by omega, by omega, by omega, h⟩
theorem lenG_eq {α : Type} {l : List α} (h : l.length < 100000) : lenG l = .ok () := if_pos h
/-! the source -/
def SI (s : Src) : Prop := s.cells ≠ [] ∧ s.mix.natAbs < 2 ^ 62
theorem take_ok {s : Src} (h : SI s) {m : Int} (h1 : 0 < m) (h2 : m < 2 ^ 199) : Ok (m_l_take s m) fun p => SI p.1 ∧ 0 ≤ p.2 ∧ p.2 < m := by
  obtain ⟨hc, hm⟩ := h
  have hl : (0 : Int) < s.cells.length := by
    have := List.length_pos_iff.mpr hc
    omega
  unfold m_l_take
  rw [bind_eq (fmodR_eq (by omega))]
  have i0 := Int.fmod_nonneg_of_pos s.at_ hl
  have i1 := Int.fmod_lt_of_pos s.at_ hl
  rw [bind_eq (ixR_at i0 i1)]
  refine Ok.ite (fun _ => ?_) (fun _ => ?_)
  · rw [bind_eq (fdivR_eq h1 h2)]
    have hj : ixNR s.cells.length (s.at_.fmod (s.cells.length : Int)) = .ok (s.at_.fmod (s.cells.length : Int)).toNat := by
      unfold ixNR ixN
      rw [if_pos i0, if_pos i1]; rfl
    rw [bind_eq hj, bind_eq (fmodR_eq (by omega))]
    refine Ok.ret ⟨⟨?_, hm⟩, Int.fmod_nonneg_of_pos _ h1, Int.fmod_lt_of_pos _ h1⟩
    intro e
    have := congrArg List.length e
    rw [List.length_set] at this
    exact hc (List.eq_nil_of_length_eq_zero this)
  · have hx : ∀ x : Int, (x % 2147483647).natAbs < 2 ^ 62 := fun x => by
      have a1 := Int.emod_nonneg x (show (2147483647 : Int) ≠ 0 by decide)
      have a2 := Int.emod_lt_of_pos x (show (0 : Int) < 2147483647 by decide)
      omega
    dsimp only
    rw [bind_eq (mulR_eq (Nat.lt_trans (hx _) (by decide))), bind_eq (fmodR_eq (by omega))]
    exact Ok.ret ⟨⟨hc, hx _⟩, Int.fmod_nonneg_of_pos _ h1, Int.fmod_lt_of_pos _ h1⟩
section
variable {s : Src}
theorem pick_ok (h : SI s) {l : List Int} (hl : l ≠ []) (hn : l.length < 100000) : Ok (m_l_pick s l) fun p => SI p.1 ∧ p.2 ∈ l := by
  have hp := List.length_pos_iff.mpr hl
  unfold m_l_pick
  refine (take_ok h (m := (l.length : Int)) (by omega) (by omega)).bind fun p hp2 => ?_
  rw [bind_eq (ixR_at hp2.2.1 hp2.2.2)]
  exact Ok.ret ⟨hp2.1, at0_mem hp2.2.1 hp2.2.2⟩
theorem pick1_ok (h : SI s) {l : List Str} (hl : l ≠ []) (hn : l.length < 100000) : Ok (m_l_pick_1 s l) fun p => SI p.1 ∧ p.2 ∈ l := by
  have hp := List.length_pos_iff.mpr hl
  unfold m_l_pick_1
  refine (take_ok h (m := (l.length : Int)) (by omega) (by omega)).bind fun p hp2 => ?_
  rw [bind_eq (ixR_at hp2.2.1 hp2.2.2)]
  exact Ok.ret ⟨hp2.1, at0_mem hp2.2.1 hp2.2.2⟩
theorem pick3_ok (h : SI s) {l : List Str} (hl : l ≠ []) (hn : l.length < 100000) : Ok (m_l_pick_3 s l) fun p => SI p.1 ∧ p.2 ∈ l := by
  have := pick1_ok h hl hn
  exact this
theorem gain_ok (h : SI s) : Ok (m_l_any_gain s) fun p => SI p.1 := by
  unfold m_l_any_gain
  refine (take_ok h (m := 1999) (by decide) (by decide)).bind fun p hp => ?_
  refine (pick_ok hp.1 (by simp) (by simp)).bind fun q hq => ?_
  exact Ok.ret hq.1
end
theorem cut63 (ns : List Int) (h : ns.length ≤ 63) : (cutA ns none (some (63 : Int))).length ≤ 100000 := by
  unfold cutA
  rw [List.length_take, List.length_drop]
  omega
theorem begun_ok (ns : List Int) (h : ns.length ≤ 63) : Ok (m_l_begun ns) SI := by
  unfold m_l_begun
  rw [bind_eq (compR_map (fun a30 => if a30 < 0 then -a30 else a30) (cut63 ns h) fun a _ => rfl)]
  refine Ok.ite (fun q => ?_) (fun q => ?_)
  · refine Ok.ret ⟨?_, show (1 : Int).natAbs < 2 ^ 62 by decide⟩
    intro z
    dsimp only at z q
    rw [z] at q; cases q
  · exact Ok.ret ⟨by simp, show (1 : Int).natAbs < 2 ^ 62 by decide⟩
/-! names -/
abbrev letters : List Nat := ("abcdefghijklmnopqrstuvwxyz" : Str).cps.toList
def GoodN (z : Str) : Prop := (1 ≤ z.length ∧ z.length ≤ 8) ∧ ∀ c ∈ z.cps.toList, c ∈ letters
instance (z : Str) : Decidable (GoodN z) := inferInstanceAs (Decidable ((_ ∧ _) ∧ ∀ c ∈ z.cps.toList, c ∈ letters))
theorem own_good : ∀ z ∈ ([("a" : Str), ("b" : Str), ("ab" : Str), ("z" : Str), ("run" : Str), ("swap" : Str), ("once" : Str), ("pass" : Str), ("tell" : Str), ("step" : Str), ("same" : Str), ("zzzzzzzz" : Str)] : List Str), GoodN z := by decide +kernel
theorem len26 : letters.length = 26 := by decide +kernel
theorem nd26 : letters.Nodup := by decide +kernel
theorem join_signs : ∀ x : List Nat, (Txt.join ("" : Str) (x.map sgn)).cps.toList = x := by
  intro x
  show (Builtin.Str.glued ("" : Str) (x.map sgn)).cps.toList = x
  rw [PySem.StrLaws.glued_eq_join]
  induction x with
  | nil => rfl
  | cons a x ih =>
    cases x with
    | nil => rfl
    | cons b x =>
      show ((sgn a ++ ("" : Str)) ++ Str.join ("" : Str) (sgn b :: x.map sgn)).cps.toList = _
      have e : ∀ p q : Str, (p ++ q).cps.toList = p.cps.toList ++ q.cps.toList := fun p q => by
        show (p.cps ++ q.cps).toList = _
        simp
      rw [e, e]
      have ih2 : (Str.join ("" : Str) (sgn b :: x.map sgn)).cps.toList = b :: x := ih
      rw [ih2]; rfl
theorem str_len (z : Str) : z.length = z.cps.toList.length := by
  show z.cps.size = _
  simp
theorem app_cps (p q : Str) : (p ++ q).cps.toList = p.cps.toList ++ q.cps.toList := by
  show (p.cps ++ q.cps).toList = _
  simp
theorem join_len (x : List Nat) : ((x.map sgn).map (·.length)).sum = x.length := by
  induction x with
  | nil => rfl
  | cons a x ih => rw [List.map_cons, List.map_cons, List.sum_cons, ih, List.length_cons]; show 1 + _ = _; omega
theorem joinR_eq {x : List Nat} (h : x.length ≤ 100000) : joinR ("" : Str) (x.map sgn) = .ok (Txt.join ("" : Str) (x.map sgn)) := by
  unfold joinR
  rw [join_len, List.length_map, if_pos]
  show x.length + x.length * 0 ≤ 100000
  omega
theorem cut7 (z : Str) : (cutS z none (some (7 : Int))).cps.toList = z.cps.toList.take 7 := by
  show (List.toArray _).toList = _
  rw [List.toList_toArray]
  show List.take (HT.sIx z.length z.length (some ((7 : Nat) : Int)) - 0) (List.drop 0 z.cps.toList) = _
  rw [HT.sIx_nat, List.drop_zero, Nat.sub_zero]
  rw [str_len]
  rcases Nat.le_total 7 z.cps.toList.length with h | h
  · rw [Nat.min_eq_left h]
  · rw [Nat.min_eq_right h, List.take_length, List.take_of_length_le h]
abbrev nextN (z : Str) (c : Nat) : Str := cutS z none (some (7 : Int)) ++ (⟨#[c]⟩ : Str)
theorem nextN_cps (z : Str) (c : Nat) : (nextN z c).cps.toList = z.cps.toList.take 7 ++ [c] := by rw [app_cps, cut7]
theorem nextN_good {z : Str} (h : GoodN z) {c : Nat} (hc : c ∈ letters) : GoodN (nextN z c) := by
  refine ⟨?_, fun d hd => ?_⟩
  · rw [str_len, nextN_cps, List.length_append, List.length_take]
    show 1 ≤ min 7 _ + 1 ∧ min 7 _ + 1 ≤ 8
    omega
  · rw [nextN_cps] at hd
    rcases List.mem_append.mp hd with hd | hd
    · exact h.2 d (List.mem_of_mem_take hd)
    · rw [List.mem_singleton.mp hd]; exact hc
theorem nextN_nodup (z : Str) : (letters.map (nextN z)).Nodup := by
  refine List.pairwise_map.mpr (nd26.imp fun {a b} ne e => ne ?_)
  have := congrArg (fun q : Str => q.cps.toList) e
  rw [nextN_cps, nextN_cps] at this
  have := List.append_cancel_left this
  exact (List.cons.inj this).1
theorem lenS_eq {z : Str} (h : z.length ≤ 100000) : lenS z = .ok (z.length : Int) := if_pos h
theorem ixS_eq {z : Str} (h : z.length ≤ 100000) {i : Int} (h0 : 0 ≤ i) (h1 : i < z.length) : ∃ c, ixS z i = .ok c ∧ c ∈ z.cps.toList := by
  rw [str_len] at h1
  have e : ixR z.cps.toList i = .ok (at0 z.cps.toList i) := ixR_at h0 h1
  refine ⟨_, ?_, at0_mem h0 h1⟩
  unfold ixS
  rw [if_pos h]
  exact e
theorem pick2_ok {s : Src} (h : SI s) : Ok (m_l_pick_2 s ("abcdefghijklmnopqrstuvwxyz" : Str)) fun p => SI p.1 ∧ p.2 ∈ letters := by
  have hl : ("abcdefghijklmnopqrstuvwxyz" : Str).length = 26 := by decide +kernel
  unfold m_l_pick_2
  rw [bind_eq (lenS_eq (by rw [hl]; decide)), hl]
  refine (take_ok h (by decide) (by decide)).bind fun p hp => ?_
  obtain ⟨c, e, hc⟩ := ixS_eq (z := ("abcdefghijklmnopqrstuvwxyz" : Str)) (by rw [hl]; decide) hp.2.1 (by rw [hl]; exact hp.2.2)
  rw [bind_eq e]
  exact Ok.ret ⟨hp.1, hc⟩
/-- the labels that are drawn: n names, no two alike -/
def Names (n : Nat) (l : List Str) : Prop := l.length = n ∧ l.Nodup ∧ ∀ z ∈ l, GoodN z
theorem labels_ok {s : Src} (h : SI s) {n : Nat} (hn : n ≤ 20) : Ok (m_l_labels s (n : Int)) fun p => SI p.1 ∧ Names n p.2 := by
  unfold m_l_labels
  rw [bind_eq (rangeR_eq (by omega) (by omega))]
  have hr : ((List.range (((n : Nat) : Int) - 0).toNat).map fun (i : Nat) => (0 : Int) + (i : Int)).length = n := by
    rw [List.length_map, List.length_range]; omega
  refine (Ok.forR (fun i st => SI st.1 ∧ Names i st.2) ⟨h, rfl, List.nodup_nil, fun z hz => by cases hz⟩ fun i a st hi hI => ?_).bind fun st hst => ?_
  rotate_left
  · rw [hr] at hst
    exact Ok.ret hst
  obtain ⟨hs, hlen, hnd, hg⟩ := hI
  have hin : i < n := by
    rw [← hr]; exact (List.getElem?_eq_some_iff.mp hi).1
  dsimp only
  refine (pick1_ok hs (by simp) (by simp)).bind fun p hp => ?_
  have hw0 : GoodN p.2 := own_good _ hp.2
  have word : Ok ((m_l_take p.1 (4 : Int)).bind fun t85 =>
      if (decide (t85.2 = (0 : Int))) = true then
        ((m_l_take t85.1 (8 : Int)).bind fun t97 =>
        (rangeR (0 : Int) ((1 : Int) + t97.2)).bind fun l108 =>
        (compR l108 t97.1 (fun s125 (it162 : Int) =>
          (m_l_pick_2 s125 ("abcdefghijklmnopqrstuvwxyz" : Str)).bind fun t143 =>
          .ok (t143.1, some t143.2))).bind fun (s125, x123) =>
        (joinR ("" : Str) (x123.map sgn)).bind fun t160 =>
        .ok (s125, (Txt.join ("" : Str) (x123.map sgn))))
      else
        (.ok (t85.1, p.2))) fun q => SI q.1 ∧ GoodN q.2 := by
    refine (take_ok hp.1 (by decide) (by decide)).bind fun t ht => ?_
    refine Ok.ite (fun _ => ?_) (fun _ => Ok.ret ⟨ht.1, hw0⟩)
    refine (take_ok ht.1 (by decide) (by decide)).bind fun u hu => ?_
    obtain ⟨hu1, hu2, hu3⟩ := hu
    rw [bind_eq (rangeR_eq (by omega) (by omega))]
    refine (Ok.compD SI (fun c => c ∈ letters) (by rw [List.length_map, List.length_range]; omega) hu1 fun s a _ hs => ?_).bind fun r hr => ?_
    · refine (pick2_ok hs).bind fun v hv => ?_
      exact Ok.ret ⟨hv.1, _, rfl, hv.2⟩
    · obtain ⟨r0, rx⟩ := r
      obtain ⟨r1, r2, r3⟩ := hr
      dsimp only at r1 r2 r3 ⊢
      have rl : rx.length = (1 + u.2).toNat := by
        rw [r2, List.length_map, List.length_range]; omega
      rw [bind_eq (joinR_eq (by omega))]
      refine Ok.ret ⟨r1, ⟨?_, fun c hc => ?_⟩⟩
      · rw [str_len, join_signs]; omega
      · rw [join_signs] at hc; exact r3 c hc
  refine word.bind fun q hq => ?_
  obtain ⟨q0, z⟩ := q
  obtain ⟨hq1, hq2⟩ := hq
  dsimp only at hq1 hq2 ⊢
  have zl := hq2.1.2
  rw [bind_eq (compR_map (nextN z) (by rw [len26]; decide) fun c _ => ?_)]
  rotate_left
  · have h1 : cutSR z none (some (7 : Int)) = .ok (cutS z none (some (7 : Int))) := if_pos (by omega)
    have h2 : addS (cutS z none (some (7 : Int))) (⟨#[c]⟩ : Str) = .ok (nextN z c) := if_pos (by
      rw [str_len, cut7, List.length_take]
      show min 7 _ + 1 ≤ 100000
      omega)
    rw [bind_eq h1, bind_eq h2]
  dsimp only
  have h3 : catR ([z] : List Str) (letters.map (nextN z)) = .ok ([z] ++ letters.map (nextN z)) := if_pos (by rw [List.length_map, len26]; show 1 + 26 ≤ 100000; decide)
  have lc : ([z] ++ letters.map (nextN z)).length ≤ 100000 := by rw [List.length_append, List.length_map, len26]; show 1 + 26 ≤ 100000; decide
  rw [bind_eq h3, bind_eq (compR_filter (fun a => !decide (a ∈ st.2)) lc fun a _ => by by_cases q : (!decide (a ∈ st.2)) = true <;> simp [q])]
  dsimp only
  have hne : (([z] ++ letters.map (nextN z)).filter fun a => !decide (a ∈ st.2)) ≠ [] := fun e => by
    have sub : letters.map (nextN z) ⊆ st.2 := fun a ha => by
      have := List.filter_eq_nil_iff.mp e a (List.mem_append_right _ ha)
      simpa using this
    have := (nextN_nodup z).length_le_of_subset sub
    rw [List.length_map, len26] at this
    omega
  have pos := List.length_pos_iff.mpr hne
  rw [bind_eq (ixR_at (by decide) (by omega)), bind_eq (lenG_eq (by omega))]
  have hm := at0_mem (l := (([z] ++ letters.map (nextN z)).filter fun a => !decide (a ∈ st.2))) (i := 0) (by decide) (by omega)
  generalize at0 (([z] ++ letters.map (nextN z)).filter fun a => !decide (a ∈ st.2)) 0 = x at hm
  obtain ⟨hm1, hm2⟩ := List.mem_filter.mp hm
  have hx : x ∉ st.2 := by simpa using hm2
  have hgx : GoodN x := by
    rcases List.mem_append.mp hm1 with h | h
    · rw [List.mem_singleton.mp h]; exact hq2
    · obtain ⟨c, hc, rfl⟩ := List.mem_map.mp h
      exact nextN_good hq2 hc
  refine Ok.ret ⟨hq1, ?_, ?_, fun y hy => ?_⟩
  · show (st.2 ++ [x]).length = i + 1
    rw [List.length_append, hlen]; rfl
  · refine List.nodup_append.mpr ⟨hnd, by simp, fun a ha b hb e => ?_⟩
    rw [List.mem_singleton.mp hb] at e
    exact hx (e ▸ ha)
  · rcases List.mem_append.mp hy with hy | hy
    · exact hg y hy
    · rw [List.mem_singleton.mp hy]; exact hgx
/-! rows, passes -/
abbrev Rows := List (List (Int × Int))
def RowsOk (w n : Nat) (rows : Rows) : Prop := rows.length = n ∧ ∀ r ∈ rows, r.length = w ∧ ∀ q ∈ r, 0 ≤ q.1 ∧ q.1 < n
theorem rng_len {b : Int} (h : 0 ≤ b) : ((List.range (b - 0).toNat).map fun (i : Nat) => (0 : Int) + (i : Int)).length = b.toNat := by
  rw [List.length_map, List.length_range]; omega
theorem rng_mem {b a : Int} (h : a ∈ (List.range (b - 0).toNat).map fun (i : Nat) => (0 : Int) + (i : Int)) : 0 ≤ a ∧ a < b := by
  obtain ⟨i, hi, rfl⟩ := List.mem_map.mp h
  have := List.mem_range.mp hi
  omega
theorem ixNR_eq {n : Nat} {i : Int} (h0 : 0 ≤ i) (h1 : i < n) : ixNR n i = .ok i.toNat := by
  unfold ixNR ixN
  rw [if_pos h0, if_pos h1]; rfl
theorem rows_ok {s : Src} (h : SI s) {kinds : List Str} {w n : Nat} (hk : kinds.length = w) (w0 : 1 ≤ w) (w1 : w ≤ 100) (n0 : 1 ≤ n) (n1 : n ≤ 100) : Ok (m_l_any_rows s kinds (n : Int)) fun p => SI p.1 ∧ RowsOk w n p.2 := by
  have lk : kinds.length ≤ 100000 := by omega
  have nI : (1 : Int) ≤ n := by omega
  unfold m_l_any_rows
  refine (take_ok h (by decide) (by decide)).bind fun t ht => ?_
  refine (Ok.compD SI (fun x => 0 ≤ x ∧ x < (n : Int)) lk ht.1 fun s a _ hs => ?_).bind fun st hst => ?_
  · refine (take_ok hs (by omega) (by omega)).bind fun q hq => Ok.ret ⟨hq.1, _, rfl, hq.2⟩
  obtain ⟨s1, steps⟩ := st
  obtain ⟨hs1, hl1, hst⟩ := hst
  dsimp only at hs1 hl1 hst ⊢
  refine (Ok.compD SI (fun _ => True) lk hs1 fun s a _ hs => ?_).bind fun st hst2 => ?_
  · refine (gain_ok hs).bind fun q hq => Ok.ret ⟨hq, _, rfl, trivial⟩
  obtain ⟨s2, gains⟩ := st
  obtain ⟨hs2, hl2, _⟩ := hst2
  dsimp only at hs2 hl2 ⊢
  rw [bind_eq (rangeR_eq (by omega) (by omega))]
  refine (Ok.forR (fun i st => SI st.1 ∧ st.2.length = i ∧ ∀ r ∈ st.2, r.length = w ∧ ∀ q ∈ r, 0 ≤ q.1 ∧ q.1 < (n : Int)) ⟨hs2, rfl, fun r hr => by cases hr⟩ fun i a st hi hI => ?_).bind fun st hst => ?_
  rotate_left
  · rw [rng_len (by omega)] at hst
    refine Ok.ret ⟨hst.1, ?_, hst.2.2⟩
    have := hst.2.1
    show st.2.length = n
    omega
  obtain ⟨s3, acc⟩ := st
  obtain ⟨hs3, hacc, hrows⟩ := hI
  have hin : i < n := by
    have := (List.getElem?_eq_some_iff.mp hi).1
    rw [rng_len (by omega)] at this
    omega
  dsimp only at hs3 hacc hrows ⊢
  rw [bind_eq (rangeR_eq (by omega) (by omega))]
  refine (Ok.compD (fun _ => True) (fun q : Int × Int => 0 ≤ q.1 ∧ q.1 < (n : Int)) (by rw [rng_len (by omega)]; omega) trivial fun s b hb _ => ?_).bind fun rw_ hrw => ?_
  · obtain ⟨b0, b1⟩ := rng_mem hb
    rw [bind_eq (ixR_at b0 (by omega)), bind_eq (fmodR_eq (by omega)), bind_eq (ixR_at b0 (by omega))]
    exact Ok.ret ⟨trivial, _, rfl, Int.fmod_nonneg_of_pos _ (by omega), Int.fmod_lt_of_pos _ (by omega)⟩
  obtain ⟨_, row⟩ := rw_
  obtain ⟨_, hrl, hrow⟩ := hrw
  rw [rng_len (by omega)] at hrl
  dsimp only at hrl hrow ⊢
  have hrl : row.length = w := by omega
  have setOk : ∀ (j : Nat) (q : Int × Int), 0 ≤ q.1 ∧ q.1 < (n : Int) → (row.set j q).length = w ∧ ∀ x ∈ row.set j q, 0 ≤ x.1 ∧ x.1 < (n : Int) := fun j q hq => by
    refine ⟨by rw [List.length_set, hrl], fun x hx => ?_⟩
    rcases List.mem_or_eq_of_mem_set hx with h | h
    · exact hrow x h
    · rw [h]; exact hq
  have change : ∀ s : Src, SI s → Ok ((m_l_take s (n : Int)).bind fun t265 =>
        (m_l_any_gain t265.1).bind fun t277 =>
        (m_l_take t277.1 (kinds.length : Int)).bind fun t303 =>
        (ixNR row.length t303.2).bind fun j315 =>
        .ok (t303.1, (row.set j315 (t265.2, t277.2)))) fun p => SI p.1 ∧ p.2.length = w ∧ ∀ x ∈ p.2, 0 ≤ x.1 ∧ x.1 < (n : Int) := fun s hs => by
    refine (take_ok hs (by omega) (by omega)).bind fun a ha => ?_
    refine (gain_ok ha.1).bind fun b hb => ?_
    refine (take_ok hb (by omega) (by omega)).bind fun c hc => ?_
    rw [bind_eq (ixNR_eq hc.2.1 (by omega))]
    exact Ok.ret ⟨hc.1, setOk _ _ ha.2⟩
  refine Ok.bind (P := fun p : Src × List (Int × Int) => SI p.1 ∧ p.2.length = w ∧ ∀ x ∈ p.2, 0 ≤ x.1 ∧ x.1 < (n : Int)) ?_ fun p hp => ?_
  · refine Ok.ite (fun _ => change _ hs3) (fun _ => Ok.ite (fun _ => ?_) (fun _ => Ok.ret ⟨hs3, hrl, hrow⟩))
    refine (take_ok hs3 (by decide) (by decide)).bind fun q hq => ?_
    exact Ok.ite (fun _ => change _ hq.1) (fun _ => Ok.ret ⟨hq.1, hrl, hrow⟩)
  obtain ⟨s4, row2⟩ := p
  obtain ⟨hs4, hr2⟩ := hp
  dsimp only at hs4 hr2 ⊢
  refine Ok.bind (P := fun p : Src × List (Int × Int) => SI p.1 ∧ p.2.length = w ∧ ∀ x ∈ p.2, 0 ≤ x.1 ∧ x.1 < (n : Int)) ?_ fun p hp => ?_
  · refine Ok.ite (fun _ => ?_) (fun _ => Ok.ret ⟨hs4, hr2⟩)
    refine (Ok.compD SI (fun q : Int × Int => 0 ≤ q.1 ∧ q.1 < (n : Int)) lk hs4 fun s a _ hs => ?_).bind fun st hst => ?_
    · refine (take_ok hs (by omega) (by omega)).bind fun a ha => ?_
      exact (gain_ok ha.1).bind fun b hb => Ok.ret ⟨hb, _, rfl, ha.2⟩
    · obtain ⟨s5, row3⟩ := st
      exact Ok.ret ⟨hst.1, hst.2.1.trans hk, hst.2.2⟩
  obtain ⟨s5, row3⟩ := p
  obtain ⟨hs5, hr3⟩ := hp
  dsimp only at hs5 hr3 ⊢
  rw [bind_eq (lenG_eq (by omega))]
  refine Ok.ret ⟨hs5, by show (acc ++ [row3]).length = i + 1; rw [List.length_append, hacc]; rfl, fun r hr => ?_⟩
  rcases List.mem_append.mp hr with hr | hr
  · exact hrows r hr
  · rw [List.mem_singleton.mp hr]; exact hr3
/-! the story: a program's parts -/
abbrev PassT := List Int × List (List (Int × Int))
abbrev Parts := List Str × List PassT × List (Str × Int)
structure PassOk (w m : Nat) (p : PassT) : Prop where
  bl : p.1.length = m
  b : ∀ x ∈ p.1, 0 ≤ x ∧ x < (p.2.length : Int)
  n0 : 1 ≤ p.2.length
  n1 : p.2.length ≤ 100
  r : RowsOk w p.2.length p.2
inductive Chain (w : Nat) : Nat → Nat → List PassT → Prop where
  | nil {m : Nat} : Chain w m m []
  | cons {m L : Nat} {p : PassT} {r : List PassT} : PassOk w m p → Chain w p.2.length L r → Chain w m L (p :: r)
structure VP (u : Parts) : Prop where
  k1 : 1 ≤ u.1.length
  k2 : u.1.length ≤ 4
  names : ∀ z ∈ u.1, GoodN z
  asc : u.1.Pairwise fun a b => a.cps.toList < b.cps.toList
  p1 : 1 ≤ u.2.1.length
  p2 : u.2.1.length ≤ 2
  ch : Chain u.1.length 1 u.2.2.length u.2.1
  tl : ∀ t ∈ u.2.2, GoodN t.1
theorem sortS_eq {l : List Str} (h : l.length < 64) : ∃ t, sortS l = .ok t ∧ t.Perm l ∧ t.Pairwise fun a b => leS a b = true := by
  refine ⟨_, if_pos h, List.mergeSort_perm _ _, List.pairwise_mergeSort leS_trans leS_total l⟩
theorem sort_names {n : Nat} {l : List Str} (h : Names n l) (hn : n < 64) : ∃ t, sortS l = .ok t ∧ t.length = n ∧ (∀ z ∈ t, GoodN z) ∧ t.Pairwise fun a b => a.cps.toList < b.cps.toList := by
  obtain ⟨t, e, pm, so⟩ := sortS_eq (l := l) (by rw [h.1]; exact hn)
  refine ⟨t, e, by rw [pm.length_eq, h.1], fun z hz => h.2.2 z (pm.mem_iff.mp hz), ?_⟩
  have nd : t.Nodup := pm.nodup_iff.mpr h.2.1
  refine (List.Pairwise.and so nd).imp fun {a b} q => ?_
  rcases q with ⟨q1, q2⟩
  have q1 := of_decide_eq_true q1
  by_cases z : a.cps.toList < b.cps.toList
  · exact z
  · exact absurd (leS_anti (decide_eq_true q1) (decide_eq_true (List.not_lt.mp z))) q2
theorem story_ok {s : Src} (h : SI s) {most : Nat} (m0 : 1 ≤ most) (m1 : most ≤ 50) : Ok (m_l_story s (most : Int)) fun p => SI p.1 ∧ VP p.2 := by
  unfold m_l_story
  refine (pick_ok h (by simp) (by simp)).bind fun t ht => ?_
  obtain ⟨s1, v⟩ := t
  obtain ⟨hs1, hv⟩ := ht
  dsimp only at hs1 hv ⊢
  have hv2 : 0 ≤ v ∧ v ≤ 2 := by
    simp at hv
    omega
  obtain ⟨n, hn⟩ : ∃ n : Nat, (1 : Int) + v = (n : Int) := ⟨(1 + v).toNat, by omega⟩
  rw [hn]
  refine (labels_ok hs1 (n := n) (by omega)).bind fun t ht => ?_
  obtain ⟨s2, ls⟩ := t
  obtain ⟨hs2, hls⟩ := ht
  dsimp only at hs2 hls ⊢
  obtain ⟨kinds, e, kl, kg, ka⟩ := sort_names hls (by omega)
  rw [bind_eq e]
  refine (take_ok hs2 (by omega) (by omega)).bind fun a ha => ?_
  refine (take_ok ha.1 (by omega) (by omega)).bind fun b hb => ?_
  obtain ⟨ha1, ha2, ha3⟩ := ha
  obtain ⟨hb1, hb2, hb3⟩ := hb
  obtain ⟨m, hm⟩ : ∃ m : Nat, (1 : Int) + a.2 = (m : Int) := ⟨(1 + a.2).toNat, by omega⟩
  obtain ⟨m2, hm2⟩ : ∃ m : Nat, (1 : Int) + b.2 = (m : Int) := ⟨(1 + b.2).toNat, by omega⟩
  rw [hm, hm2]
  refine (take_ok hb1 (by omega) (by omega)).bind fun c hc => ?_
  refine (rows_ok hc.1 kl (by omega) (by omega) (n := m) (by omega) (by omega)).bind fun r hr => ?_
  obtain ⟨s3, rows⟩ := r
  obtain ⟨hs3, hrows⟩ := hr
  dsimp only at hs3 hrows ⊢
  have P0 : PassOk kinds.length 1 ([c.2], rows) := ⟨rfl, fun x hx => by rw [List.mem_singleton.mp hx]; show 0 ≤ c.2 ∧ c.2 < (rows.length : Int); rw [hrows.1]; exact hc.2, by show 1 ≤ rows.length; rw [hrows.1]; omega, by show rows.length ≤ 100; rw [hrows.1]; omega, by
    show RowsOk kinds.length rows.length rows
    rw [kl, hrows.1]; exact hrows⟩
  refine Ok.bind (P := fun p : Src × List PassT => SI p.1 ∧ 1 ≤ p.2.length ∧ p.2.length ≤ 2 ∧ ∃ L q, p.2.getLast? = some q ∧ q.2.length = L ∧ L ≤ 100 ∧ Chain kinds.length 1 L p.2) ?_ fun p hp => ?_
  · refine (take_ok hs3 (by decide) (by decide)).bind fun d hd => ?_
    refine Ok.ite (fun _ => ?_) (fun _ => Ok.ret ⟨hd.1, Nat.le_refl 1, show 1 ≤ 2 by decide, _, _, rfl, rfl, P0.n1, .cons P0 .nil⟩)
    rw [bind_eq (rangeR_eq (by omega) (by omega))]
    refine (Ok.compD SI (fun x => 0 ≤ x ∧ x < (m2 : Int)) (by rw [rng_len (by omega)]; omega) hd.1 fun s a _ hs => ?_).bind fun st hst => ?_
    · exact (take_ok hs (by omega) (by omega)).bind fun q hq => Ok.ret ⟨hq.1, _, rfl, hq.2⟩
    obtain ⟨s4, begins⟩ := st
    obtain ⟨hs4, hbl, hbe⟩ := hst
    rw [rng_len (by omega)] at hbl
    dsimp only at hs4 hbl hbe ⊢
    refine (rows_ok hs4 kl (by omega) (by omega) (n := m2) (by omega) (by omega)).bind fun r hr => ?_
    obtain ⟨s5, rows2⟩ := r
    obtain ⟨hs5, hrows2⟩ := hr
    dsimp only at hs5 hrows2 ⊢
    have P1 : PassOk kinds.length rows.length (begins, rows2) := ⟨by show begins.length = rows.length; rw [hrows.1]; omega, fun x hx => by show 0 ≤ x ∧ x < (rows2.length : Int); rw [hrows2.1]; exact hbe x hx, by show 1 ≤ rows2.length; rw [hrows2.1]; omega, by show rows2.length ≤ 100; rw [hrows2.1]; omega, by
      show RowsOk kinds.length rows2.length rows2
      rw [kl, hrows2.1]; exact hrows2⟩
    rw [bind_eq (lenG_eq (l := [(([c.2] : List Int), rows)]) (show 1 < 100000 by decide))]
    exact Ok.ret ⟨hs5, show 1 ≤ 2 by decide, Nat.le_refl 2, _, _, rfl, rfl, P1.n1, .cons P0 (.cons P1 .nil)⟩
  obtain ⟨s6, passes⟩ := p
  obtain ⟨hs6, hp1, hp2, L, q, hq, hqL, hL, hch⟩ := hp
  dsimp only at hs6 hp1 hp2 hq hch ⊢
  refine (labels_ok hs6 (n := 2) (by decide)).bind fun t ht => ?_
  obtain ⟨s7, tls⟩ := t
  obtain ⟨hs7, htl⟩ := ht
  dsimp only at hs7 htl ⊢
  obtain ⟨q', e2, hq'⟩ := ixR_last (l := passes) (List.length_pos_iff.mp (by omega))
  rw [hq] at hq'
  cases hq'
  rw [bind_eq e2]
  refine (Ok.compD SI (fun t : Str × Int => GoodN t.1) (by omega) hs7 fun s a _ hs => ?_).bind fun st hst => ?_
  · refine (pick1_ok hs (List.length_pos_iff.mp (by rw [htl.1]; decide)) (by rw [htl.1]; decide)).bind fun x hx => ?_
    exact (gain_ok hx.1).bind fun y hy => Ok.ret ⟨hy, _, rfl, htl.2.2 _ hx.2⟩
  obtain ⟨s8, tells⟩ := st
  obtain ⟨hs8, htl8, hg8⟩ := hst
  dsimp only at hs8 htl8 hg8 ⊢
  refine Ok.ret ⟨hs8, ⟨by show 1 ≤ kinds.length; omega, by show kinds.length ≤ 4; omega, kg, ka, hp1, hp2, ?_, hg8⟩⟩
  show Chain kinds.length 1 tells.length passes
  rw [htl8, hqL]; exact hch
/-! the program takes them -/
theorem bT {c : Bool} {α : Type} {A B : Res α} (h : c = true) : (if c = true then A else B) = A := if_pos h
theorem bF {c : Bool} {α : Type} {A B : Res α} (h : c = false) : (if c = true then A else B) = B := if_neg (by rw [h]; decide)
theorem all_true {α : Type} (l : List α) : (l.map fun _ => true).all id = true := by simp
theorem is_name_ok {z : Str} (h : GoodN z) : m_is_name z = .ok true := by
  have h1 := h.1.1
  have h2 := h.1.2
  unfold m_is_name
  rw [bind_eq (lenS_eq (by omega)), bT (decide_eq_true (by omega)), bF (by rw [decide_eq_true (by omega)]; rfl),
    bind_eq (compR_map (fun _ => true) (by rw [← str_len]; omega) fun c hc => by rw [decide_eq_true (h.2 c hc)])]
  show Res.ok _ = _
  rw [all_true]
theorem adj_asc : ∀ {l : List Str}, (l.Pairwise fun a b => a.cps.toList < b.cps.toList) → ∀ q ∈ List.zip l (l.drop 1), q.1.cps.toList < q.2.cps.toList
  | [], _, q, hq => by simp at hq
  | [a], _, q, hq => by simp at hq
  | a :: b :: r, h, q, hq => by
    have hq : q ∈ (a, b) :: List.zip (b :: r) ((b :: r).drop 1) := hq
    rcases List.mem_cons.mp hq with e | hq
    · rw [e]; exact (List.pairwise_cons.mp h).1 b (List.mem_cons_self ..)
    · exact adj_asc (List.pairwise_cons.mp h).2 q hq
theorem cut1 {α : Type} (l : List α) : cutA l (some (1 : Int)) none = l.drop 1 := by
  unfold cutA
  show List.take (l.length - HT.sIx l.length 0 (some ((1 : Nat) : Int))) (l.drop (HT.sIx l.length 0 (some ((1 : Nat) : Int)))) = _
  rw [HT.sIx_nat]
  rcases Nat.lt_or_ge 0 l.length with h | h
  · rw [Nat.min_eq_left (by omega)]
    exact List.take_of_length_le (by rw [List.length_drop]; omega)
  · have : l = [] := List.eq_nil_of_length_eq_zero (by omega)
    rw [this]; rfl
theorem are_kinds_ok {l : List Str} (k1 : 1 ≤ l.length) (k2 : l.length ≤ 4) (hg : ∀ z ∈ l, GoodN z) (ha : l.Pairwise fun a b => a.cps.toList < b.cps.toList) : m_are_kinds l = .ok true := by
  unfold m_are_kinds
  rw [bT (decide_eq_true (by omega)), bF (by rw [decide_eq_true (by omega)]; rfl), bind_eq (compR_map (fun _ => true) (by omega) fun z hz => by rw [bind_eq (is_name_ok (hg z hz))])]
  dsimp only
  rw [bF (by rw [all_true]; rfl), cut1, bind_eq (compR_map (fun _ => true) (by rw [List.length_zip]; omega) fun q hq => by rw [decide_eq_true (adj_asc ha q hq)])]
  show Res.ok _ = _
  rw [all_true]
theorem is_state_ok {m x : Int} (h : 0 ≤ x ∧ x < m) : m_is_state m x = .ok true := by
  unfold m_is_state
  rw [bind_eq (show m_is_integer x = .ok true from rfl), bT rfl, bT (decide_eq_true h.1), decide_eq_true h.2]
theorem is_pair_ok {m : Int} {p : Int × Int} (h : 0 ≤ p.1 ∧ p.1 < m) : m_is_pair m p = .ok true := by
  unfold m_is_pair
  rw [bT (show decide (((2 : Nat) : Int) = (2 : Int)) = true from rfl), bind_eq (is_state_ok h), bT rfl]; rfl
theorem lay_rows : ∀ rows : Rows, PyData.canLayAll0 (D.pyL (rows.map fun l => D.tup (l.map fun p => D.tup [D.int p.1, D.int p.2]))) = true ∧ PyData.depthAll (D.pyL (rows.map fun l => D.tup (l.map fun p => D.tup [D.int p.1, D.int p.2]))) ≤ 2 ∧ D.plainL (rows.map fun l => D.tup (l.map fun p => D.tup [D.int p.1, D.int p.2])) = true := by
  have row : ∀ l : List (Int × Int), PyData.canLayAll0 (D.pyL (l.map fun p => D.tup [D.int p.1, D.int p.2])) = true ∧ PyData.depthAll (D.pyL (l.map fun p => D.tup [D.int p.1, D.int p.2])) ≤ 1 ∧ D.plainL (l.map fun p => D.tup [D.int p.1, D.int p.2]) = true := fun l => by
    induction l with
    | nil => simp [D.pyL, PyData.canLayAll0, PyData.depthAll, D.plainL]
    | cons a l ih =>
      simp only [List.map_cons, D.pyL, D.py, PyData.canLayAll0, PyData.canLay0, PyData.depthAll, PyData.depth, D.plainL, D.plain, ih.1, ih.2.2]
      refine ⟨rfl, ?_, rfl⟩
      have := ih.2.1
      omega
  intro rows
  induction rows with
  | nil => simp [D.pyL, PyData.canLayAll0, PyData.depthAll, D.plainL]
  | cons a l ih =>
    simp only [List.map_cons, D.pyL, D.py, PyData.canLayAll0, PyData.canLay0, PyData.depthAll, PyData.depth, D.plainL, D.plain, ih.1, ih.2.2, (row a).1, (row a).2.2]
    refine ⟨rfl, ?_, rfl⟩
    have := ih.2.1
    have := (row a).2.1
    omega
theorem rows_ne {rows : Rows} (h : rows ≠ []) : eqD (D.tup (rows.map fun l => D.tup (l.map fun p => D.tup [D.int p.1, D.int p.2]))) (D.tup (([] : Rows).map fun l => D.tup (l.map fun p => D.tup [D.int p.1, D.int p.2]))) = .ok false := by
  obtain ⟨h1, h2, h3⟩ := lay_rows rows
  cases rows with
  | nil => exact absurd rfl h
  | cons a l =>
    unfold eqD
    have s1 : SeqAt.shaped (D.py (D.tup ((a :: l).map fun l => D.tup (l.map fun p => D.tup [D.int p.1, D.int p.2])))) = true := by
      unfold SeqAt.shaped
      rw [Bool.and_eq_true, decide_eq_true_eq]
      simp only [D.py, PyData.canLay0, PyData.depth]
      exact ⟨h1, by omega⟩
    have p1 : D.plain (D.tup ((a :: l).map fun l => D.tup (l.map fun p => D.tup [D.int p.1, D.int p.2]))) = true := by
      simp only [D.plain]; exact h3
    rw [s1, p1]
    rfl
theorem are_rows_ok {w n : Nat} {rows : Rows} (h : RowsOk w n rows) (n0 : 1 ≤ n) (n1 : n ≤ 1000) (w1 : w ≤ 1000) : m_are_rows (w : Int) rows = .ok true := by
  have hne : rows ≠ [] := List.length_pos_iff.mp (by rw [h.1]; omega)
  unfold m_are_rows
  rw [bind_eq (rows_ne hne), bF (show false = false from rfl), bind_eq (compR_map (fun _ => true) (by rw [h.1]; omega) fun r hr => by rw [decide_eq_true (show (r.length : Int) = w by rw [(h.2 r hr).1])])]
  dsimp only
  rw [bF (by rw [all_true]; rfl), bind_eq (compR_map (fun _ => true) (by rw [h.1]; omega) fun r hr => ?_)]
  · show Res.ok _ = _
    rw [all_true]
  · rw [bind_eq (compR_map (fun _ => true) (by rw [(h.2 r hr).1]; omega) fun p hp => by rw [bind_eq (is_pair_ok (by rw [h.1]; exact (h.2 r hr).2 p hp))])]
    show Res.ok _ = _
    rw [all_true]
theorem is_pass_ok {w m : Nat} {p : PassT} (h : PassOk w m p) (w1 : w ≤ 1000) (m1 : m ≤ 1000) : m_is_pass (w : Int) (m : Int) p = .ok true := by
  unfold m_is_pass
  have n1 := h.n1
  rw [bF (by decide), bind_eq (are_rows_ok h.r h.n0 (by omega) w1), bF (show (!true) = false from rfl), bF (by rw [decide_eq_true (show (p.1.length : Int) = m by rw [h.bl])]; rfl),
    bind_eq (compR_map (fun _ => true) (by rw [h.bl]; omega) fun x hx => by rw [bind_eq (is_state_ok (h.b x hx))])]
  show Res.ok _ = _
  rw [all_true]
theorem are_passes_ok {w L : Nat} {ps : List PassT} (h : Chain w 1 L ps) (p1 : 1 ≤ ps.length) (p2 : ps.length ≤ 2) (w1 : w ≤ 1000) : m_are_passes (w : Int) ps = .ok true := by
  cases h with
  | nil => cases p1
  | cons h0 hr =>
    rename_i p r
    unfold m_are_passes
    have e0 : ixR (p :: r) 0 = .ok p := (ixR_at (Int.le_refl 0) (by rw [List.length_cons]; omega)).trans rfl
    rw [bT (decide_eq_true (by omega)), bF (by rw [decide_eq_true (by omega)]; rfl), bind_eq e0, bind_eq (show m_is_pass (w : Int) 1 p = .ok true from is_pass_ok (m := 1) h0 w1 (by decide)), bF (show (!true) = false from rfl), cut1]
    have hd : (p :: r).drop 1 = r := rfl
    rw [hd, bind_eq (compR_map (fun _ => true) (by rw [List.length_cons] at p2; omega) fun q hq => ?_)]
    · show Res.ok _ = _
      rw [all_true]
    · have n1 := h0.n1
      rw [bind_eq e0]
      cases hr with
      | nil => cases hq
      | cons h1 hr2 =>
        cases hr2 with
        | nil =>
          rw [List.mem_singleton.mp hq, bind_eq (is_pass_ok h1 w1 (by omega))]
        | cons h2 _ => simp at p2
theorem last_chain {w m L : Nat} : ∀ {ps : List PassT}, Chain w m L ps → 1 ≤ ps.length → ∃ q, ps.getLast? = some q ∧ q.2.length = L
  | [], _, h => by cases h
  | [p], h, _ => by
    cases h with
    | cons h0 hr =>
      cases hr
      exact ⟨p, rfl, rfl⟩
  | p :: q :: r, h, _ => by
    cases h with
    | cons h0 hr =>
      obtain ⟨z, e, l⟩ := last_chain hr (by simp)
      exact ⟨z, by rw [List.getLast?_cons_cons]; exact e, l⟩
theorem is_tell_ok {t : Str × Int} (h : GoodN t.1) : m_is_tell t = .ok true := by
  unfold m_is_tell
  rw [bT (show decide (((2 : Nat) : Int) = (2 : Int)) = true from rfl), bind_eq (is_name_ok h), bT rfl]; rfl
instance : Inhabited PassT := ⟨([], [])⟩
theorem init_ok {u : Parts} (h : VP u) : m_Program___init__ u.1 u.2.1 u.2.2 = .ok () := by
  have k2 := h.k2
  unfold m_Program___init__
  obtain ⟨q, e, hq⟩ := ixR_last (l := u.2.1) (List.length_pos_iff.mp h.p1)
  obtain ⟨q', hq', hL⟩ := last_chain h.ch h.p1
  rw [hq] at hq'
  cases hq'
  rw [bind_eq (are_kinds_ok h.k1 h.k2 h.names h.asc), bF (show (!true) = false from rfl), bind_eq (are_passes_ok h.ch h.p1 h.p2 (by omega)), bF (show (!true) = false from rfl), bind_eq e, bF (by rw [decide_eq_true (show (u.2.2.length : Int) = (q.2.length : Int) by rw [hL])]; rfl)]
  have hl : u.2.2.length ≤ 100000 := by
    have : ∀ {w m L : Nat} {ps : List PassT}, Chain w m L ps → m ≤ 100 → L ≤ 100 := fun {w m L ps} c => by
      induction c with
      | nil => exact fun h => h
      | cons h0 _ ih => exact fun _ => ih h0.n1
    have := this h.ch (by decide)
    omega
  rw [bind_eq (compR_map (fun _ => true) hl fun t ht => by rw [bind_eq (is_tell_ok (h.tl t ht))])]
  dsimp only
  rw [bF (by rw [all_true]; rfl)]
end G
set_option maxRecDepth 100000
set_option maxHeartbeats 4000000
namespace G
open PySem PySem.Spec PyProof.Rows L2
/-! leaped -/
theorem forR_itn {β σ : Type} {f : σ → β → Res σ} {g : σ → σ} (I : σ → Prop) {items : List β} {st : σ} (h0 : I st) (hs : ∀ s a, I s → f s a = .ok (g s) ∧ I (g s)) : forR items st f = .ok (itn g items.length st) := by
  have := (forR_fold (g := fun s _ => g s) I (items := items) (st := st) h0 fun s a _ q => hs s a q).1
  rw [this, foldl_range]
/-- after k turns -/
def LI (T : List (Int × Int)) (s0 : Int) (k : Nat) : List (Int × Int) × List Int × Int × Int :=
  ((List.range k).map fun i => ((itn (ap T) i (s0, 0)).1, (i : Int)), (List.range k).map fun i => (itn (ap T) i (s0, 0)).2, (itn (ap T) k (s0, 0)).2, (itn (ap T) k (s0, 0)).1)
def Dist (T : List (Int × Int)) (s0 : Int) (k : Nat) : Prop := ((List.range k).map fun i => (itn (ap T) i (s0, 0)).1).Nodup
theorem dist_le {T : List (Int × Int)} (hT : TOk T) {s0 : Int} (hs : 0 ≤ s0 ∧ s0 < (T.length : Int)) {k : Nat} (h : Dist T s0 k) : k ≤ T.length := by
  have := h.length_le_of_subset (l₂ := (List.range T.length).map fun (i : Nat) => (i : Int)) fun x hx => by
    obtain ⟨i, _, rfl⟩ := List.mem_map.mp hx
    have := it_in hT i (s := (s0, 0)) hs
    exact List.mem_map.mpr ⟨(itn (ap T) i (s0, 0)).1.toNat, List.mem_range.mpr (by omega), by omega⟩
  rw [List.length_map, List.length_map, List.length_range, List.length_range] at this
  exact this
theorem dhas_LI {T : List (Int × Int)} {s0 : Int} {k : Nat} {x : Int} : dhas ((List.range k).map fun i => ((itn (ap T) i (s0, 0)).1, (i : Int))) x = true ↔ ∃ i, i < k ∧ (itn (ap T) i (s0, 0)).1 = x := by
  unfold dhas
  rw [List.any_eq_true]
  constructor
  · rintro ⟨p, hp, e⟩
    obtain ⟨i, hi, rfl⟩ := List.mem_map.mp hp
    exact ⟨i, List.mem_range.mp hi, of_decide_eq_true e⟩
  · rintro ⟨i, hi, e⟩
    exact ⟨_, List.mem_map.mpr ⟨i, List.mem_range.mpr hi, rfl⟩, decide_eq_true e⟩
theorem dget_LI {T : List (Int × Int)} {s0 : Int} {k : Nat} {x : Int} (h : dhas ((List.range k).map fun i => ((itn (ap T) i (s0, 0)).1, (i : Int))) x = true) :
    ∃ i, i < k ∧ (itn (ap T) i (s0, 0)).1 = x ∧ dgetR ((List.range k).map fun i => ((itn (ap T) i (s0, 0)).1, (i : Int))) x = .ok (i : Int) := by
  unfold dgetR dget
  cases q : ((List.range k).map fun i => ((itn (ap T) i (s0, 0)).1, (i : Int))).find? fun p => decide (p.1 = x) with
  | none =>
    obtain ⟨i, hi, e⟩ := dhas_LI.mp h
    have := List.find?_eq_none.mp q _ (List.mem_map.mpr ⟨i, List.mem_range.mpr hi, rfl⟩)
    exact absurd (decide_eq_true e) this
  | some p =>
    have h1 := List.find?_some q
    have h2 := List.mem_of_find?_eq_some q
    obtain ⟨i, hi, rfl⟩ := List.mem_map.mp h2
    exact ⟨i, List.mem_range.mp hi, of_decide_eq_true h1, rfl⟩
theorem leap_while {T : List (Int × Int)} (hT : TOk T) {s0 : Int} (hs : 0 ≤ s0 ∧ s0 < (T.length : Int)) {t : Nat} {c : List (Int × Int) × List Int × Int × Int → Res Bool} {f : List (Int × Int) × List Int × Int × Int → Res (Flow (List (Int × Int) × List Int × Int × Int) (Int × Int))}
    {R : List (Int × Int) × List Int × Int × Int → Res (Int × Int)} (hc : ∀ k, c (LI T s0 k) = .ok (decide ((k : Int) < (t : Int))))
    (hf : ∀ k, k < t → Dist T s0 k → (dhas (LI T s0 k).1 (LI T s0 k).2.2.2 = true → f (LI T s0 k) = .ok (.rt (itn (ap T) t (s0, 0)))) ∧ (dhas (LI T s0 k).1 (LI T s0 k).2.2.2 = false → f (LI T s0 k) = .ok (.nx (LI T s0 (k + 1)))))
    (hR : R (LI T s0 t) = .ok (itn (ap T) t (s0, 0))) : (whileX (T.length + 2) (LI T s0 0) c f).bind (fun fl => fl.go .ok R) = .ok (itn (ap T) t (s0, 0)) := by
  have key : ∀ (fuel k : Nat), T.length + 2 ≤ k + fuel → k ≤ t → Dist T s0 k →
      (whileX fuel (LI T s0 k) c f = .ok (.rt (itn (ap T) t (s0, 0))) ∨ whileX fuel (LI T s0 k) c f = .ok (.nx (LI T s0 t))) := by
    intro fuel
    induction fuel with
    | zero =>
      intro k h1 h2 h3
      have := dist_le hT hs h3
      omega
    | succ m ih =>
      intro k h1 h2 h3
      unfold whileX
      rw [bind_eq (hc k)]
      by_cases q : k < t
      · rw [bT (decide_eq_true (by omega))]
        obtain ⟨f1, f2⟩ := hf k q h3
        cases z : dhas (LI T s0 k).1 (LI T s0 k).2.2.2 with
        | true =>
          rw [bind_eq (f1 z)]
          exact .inl rfl
        | false =>
          rw [bind_eq (f2 z)]
          refine ih (k + 1) (by omega) (by omega) ?_
          unfold Dist
          rw [List.range_succ, List.map_append]
          refine List.nodup_append.mpr ⟨h3, by simp, fun a ha b hb e => ?_⟩
          obtain ⟨i, hi, rfl⟩ := List.mem_map.mp ha
          have hb := List.mem_singleton.mp hb
          have : dhas (LI T s0 k).1 (LI T s0 k).2.2.2 = true := dhas_LI.mpr ⟨i, List.mem_range.mp hi, e.trans hb⟩
          rw [z] at this; cases this
      · rw [bF (decide_eq_false (by omega))]
        have : k = t := by omega
        rw [this]
        exact .inr rfl
  rcases key (T.length + 2) 0 (by omega) (Nat.zero_le _) List.nodup_nil with h | h
  · rw [bind_eq h]; rfl
  · rw [bind_eq h]; exact hR
theorem LI_len {T : List (Int × Int)} {s0 : Int} {k : Nat} : (LI T s0 k).1.length = k ∧ (LI T s0 k).2.1.length = k := by
  unfold LI
  exact ⟨by rw [List.length_map, List.length_range], by rw [List.length_map, List.length_range]⟩
theorem leaped_ok {T : List (Int × Int)} (hT : TOk T) (hn : T.length ≤ 1000) {s0 : Int} (hs : 0 ≤ s0 ∧ s0 < (T.length : Int)) {t : Nat} (ht : t ≤ 10 ^ 13) : m_leaped T s0 (t : Int) = .ok (itn (ap T) t (s0, 0)) := by
  unfold m_leaped
  refine leap_while hT hs (fun k => ?_) (fun k hk hd => ⟨fun z => ?_, fun z => ?_⟩) rfl
  · show Res.ok (decide (((LI T s0 k).2.1.length : Int) < (t : Int))) = _
    rw [LI_len.2]
  · obtain ⟨i, hi, e1, e2⟩ := dget_LI z
    have kn := dist_le hT hs hd
    have l2 : (LI T s0 k).2.1.length = k := LI_len.2
    have e3 : ixR ((List.range k).map fun i => (itn (ap T) i (s0, 0)).2) (i : Int) = .ok ((itn (ap T) i (s0, 0)).2) := by
      have h0 := ixR_at (l := (List.range k).map fun i => (itn (ap T) i (s0, 0)).2) (i := (i : Int)) (by omega) (by rw [List.length_map, List.length_range]; omega)
      have h1 := at0_get (l := (List.range k).map fun i => (itn (ap T) i (s0, 0)).2) (i := (i : Int)) (by omega) (by rw [List.length_map, List.length_range]; omega)
      rw [List.getElem?_map, Int.toNat_natCast, List.getElem?_range hi] at h1
      rw [h0, ← Option.some.inj h1]
    have e1 : (itn (ap T) i (s0, 0)).1 = (itn (ap T) k (s0, 0)).1 := e1
    have e2 : dgetR ((List.range k).map fun i => ((itn (ap T) i (s0, 0)).1, (i : Int))) (itn (ap T) k (s0, 0)).1 = .ok (i : Int) := e2
    have hB := it_in hT k (s := (s0, 0)) hs
    have hd0 : itn (ap T) (k - i) (itn (ap T) i (s0, 0)) = itn (ap T) k (s0, 0) := by
      rw [← itn_add]; congr 1; omega
    have hrounds := rounds hd0 e1.symm ((t - k) / (k - i))
    have hlast : itn (ap T) ((t - k) % (k - i)) (itn (ap T) ((k - i) * ((t - k) / (k - i))) (itn (ap T) k (s0, 0))) = itn (ap T) t (s0, 0) := by
      rw [← itn_add, ← itn_add]
      congr 1
      have := Nat.div_add_mod (t - k) (k - i)
      omega
    rw [hrounds] at hlast
    show (if dhas (LI T s0 k).1 (LI T s0 k).2.2.2 = true then _ else _) = _
    rw [bT z]
    dsimp only [LI] at *
    generalize itn (ap T) k (s0, 0) = B at *
    generalize itn (ap T) i (s0, 0) = A at *
    have lr : ∀ g : Nat → Int, ((List.range k).map g).length = k := fun g => by rw [List.length_map, List.length_range]
    simp only [lr]
    rw [bind_eq e2, bind_eq e3]
    obtain ⟨N, hN⟩ : ∃ N : Nat, t - k = N := ⟨_, rfl⟩
    obtain ⟨D, hD⟩ : ∃ D : Nat, k - i = D := ⟨_, rfl⟩
    rw [hN, hD] at hlast
    have c1 : (t : Int) - (k : Int) = (N : Int) := by omega
    have c2 : (k : Int) - (i : Int) = (D : Int) := by omega
    have D0 : 0 < D := by omega
    have c3 : (N : Int).fdiv (D : Int) = ((N / D : Nat) : Int) := by
      rw [Int.fdiv_eq_ediv_of_nonneg _ (by omega)]; rfl
    have c4 : (N : Int).fmod (D : Int) = ((N % D : Nat) : Int) := by
      rw [Int.fmod_eq_emod_of_nonneg _ (by omega)]; rfl
    have c5 : N / D ≤ N := Nat.div_le_self N D
    have c6 : N % D < D := Nat.mod_lt _ D0
    generalize N / D = qq at *
    generalize N % D = rr at *
    rw [c1, c2, bind_eq (fmodR_eq (by omega)), bind_eq (fdivR_eq (by omega) (by omega)), c3, c4, bind_eq (mulR_eq (by omega)), bind_eq (rangeR_eq (by omega) (by omega)),
      bind_eq (forR_itn (g := ap T) (fun s => 0 ≤ s.1 ∧ s.1 < (T.length : Int)) (st := (B.1, B.2 + (B.2 - A.2) * (qq : Int))) hB fun s a hs => ?_)]
    · rw [rng_len (by omega), Int.toNat_natCast]
      show Res.ok (Flow.rt (itn (ap T) rr (sh ((B.2 - A.2) * (qq : Int)) B))) = _
      rw [hlast]
    · obtain ⟨x, g⟩ := s
      refine ⟨?_, ap_in hT hs⟩
      show ((ixR T x).bind fun t91 => Res.ok (t91.1, g + t91.2)) = _
      rw [bind_eq (ixR_at hs.1 hs.2)]; rfl
  · have kn := dist_le hT hs hd
    have hB := it_in hT k (s := (s0, 0)) hs
    show (if dhas (LI T s0 k).1 (LI T s0 k).2.2.2 = true then _ else _) = _
    rw [bF z, bind_eq (lenG_eq (by rw [List.length_map, List.length_range]; omega)), bind_eq (lenG_eq (by rw [List.length_map, List.length_range]; omega))]
    show ((ixR T (itn (ap T) k (s0, 0)).1).bind _) = _
    rw [bind_eq (ixR_at hB.1 hB.2)]
    have e : dput (LI T s0 k).1 (LI T s0 k).2.2.2 (((LI T s0 k).2.1.length : Nat) : Int) = (LI T s0 (k + 1)).1 := by
      unfold dput
      rw [z, LI_len.2]
      show (LI T s0 k).1 ++ [((LI T s0 k).2.2.2, (k : Int))] = _
      unfold LI
      rw [List.range_succ, List.map_append]; rfl
    have e2 : (LI T s0 k).2.1 ++ [(LI T s0 k).2.2.1] = (LI T s0 (k + 1)).2.1 := by
      show ((List.range k).map fun i => (itn (ap T) i (s0, 0)).2) ++ [(itn (ap T) k (s0, 0)).2] = (List.range (k + 1)).map fun i => (itn (ap T) i (s0, 0)).2
      rw [List.range_succ, List.map_append]; rfl
    have e3 : itn (ap T) (k + 1) (s0, 0) = ap T (itn (ap T) k (s0, 0)) := itn_one k _
    show Res.ok (Flow.nx (dput (LI T s0 k).1 (LI T s0 k).2.2.2 (((LI T s0 k).2.1.length : Nat) : Int), (LI T s0 k).2.1 ++ [(LI T s0 k).2.2.1], (ap T (itn (ap T) k (s0, 0))).2, (ap T (itn (ap T) k (s0, 0))).1)) = _
    rw [e, e2, ← e3]; rfl
/-! a word's steps -/
def stepK (rows : Rows) (st : Int × Int) (k : Int) : Int × Int := ((at0 (at0 rows st.1) k).1, st.2 + (at0 (at0 rows st.1) k).2)
def wst (rows : Rows) (places : List Int) (st : Int × Int) : Int × Int := places.foldl (stepK rows) st
def tab (rows : Rows) (places : List Int) : List (Int × Int) := (List.range rows.length).map fun (i : Nat) => wst rows places ((i : Int), 0)
section
variable {w n : Nat} {rows : Rows}
theorem row_at (h : RowsOk w n rows) {x : Int} (hx : 0 ≤ x ∧ x < n) {k : Int} (hk : 0 ≤ k ∧ k < w) : ixR rows x = .ok (at0 rows x) ∧ ixR (at0 rows x) k = .ok (at0 (at0 rows x) k) ∧ 0 ≤ (at0 (at0 rows x) k).1 ∧ (at0 (at0 rows x) k).1 < n := by
  have l1 : x < (rows.length : Int) := by rw [h.1]; exact hx.2
  have m1 := at0_mem (l := rows) hx.1 l1
  obtain ⟨h2, h3⟩ := h.2 _ m1
  have l2 : k < ((at0 rows x).length : Int) := by rw [h2]; exact hk.2
  exact ⟨ixR_at hx.1 l1, ixR_at hk.1 l2, h3 _ (at0_mem hk.1 l2)⟩
theorem stepK_sh (c : Int) (st : Int × Int) (k : Int) : stepK rows (sh c st) k = sh c (stepK rows st k) := by
  unfold stepK sh
  dsimp only
  rw [Int.add_right_comm]
theorem wst_sh (c : Int) : ∀ (places : List Int) (st : Int × Int), wst rows places (sh c st) = sh c (wst rows places st)
  | [], _ => rfl
  | k :: r, st => by
    show wst rows r (stepK rows (sh c st) k) = _
    rw [stepK_sh, wst_sh c r]; rfl
theorem wst_in (h : RowsOk w n rows) : ∀ {places : List Int} {st : Int × Int}, (∀ k ∈ places, 0 ≤ k ∧ k < (w : Int)) → 0 ≤ st.1 ∧ st.1 < (n : Int) → 0 ≤ (wst rows places st).1 ∧ (wst rows places st).1 < (n : Int)
  | [], _, _, hs => hs
  | k :: r, st, hk, hs => wst_in h (places := r) (st := stepK rows st k) (fun q hq => hk q (List.mem_cons_of_mem _ hq)) (row_at h hs (hk k (List.mem_cons_self ..))).2.2
theorem tab_len (places : List Int) : (tab rows places).length = rows.length := by
  unfold tab
  rw [List.length_map, List.length_range]
theorem tab_at {places : List Int} {x : Int} (hx : 0 ≤ x ∧ x < (rows.length : Int)) : at0 (tab rows places) x = wst rows places (x, 0) := by
  have h := at0_get (l := tab rows places) hx.1 (by rw [tab_len]; exact hx.2)
  have e : ((x.toNat : Nat) : Int) = x := by omega
  have h2 : (tab rows places)[x.toNat]? = some (wst rows places (x, 0)) := by
    unfold tab
    rw [List.getElem?_map, List.getElem?_range (by omega)]
    show some (wst rows places (((x.toNat : Nat) : Int), 0)) = _
    rw [e]
  rw [h2] at h
  exact (Option.some.inj h).symm
theorem ap_tab {places : List Int} {st : Int × Int} (hs : 0 ≤ st.1 ∧ st.1 < (rows.length : Int)) : ap (tab rows places) st = wst rows places st := by
  have := wst_sh (rows := rows) st.2 places (st.1, 0)
  have e : sh st.2 (st.1, 0) = st := by unfold sh; exact Prod.ext rfl (by show 0 + st.2 = st.2; omega)
  rw [e] at this
  rw [this]
  unfold ap sh
  rw [tab_at hs, Int.add_comm]
theorem tab_ok (h : RowsOk w n rows) {places : List Int} (hk : ∀ k ∈ places, 0 ≤ k ∧ k < (w : Int)) : TOk (tab rows places) := by
  intro q hq
  obtain ⟨i, hi, rfl⟩ := List.mem_map.mp hq
  have hi := List.mem_range.mp hi
  rw [tab_len]
  have := wst_in h (places := places) (st := ((i : Int), 0)) hk (by rw [← h.1]; show 0 ≤ (i : Int) ∧ (i : Int) < _; omega)
  rw [h.1]; exact this
theorem table_of_ok (h : RowsOk w n rows) (n1 : n ≤ 1000) {places : List Int} (hk : ∀ k ∈ places, 0 ≤ k ∧ k < (w : Int)) : m_table_of rows places = .ok (tab rows places) := by
  have hl := h.1
  unfold m_table_of
  rw [bind_eq (rangeR_eq (by omega) (by omega))]
  refine Ok.eq ((Ok.forR (fun i (acc : List (Int × Int)) => acc = (List.range i).map fun (i : Nat) => wst rows places ((i : Int), 0)) rfl fun i a acc hi hI => ?_).bind fun acc hacc => ?_)
  · have hi2 : a = (i : Int) ∧ i < n := by
      rw [List.getElem?_map] at hi
      cases q : (List.range ((rows.length : Int) - 0).toNat)[i]? with
      | none => rw [q] at hi; cases hi
      | some j =>
        rw [q] at hi
        obtain ⟨h1, h2⟩ := List.getElem?_eq_some_iff.mp q
        rw [List.length_range] at h1
        rw [List.getElem_range] at h2
        have h3 : (0 : Int) + (j : Int) = a := Option.some.inj hi
        omega
    obtain ⟨rfl, hin⟩ := hi2
    have f := (forR_fold (f := fun (s : Int × Int) (a63 : Int) => match s with | (x48, x49) => (ixR rows x48).bind fun t72 => (ixR t72 a63).bind fun t76 => Res.ok (t76.1, x49 + t76.2)) (g := stepK rows) (fun s => 0 ≤ s.1 ∧ s.1 < (n : Int)) (items := places) (st := ((i : Int), 0)) (by show 0 ≤ (i : Int) ∧ (i : Int) < _; omega) fun s a ha hs => by
      obtain ⟨x, g⟩ := s
      obtain ⟨e1, e2, e3⟩ := row_at h hs (hk a ha)
      refine ⟨?_, e3⟩
      show ((ixR rows x).bind fun t72 => (ixR t72 a).bind fun t76 => Res.ok (t76.1, g + t76.2)) = _
      rw [bind_eq e1, bind_eq e2]; rfl).1
    rw [bind_eq f]
    dsimp only
    have la : acc.length < 100000 := by rw [hI, List.length_map, List.length_range]; omega
    show Ok ((lenG acc).bind _) _
    rw [bind_eq (lenG_eq la)]
    refine Ok.ret ?_
    rw [hI, List.range_succ, List.map_append]; rfl
  · refine Ok.ret ?_
    rw [rng_len (by omega)] at hacc
    rw [hacc]
    unfold tab
    congr 1
end
end G
set_option maxRecDepth 100000
set_option maxHeartbeats 4000000
namespace G
open PySem PySem.Spec PyProof.Rows L2
/-! outcomes -/
def plc (kinds : List Str) (z : Str) : Int := ((kinds.findIdx fun y => decide (y = z) : Nat) : Int)
theorem indexS_eq {kinds : List Str} {z : Str} (h : z ∈ kinds) : indexS kinds z = .ok (plc kinds z) ∧ 0 ≤ plc kinds z ∧ plc kinds z < (kinds.length : Int) := by
  refine ⟨if_pos h, by unfold plc; omega, ?_⟩
  have : (kinds.findIdx fun y => decide (y = z)) < kinds.length := List.findIdx_lt_length.mpr ⟨z, h, by simp⟩
  unfold plc
  omega
theorem chain_fold {w : Nat} {f : Int × Int → PassT → Res (Int × Int)} {g : Int × Int → PassT → Int × Int}
    (hs : ∀ (m : Nat) (p : PassT) (st : Int × Int), PassOk w m p → 0 ≤ st.1 ∧ st.1 < (m : Int) → f st p = .ok (g st p) ∧ 0 ≤ (g st p).1 ∧ (g st p).1 < (p.2.length : Int)) :
    ∀ {m L : Nat} {ps : List PassT} {st : Int × Int}, Chain w m L ps → 0 ≤ st.1 ∧ st.1 < (m : Int) → forR ps st f = .ok (ps.foldl g st) ∧ 0 ≤ (ps.foldl g st).1 ∧ (ps.foldl g st).1 < (L : Int) := by
  intro m L ps st h
  induction h generalizing st with
  | nil => exact fun h => ⟨rfl, h⟩
  | cons h0 hr ih =>
    intro hst
    rename_i p r
    obtain ⟨e, hin⟩ := hs _ p st h0 hst
    obtain ⟨e2, hin2⟩ := ih hin
    refine ⟨?_, hin2⟩
    show ((f st p).bind fun s => forR r s f) = _
    rw [bind_eq e]; exact e2
/-- what a pass does, the word's table t times -/
def gP (places : List Int) (t : Nat) (st : Int × Int) (p : PassT) : Int × Int := ((itn (ap (tab p.2 places)) t (at0 p.1 st.1, 0)).1, st.2 + (itn (ap (tab p.2 places)) t (at0 p.1 st.1, 0)).2)
instance : Inhabited (Str × Int) := ⟨(⟨#[]⟩, 0)⟩
def outc (u : Parts) (places : List Int) (t : Nat) : Str × Int :=
  ((at0 u.2.2 (u.2.1.foldl (gP places t) (0, 0)).1).1, (u.2.1.foldl (gP places t) (0, 0)).2 + (at0 u.2.2 (u.2.1.foldl (gP places t) (0, 0)).1).2)
section
variable {w m : Nat} {p : PassT} {places : List Int} {t : Nat}
theorem begin_ok (h : PassOk w m p) {x : Int} (hx : 0 ≤ x ∧ x < (m : Int)) : ixR p.1 x = .ok (at0 p.1 x) ∧ 0 ≤ at0 p.1 x ∧ at0 p.1 x < (p.2.length : Int) := by
  have l : x < (p.1.length : Int) := by rw [h.bl]; exact hx.2
  exact ⟨ixR_at hx.1 l, h.b _ (at0_mem hx.1 l)⟩
theorem gP_in (h : PassOk w m p) (hk : ∀ k ∈ places, 0 ≤ k ∧ k < (w : Int)) {st : Int × Int} (hx : 0 ≤ st.1 ∧ st.1 < (m : Int)) : 0 ≤ (gP places t st p).1 ∧ (gP places t st p).1 < (p.2.length : Int) := by
  have b := (begin_ok h hx).2
  have := it_in (tab_ok h.r hk) t (s := (at0 p.1 st.1, 0)) (by rw [tab_len]; exact b)
  rw [tab_len] at this
  exact this
theorem itn_tab (h : PassOk w m p) (hk : ∀ k ∈ places, 0 ≤ k ∧ k < (w : Int)) : ∀ (n : Nat) {s : Int × Int}, 0 ≤ s.1 ∧ s.1 < (p.2.length : Int) → itn (wst p.2 places) n s = itn (ap (tab p.2 places)) n s
  | 0, _, _ => rfl
  | n + 1, s, hs => by
    show itn _ n (wst p.2 places s) = itn _ n (ap (tab p.2 places) s)
    rw [ap_tab hs]
    exact itn_tab h hk n (wst_in h.r hk hs)
end
theorem places_ok {kinds word : List Str} (h : ∀ z ∈ word, z ∈ kinds) : ∀ k ∈ word.map (plc kinds), 0 ≤ k ∧ k < ((kinds.length : Nat) : Int) := fun k hk => by
  obtain ⟨z, hz, rfl⟩ := List.mem_map.mp hk
  exact (indexS_eq (h z hz)).2
theorem mem_rep {α : Type} {l : List α} {z : α} {n : Nat} (h : z ∈ (List.replicate n l).flatten) : z ∈ l := by
  obtain ⟨a, ha, hz⟩ := List.mem_flatten.mp h
  rw [(List.mem_replicate.mp ha).2] at hz
  exact hz
theorem foldl_congr {α β : Type} {f g : α → β → α} : ∀ {l : List β} {a : α}, (∀ a b, f a b = g a b) → l.foldl f a = l.foldl g a
  | [], _, _ => rfl
  | b :: l, a, h => by
    show l.foldl f (f a b) = l.foldl g (g a b)
    rw [h a b]; exact foldl_congr h
theorem ran_ok {u : Parts} (h : VP u) {word : List Str} (hw : ∀ z ∈ word, z ∈ u.1) (t : Nat) : m_l_ran u ((List.replicate t word).flatten) = .ok (outc u (word.map (plc u.1)) t) := by
  have hk := places_ok hw
  unfold m_l_ran
  obtain ⟨e, hin⟩ := chain_fold (w := u.1.length) (f := fun ((x22, x23) : Int × Int) (a38 : PassT) => (ixR a38.1 x22).bind fun t54 =>
    (forR ((List.replicate t word).flatten) (t54, x23) (fun ((x65, x66) : Int × Int) (a79 : Str) =>
      (ixR a38.2 x65).bind fun t88 =>
      (indexS u.1 a79).bind fun t100 =>
      (ixR t88 t100).bind fun t103 =>
      .ok (t103.1, (x66 + t103.2)))).bind fun ((x65, x66) : Int × Int) => .ok (x65, x66)) (g := gP (word.map (plc u.1)) t) (fun m p st hp hst => by
      refine ⟨?_, gP_in hp hk hst⟩
      obtain ⟨x, g⟩ := st
      obtain ⟨b1, b2⟩ := begin_ok hp hst
      show ((ixR p.1 x).bind _) = _
      rw [bind_eq b1]
      have f := (forR_fold (f := fun ((x65, x66) : Int × Int) (a79 : Str) =>
        (ixR p.2 x65).bind fun t88 =>
        (indexS u.1 a79).bind fun t100 =>
        (ixR t88 t100).bind fun t103 =>
        Res.ok (t103.1, (x66 + t103.2))) (g := fun st z => stepK p.2 st (plc u.1 z)) (fun s => 0 ≤ s.1 ∧ s.1 < (p.2.length : Int)) (items := (List.replicate t word).flatten) (st := (at0 p.1 x, g)) b2 fun s a ha hs => by
          obtain ⟨y, c⟩ := s
          obtain ⟨i1, i2⟩ := indexS_eq (hw a (mem_rep ha))
          obtain ⟨e1, e2, e3⟩ := row_at hp.r hs i2
          refine ⟨?_, e3⟩
          show ((ixR p.2 y).bind fun t88 => (indexS u.1 a).bind fun t100 => (ixR t88 t100).bind fun t103 => Res.ok (t103.1, (c + t103.2))) = _
          rw [bind_eq e1, bind_eq i1, bind_eq e2]; rfl).1
      rw [bind_eq f]
      have z : ((List.replicate t word).flatten).foldl (fun st z => stepK p.2 st (plc u.1 z)) (at0 p.1 x, g) = gP (word.map (plc u.1)) t (x, g) p := by
        rw [foldl_rep]
        have c : (fun s => word.foldl (fun st z => stepK p.2 st (plc u.1 z)) s) = wst p.2 (word.map (plc u.1)) := by
          funext s
          unfold wst
          rw [List.foldl_map]
        rw [c, itn_tab hp hk t b2]
        have sh1 := it_sh (tab p.2 (word.map (plc u.1))) g t (at0 p.1 x, 0)
        have sh0 : sh g (at0 p.1 x, 0) = (at0 p.1 x, g) := by unfold sh; exact Prod.ext rfl (by show 0 + g = g; omega)
        rw [sh0] at sh1
        rw [sh1]
        unfold gP sh
        rw [Int.add_comm]
      rw [z]) (st := (0, 0)) h.ch (by decide)
  rw [bind_eq e]
  have l1 : (u.2.1.foldl (gP (word.map (plc u.1)) t) (0, 0)).1 < (u.2.2.length : Int) := hin.2
  show ((ixR u.2.2 (u.2.1.foldl (gP (word.map (plc u.1)) t) (0, 0)).1).bind _) = _
  rw [bind_eq (ixR_at hin.1 l1), bind_eq (ixR_at hin.1 l1)]; rfl
theorem enum_mem {α : Type} {l : List α} {q : Int × α} (h : q ∈ enumL l) : q.2 ∈ l := by
  unfold enumL at h
  obtain ⟨a, b⟩ := q
  exact (List.of_mem_zip h).2
theorem need_ok {kinds : List Str} {P : List PassT} {T : List (Str × Int)} {word : List Str} (hw : ∀ z ∈ word, z ∈ kinds) : m_need_order (Prog.mk kinds P T) word = .ok () := by
  unfold m_need_order
  obtain ⟨fl, e, s', rfl, _⟩ := Ok.forX (f := fun (_ : Unit) (it55 : (Int × Str)) => if (!decide (it55.2 ∈ (Prog.mk kinds P T).kinds)) = true then (.bad : Res (Flow Unit Unit)) else (.ok (.nx ()))) (fun _ : Unit => True) (items := enumL word) (st := ()) trivial fun s a ha _ => by
    rw [bF (by rw [decide_eq_true (show a.2 ∈ (Prog.mk kinds P T).kinds from hw _ (enum_mem ha))]; rfl)]
    exact Ok.ret ⟨(), rfl, trivial⟩
  rw [bind_eq e]; rfl
theorem rep_ok {u : Parts} (h : VP u) {word : List Str} (hw : ∀ z ∈ word, z ∈ u.1) (hl : word.length ≤ 1000) {t : Nat} (ht : t ≤ 10 ^ 12) : m_repeated_outcome (Prog.mk u.1 u.2.1 u.2.2) word (t : Int) = .ok (outc u (word.map (plc u.1)) t) := by
  have hk := places_ok hw
  unfold m_repeated_outcome
  have i2 : m_is_integer (t : Int) = .ok true := rfl
  rw [bind_eq (need_ok hw), bind_eq i2, bF (show (!true) = false from rfl), bT (decide_eq_true (by omega)), bF (by rw [decide_eq_true (by omega)]; rfl),
    bind_eq (compR_map (plc u.1) (by omega) fun z hz => by rw [bind_eq (indexS_eq (hw z hz)).1])]
  show ((m_told_behind (Prog.mk u.1 u.2.1 u.2.2) fun (y98 : Rows) (y101 : Int) => (m_table_of y98 (word.map (plc u.1))).bind fun t102 => (m_leaped t102 y101 (t : Int)).bind fun t120 => .ok t120).bind fun t82 => .ok t82) = _
  rw [Res.bind_ok']
  unfold m_told_behind
  obtain ⟨e, hin⟩ := chain_fold (w := u.1.length) (f := fun ((x15, x16) : Int × Int) (a32 : PassT) => (ixR a32.1 x15).bind fun t48 =>
    ((m_table_of a32.2 (word.map (plc u.1))).bind fun t102 => (m_leaped t102 t48 (t : Int)).bind fun t120 => Res.ok t120).bind fun t52 =>
    .ok (t52.1, (x16 + t52.2))) (g := gP (word.map (plc u.1)) t) (fun m p st hp hst => by
      refine ⟨?_, gP_in hp hk hst⟩
      obtain ⟨x, g⟩ := st
      obtain ⟨b1, b2⟩ := begin_ok hp hst
      have n1 := hp.n1
      show ((ixR p.1 x).bind _) = _
      rw [bind_eq b1, bind_eq (table_of_ok hp.r (by omega) hk), Res.bind_ok', bind_eq (leaped_ok (tab_ok hp.r hk) (by rw [tab_len]; omega) (by rw [tab_len]; exact b2) (by omega))]
      rfl) (st := (0, 0)) h.ch (by decide)
  have l1 : (u.2.1.foldl (gP (word.map (plc u.1)) t) (0, 0)).1 < (u.2.2.length : Int) := hin.2
  show ((forR u.2.1 _ _).bind _) = _
  rw [bind_eq e]
  show ((ixR u.2.2 (u.2.1.foldl (gP (word.map (plc u.1)) t) (0, 0)).1).bind _) = _
  rw [bind_eq (ixR_at hin.1 l1)]; rfl
theorem rep1_ok {u : Parts} (h : VP u) {word : List Str} (hw : ∀ z ∈ word, z ∈ u.1) (hl : word.length ≤ 1000) {t : Nat} (ht : t ≤ 10 ^ 12) : m_repeated_outcome_1 (Prog.mk u.1 u.2.1 u.2.2) word (t : Int) = .ok (outc u (word.map (plc u.1)) t) := rep_ok h hw hl ht
/-! powers -/
theorem while_inv {σ ρ : Type} {c : σ → Res Bool} {f : σ → Res (Flow σ ρ)} (I : σ → Prop) (μ : σ → Nat) (b : σ → Bool) (hc : ∀ s, I s → c s = .ok (b s)) (hf : ∀ s, I s → b s = true → Ok (f s) fun fl => ∃ s', fl = .nx s' ∧ I s' ∧ μ s' < μ s) :
    ∀ (fuel : Nat) (s : σ), I s → μ s < fuel → Ok (whileX fuel s c f) fun fl => ∃ s', fl = .nx s' ∧ I s' ∧ b s' = false
  | 0, _, _, h => absurd h (Nat.not_lt_zero _)
  | n + 1, s, hI, hm => by
    unfold whileX
    rw [bind_eq (hc s hI)]
    cases q : b s with
    | false => exact Ok.ret ⟨s, rfl, hI, q⟩
    | true =>
      refine (hf s hI q).bind fun fl hfl => ?_
      obtain ⟨s', rfl, hI', hlt⟩ := hfl
      exact while_inv I μ b hc hf n s' hI' (by omega)
def powT (rows : Rows) (places : List Int) (m : Nat) : List (Int × Int) := (List.range rows.length).map fun (i : Nat) => itn (ap (tab rows places)) m ((i : Int), 0)
section
variable {w n : Nat} {rows : Rows} {places : List Int}
theorem pow_len (m : Nat) : (powT rows places m).length = rows.length := by
  unfold powT
  rw [List.length_map, List.length_range]
theorem pow_at {m : Nat} {x : Int} (hx : 0 ≤ x ∧ x < (rows.length : Int)) : at0 (powT rows places m) x = itn (ap (tab rows places)) m (x, 0) := by
  have h := at0_get (l := powT rows places m) hx.1 (by rw [pow_len]; exact hx.2)
  have e : ((x.toNat : Nat) : Int) = x := by omega
  have h2 : (powT rows places m)[x.toNat]? = some (itn (ap (tab rows places)) m (x, 0)) := by
    unfold powT
    rw [List.getElem?_map, List.getElem?_range (by omega)]
    show some (itn (ap (tab rows places)) m (((x.toNat : Nat) : Int), 0)) = _
    rw [e]
  rw [h2] at h
  exact (Option.some.inj h).symm
theorem ap_pow {m : Nat} {q : Int × Int} (hq : 0 ≤ q.1 ∧ q.1 < (rows.length : Int)) : ap (powT rows places m) q = itn (ap (tab rows places)) m q := by
  have this := it_sh (tab rows places) q.2 m (q.1, 0)
  have e : sh q.2 (q.1, 0) = q := by unfold sh; exact Prod.ext rfl (by show 0 + q.2 = q.2; omega)
  rw [e] at this
  have e1 : ap (powT rows places m) q = ((at0 (powT rows places m) q.1).1, q.2 + (at0 (powT rows places m) q.1).2) := rfl
  rw [e1, pow_at hq, this]
  unfold sh
  rw [Int.add_comm]
theorem pow_in (h : RowsOk w n rows) (hk : ∀ k ∈ places, 0 ≤ k ∧ k < (w : Int)) {m : Nat} {q : Int × Int} (hq : q ∈ powT rows places m) : 0 ≤ q.1 ∧ q.1 < (rows.length : Int) := by
  obtain ⟨i, hi, rfl⟩ := List.mem_map.mp hq
  have hi := List.mem_range.mp hi
  have := it_in (tab_ok h hk) m (s := ((i : Int), 0)) (by rw [tab_len]; show 0 ≤ (i : Int) ∧ (i : Int) < _; omega)
  rw [tab_len] at this
  exact this
/-- each state's value goes on by a power -/
theorem pow_step (h : RowsOk w n rows) (n1 : n ≤ 1000) (hk : ∀ k ∈ places, 0 ≤ k ∧ k < (w : Int)) (a b : Nat) : compR (powT rows places a) () (fun _ (a294 : (Int × Int)) =>
          (ixR (powT rows places b) a294.1).bind fun t310 =>
          (ixR (powT rows places b) a294.1).bind fun t316 =>
          .ok ((), some (t310.1, (a294.2 + t316.2)))) = .ok ((), powT rows places (a + b)) := by
  rw [compR_map (ap (powT rows places b)) (by rw [pow_len, h.1]; omega) fun q hq => ?_]
  · congr 2
    unfold powT
    rw [List.map_map]
    refine List.map_congr_left fun i hi => ?_
    have hq := pow_in h hk (m := a) (List.mem_map.mpr ⟨i, hi, rfl⟩)
    show ap (powT rows places b) (itn (ap (tab rows places)) a ((i : Int), 0)) = _
    rw [ap_pow hq, ← itn_add]
  · have hq2 := pow_in h hk hq
    have hl : q.1 < ((powT rows places b).length : Int) := by rw [pow_len]; exact hq2.2
    rw [bind_eq (ixR_at hq2.1 hl), bind_eq (ixR_at hq2.1 hl)]; rfl
end
theorem id_tab (rows : Rows) (places : List Int) : (((List.range (((rows.length : Nat) : Int) - 0).toNat).map fun (i : Nat) => (0 : Int) + (i : Int)).map fun it => (it, (0 : Int))) = powT rows places 0 := by
  unfold powT
  rw [List.map_map, show (((rows.length : Nat) : Int) - 0).toNat = rows.length by omega]
  refine List.map_congr_left fun i _ => ?_
  show ((0 : Int) + (i : Int), (0 : Int)) = ((i : Int), 0)
  rw [Int.zero_add]
theorem wpow_ok {u : Parts} {word : List Str} (hw : ∀ z ∈ word, z ∈ u.1) {i : Int} {p : PassT} {m : Nat} (hi : ixR u.2.1 i = .ok p) (hp : PassOk u.1.length m p) {t : Nat} (ht : t ≤ 10 ^ 13) :
    m_l_word_power u word i (t : Int) = .ok (powT p.2 (word.map (plc u.1)) t) := by
  have hk := places_ok hw
  have n1 := hp.n1
  have hr := hp.r
  unfold m_l_word_power
  have lr : ((List.range (((p.2.length : Nat) : Int) - 0).toNat).map fun (i : Nat) => (0 : Int) + (i : Int)).length ≤ 100000 := by rw [rng_len (by omega)]; omega
  rw [bind_eq hi, bind_eq (rangeR_eq (by omega) (by omega)), bind_eq (compR_map (fun it => (it, (0 : Int))) lr fun a _ => rfl)]
  dsimp only
  rw [id_tab p.2 (word.map (plc u.1))]
  -- the word's own table
  have hword := Ok.forR (items := word) (st := powT p.2 (word.map (plc u.1)) 0) (f := fun x64 (a82 : Str) =>
    (indexS u.1 a82).bind fun t101 =>
    (compR x64 () (fun _ (a129 : (Int × Int)) =>
      (ixR p.2 a129.1).bind fun t145 =>
      (ixR t145 t101).bind fun t149 =>
      (ixR p.2 a129.1).bind fun t155 =>
      (ixR t155 t101).bind fun t159 =>
      .ok ((), some (t149.1, (a129.2 + t159.2))))).bind fun (_, x119) =>
    .ok x119) (fun j (x : List (Int × Int)) => x = (List.range p.2.length).map fun (i : Nat) => wst p.2 ((word.map (plc u.1)).take j) ((i : Int), 0)) rfl fun j a x ha hx => by
      obtain ⟨i1, i2⟩ := indexS_eq (hw a (List.mem_of_getElem? ha))
      have hin : ∀ q ∈ x, 0 ≤ q.1 ∧ q.1 < (p.2.length : Int) := fun q hq => by
        rw [hx] at hq
        obtain ⟨i, hi, rfl⟩ := List.mem_map.mp hq
        have hi := List.mem_range.mp hi
        exact wst_in hr (fun k hk2 => hk k (List.mem_of_mem_take hk2)) (by show 0 ≤ (i : Int) ∧ (i : Int) < _; omega)
      have c := compR_map (items := x) (f := fun _ (a129 : (Int × Int)) =>
        (ixR p.2 a129.1).bind fun t145 =>
        (ixR t145 (plc u.1 a)).bind fun t149 =>
        (ixR p.2 a129.1).bind fun t155 =>
        (ixR t155 (plc u.1 a)).bind fun t159 =>
        .ok ((), some (t149.1, (a129.2 + t159.2)))) (fun q => stepK p.2 q (plc u.1 a)) (by rw [hx, List.length_map, List.length_range]; omega) fun q hq => by
          obtain ⟨e1, e2, _⟩ := row_at hr (hin q hq) i2
          rw [bind_eq e1, bind_eq e2, bind_eq e1, bind_eq e2]; rfl
      rw [bind_eq i1, bind_eq c]
      refine Ok.ret ?_
      show x.map _ = _
      have tk : (word.map (plc u.1)).take (j + 1) = (word.map (plc u.1)).take j ++ [plc u.1 a] := by
        rw [List.take_add_one, List.getElem?_map, ha]; rfl
      rw [tk, hx, List.map_map]
      refine List.map_congr_left fun i _ => ?_
      show stepK p.2 (wst p.2 ((word.map (plc u.1)).take j) ((i : Int), 0)) (plc u.1 a) = _
      unfold wst
      rw [List.foldl_append]; rfl
  obtain ⟨x64, e64, hx64⟩ := hword
  have one : x64 = powT p.2 (word.map (plc u.1)) 1 := by
    rw [hx64, show word.length = (word.map (plc u.1)).length by rw [List.length_map], List.take_length]
    unfold powT
    refine List.map_congr_left fun i hi => ?_
    have hi := List.mem_range.mp hi
    show _ = ap (tab p.2 (word.map (plc u.1))) ((i : Int), 0)
    rw [ap_tab (by show 0 ≤ (i : Int) ∧ (i : Int) < _; omega)]
  rw [bind_eq e64, one, bind_eq (rangeR_eq (by omega) (by omega)), bind_eq (compR_map (fun it => (it, (0 : Int))) lr fun a _ => rfl)]
  dsimp only
  rw [id_tab p.2 (word.map (plc u.1))]
  refine Ok.eq ((while_inv (fun (s : List (Int × Int) × List (Int × Int) × Int) => ∃ a b c : Nat, s = (powT p.2 (word.map (plc u.1)) a, powT p.2 (word.map (plc u.1)) b, (c : Int)) ∧ a + b * c = t) (fun s => s.2.2.toNat) (fun s => decide ((0 : Int) < s.2.2)) (fun s _ => rfl) (fun s hs hb => ?_) ((t : Int).toNat + 1) _ ⟨0, 1, t, rfl, by omega⟩ (by show (t : Int).toNat < _; omega)).bind fun fl hfl => ?_)
  · obtain ⟨a, b, c, rfl, habc⟩ := hs
    have hc : 0 < c := by
      have := of_decide_eq_true hb
      have : (0 : Int) < (c : Int) := this
      omega
    have c2 : (c : Int) / 2 = ((c / 2 : Nat) : Int) := rfl
    have cm : (c : Int) % 2 = ((c % 2 : Nat) : Int) := rfl
    have s1 := pow_step hr (by omega) hk a b
    have s2 := pow_step hr (by omega) hk b b
    have dm := Nat.div_add_mod c 2
    have lt2 : c % 2 < 2 := Nat.mod_lt _ (by decide)
    dsimp only
    by_cases q : c % 2 = 1
    · rw [bT (by rw [cm, q]; rfl), bind_eq s1]
      show Ok (Res.bind (compR _ () _) _) _
      rw [bind_eq s2, c2]
      refine Ok.ret ⟨_, rfl, ⟨a + b, b + b, c / 2, rfl, ?_⟩, ?_⟩
      · have : c = 2 * (c / 2) + 1 := by omega
        generalize c / 2 = d at *
        subst this
        rw [← habc]
        have e1 : (b + b) * d = b * d + b * d := Nat.add_mul b b d
        have e2 : b * (2 * d) = 2 * (b * d) := Nat.mul_left_comm b 2 d
        have e3 : b * (2 * d + 1) = b * (2 * d) + b := Nat.mul_succ b (2 * d)
        generalize b * d = e at *
        omega
      · show ((c / 2 : Nat) : Int).toNat < (c : Int).toNat
        omega
    · rw [bF (by rw [cm, decide_eq_false (by omega)])]
      show Ok (Res.bind (compR _ () _) _) _
      rw [bind_eq s2, c2]
      refine Ok.ret ⟨_, rfl, ⟨a, b + b, c / 2, rfl, ?_⟩, ?_⟩
      · have : c = 2 * (c / 2) := by omega
        generalize c / 2 = d at *
        subst this
        rw [← habc]
        have e1 : (b + b) * d = b * d + b * d := Nat.add_mul b b d
        have e2 : b * (2 * d) = 2 * (b * d) := Nat.mul_left_comm b 2 d
        have e3 : b * (2 * d + 1) = b * (2 * d) + b := Nat.mul_succ b (2 * d)
        generalize b * d = e at *
        omega
      · show ((c / 2 : Nat) : Int).toNat < (c : Int).toNat
        omega
  · obtain ⟨s', rfl, ⟨a, b, c, rfl, habc⟩, hb⟩ := hfl
    have hc : c = 0 := by
      have := of_decide_eq_false hb
      have : ¬ (0 : Int) < (c : Int) := this
      omega
    subst hc
    refine Ok.ret ?_
    show powT p.2 (word.map (plc u.1)) a = _
    rw [show a = t by omega]
end G
set_option maxRecDepth 100000
set_option maxHeartbeats 4000000
namespace G
open PySem PySem.Spec PyProof.Rows L2
theorem forR_enum_aux {α σ : Type} {f : σ → Int × α → Res σ} {f' : σ → α → Res σ} : ∀ (l : List α) (k : Nat) (st : σ), (∀ (i : Nat) a s, l[i]? = some a → f s (((k + i : Nat) : Int), a) = f' s a) → forR (List.zip ((List.range' k l.length).map fun (i : Nat) => (i : Int)) l) st f = forR l st f'
  | [], _, _, _ => rfl
  | a :: r, k, st, h => by
    show ((f st (((k : Nat) : Int), a)).bind fun s => forR (List.zip ((List.range' (k + 1) r.length).map fun (i : Nat) => (i : Int)) r) s f) = (f' st a).bind fun s => forR r s f'
    have e0 := h 0 a st rfl
    rw [Nat.add_zero] at e0
    rw [e0]
    congr 1
    funext s
    exact forR_enum_aux r (k + 1) s fun i b s hb => by
      have := h (i + 1) b s (by simpa using hb)
      rw [show k + (i + 1) = k + 1 + i by omega] at this
      exact this
theorem forR_enum {α σ : Type} {f : σ → Int × α → Res σ} {f' : σ → α → Res σ} {l : List α} {st : σ} (h : ∀ (i : Nat) a s, l[i]? = some a → f s ((i : Int), a) = f' s a) : forR (enumL l) st f = forR l st f' := by
  unfold enumL
  rw [List.range_eq_range']
  exact forR_enum_aux l 0 st fun i a s hi => by rw [Nat.zero_add]; exact h i a s hi
theorem ixR_nat {α : Type} {l : List α} {i : Nat} {a : α} (h : l[i]? = some a) : ixR l (i : Int) = .ok a := by
  have hi := (List.getElem?_eq_some_iff.mp h).1
  unfold ixR atI ixN
  rw [if_pos (by omega), if_pos (by omega)]
  show Res.ofO (l[(i : Int).toNat]?) = _
  rw [Int.toNat_natCast, h]; rfl
theorem chain_mem {w m L : Nat} {ps : List PassT} (h : Chain w m L ps) : ∀ p ∈ ps, ∃ m', PassOk w m' p := by
  induction h with
  | nil => exact fun p hp => by cases hp
  | cons h0 _ ih =>
    intro p hp
    rcases List.mem_cons.mp hp with e | hp
    · rw [e]; exact ⟨_, h0⟩
    · exact ih p hp
theorem outc_good {u : Parts} (h : VP u) {places : List Int} (hk : ∀ k ∈ places, 0 ≤ k ∧ k < (u.1.length : Int)) (t : Nat) : GoodN (outc u places t).1 := by
  obtain ⟨_, hin⟩ := chain_fold (w := u.1.length) (f := fun st p => .ok (gP places t st p)) (g := gP places t) (fun m p st hp hst => ⟨rfl, gP_in hp hk hst⟩) (st := (0, 0)) h.ch (by decide)
  exact h.tl (at0 u.2.2 (u.2.1.foldl (gP places t) (0, 0)).1) (at0_mem hin.1 hin.2)
theorem good_ok {z : Str} (h : GoodN z) : PyData.strOk z = true := by
  have all : ∀ c ∈ letters, c < 0x110000 := by decide +kernel
  unfold PyData.strOk
  rw [Array.all_eq_true_iff_forall_mem]
  exact fun c hc => decide_eq_true (all c (h.2 c (by simpa using hc)))
theorem eq_pair {z : Str × Int} (h : GoodN z.1) : eqD (D.tup [D.str z.1, D.int z.2]) (D.tup [D.str z.1, D.int z.2]) = .ok true := by
  have g := good_ok h
  have c : PyData.canLay0 (D.py (D.tup [D.str z.1, D.int z.2])) = true := by
    simp only [D.py, D.pyL, PyData.canLay0, PyData.canLayAll0, g]; rfl
  have s : SeqAt.shaped (D.py (D.tup [D.str z.1, D.int z.2])) = true := by
    unfold SeqAt.shaped
    rw [c]; rfl
  unfold eqD
  rw [s, SeqAt.eqv_refl _ c]; rfl
theorem eq_two {z : Str × Int} (h : GoodN z.1) : eqD (D.lst (([z] ++ [z]).map fun (p : Str × Int) => D.tup [D.str p.1, D.int p.2])) (D.lst (([z, z] : List (Str × Int)).map fun (p : Str × Int) => D.tup [D.str p.1, D.int p.2])) = .ok true := by
  have g := good_ok h
  have c : PyData.canLay0 (D.py (D.lst (([z, z] : List (Str × Int)).map fun (p : Str × Int) => D.tup [D.str p.1, D.int p.2]))) = true := by
    simp only [List.map_cons, List.map_nil, D.py, D.pyL, PyData.canLay0, PyData.canLayAll0, g]; rfl
  have s : SeqAt.shaped (D.py (D.lst (([z, z] : List (Str × Int)).map fun (p : Str × Int) => D.tup [D.str p.1, D.int p.2]))) = true := by
    unfold SeqAt.shaped
    rw [c]; rfl
  show eqD (D.lst (([z, z] : List (Str × Int)).map fun (p : Str × Int) => D.tup [D.str p.1, D.int p.2])) _ = _
  unfold eqD
  rw [s, SeqAt.eqv_refl _ c]; rfl
theorem order_ok {s : Src} (h : SI s) {kinds : List Str} (k1 : 1 ≤ kinds.length) (k2 : kinds.length ≤ 100) : Ok (m_l_any_order s kinds 10) fun p => SI p.1 ∧ p.2.length ≤ 10 ∧ ∀ z ∈ p.2, z ∈ kinds := by
  unfold m_l_any_order
  refine (take_ok h (by decide) (by decide)).bind fun t ht => ?_
  rw [bind_eq (rangeR_eq (by omega) (by omega))]
  refine (Ok.compD SI (fun z => z ∈ kinds) (by rw [rng_len (by omega)]; omega) ht.1 fun s a _ hs => ?_).bind fun st hst => ?_
  · exact (pick3_ok hs (List.length_pos_iff.mp k1) (by omega)).bind fun q hq => Ok.ret ⟨hq.1, _, rfl, hq.2⟩
  · obtain ⟨s1, word⟩ := st
    have := hst.2.1
    rw [rng_len (by omega)] at this
    exact Ok.ret ⟨hst.1, by show word.length ≤ 10; have : word.length = t.2.toNat := this; omega, hst.2.2⟩
theorem powered_ok {u : Parts} (h : VP u) {word : List Str} (hw : ∀ z ∈ word, z ∈ u.1) {t : Nat} (ht : t ≤ 10 ^ 13) : m_l_powered u word (t : Int) = .ok (outc u (word.map (plc u.1)) t) := by
  have hk := places_ok hw
  unfold m_l_powered
  obtain ⟨e, hin⟩ := chain_fold (w := u.1.length) (f := fun ((x15, x16) : Int × Int) (p : PassT) => (ixR p.1 x15).bind fun t62 => (ixR (powT p.2 (word.map (plc u.1)) t) t62).bind fun t66 => Res.ok (t66.1, (x16 + t66.2))) (g := gP (word.map (plc u.1)) t) (fun m p st hp hst => by
      refine ⟨?_, gP_in hp hk hst⟩
      obtain ⟨x, g⟩ := st
      obtain ⟨b1, b2⟩ := begin_ok hp hst
      show ((ixR p.1 x).bind _) = _
      rw [bind_eq b1, bind_eq (ixR_at b2.1 (by rw [pow_len]; exact b2.2)), pow_at b2]
      rfl) (st := (0, 0)) h.ch (by decide)
  have l1 : (u.2.1.foldl (gP (word.map (plc u.1)) t) (0, 0)).1 < (u.2.2.length : Int) := hin.2
  rw [forR_enum (f' := fun ((x15, x16) : Int × Int) (p : PassT) => (ixR p.1 x15).bind fun t62 => (ixR (powT p.2 (word.map (plc u.1)) t) t62).bind fun t66 => Res.ok (t66.1, (x16 + t66.2))) fun i p s hi => ?_, bind_eq e]
  · show ((ixR u.2.2 (u.2.1.foldl (gP (word.map (plc u.1)) t) (0, 0)).1).bind _) = _
    rw [bind_eq (ixR_at hin.1 l1), bind_eq (ixR_at hin.1 l1)]; rfl
  · obtain ⟨x, g⟩ := s
    obtain ⟨m, hp⟩ := chain_mem h.ch p (List.mem_of_getElem? hi)
    show ((m_l_word_power u word (i : Int) (t : Int)).bind _) = _
    rw [bind_eq (wpow_ok hw (ixR_nat hi) hp ht)]
/-! the law -/
theorem law_true (ns : List Int) (hn : ns.length ≤ 63) : m_law ns = .ok true := by
  unfold m_law
  refine Ok.eq ((begun_ok ns hn).bind fun s0 h0 => ?_)
  rw [bind_eq (rangeR_eq (by decide) (by decide))]
  refine (Ok.forX SI (ρ := Bool) h0 fun s a _ hs => ?_).bind fun fl hfl => ?_
  rotate_left
  · obtain ⟨s', rfl, _⟩ := hfl
    exact Ok.ret rfl
  refine (story_ok hs (most := 6) (by decide) (by decide)).bind fun q hq => ?_
  obtain ⟨s1, u⟩ := q
  obtain ⟨hs1, hu⟩ := hq
  dsimp only at hs1 hu ⊢
  have k2 := hu.k2
  rw [bind_eq (init_ok hu), bind_eq (rangeR_eq (by decide) (by decide))]
  refine (Ok.forX SI (ρ := Bool) hs1 fun s a _ hs => ?_).bind fun fl hfl => ?_
  rotate_left
  · obtain ⟨s', rfl, hs'⟩ := hfl
    exact Ok.ret ⟨s', rfl, hs'⟩
  refine (order_ok hs hu.k1 (by omega)).bind fun q hq => ?_
  obtain ⟨s2, word⟩ := q
  obtain ⟨hs2, hwl, hw⟩ := hq
  dsimp only at hs2 hwl hw ⊢
  refine (take_ok hs2 (m := 13) (by decide) (by decide)).bind fun q hq => ?_
  obtain ⟨s3, few⟩ := q
  obtain ⟨hs3, hf0, hf1⟩ := hq
  dsimp only at hs3 hf0 hf1 ⊢
  obtain ⟨f, rfl⟩ : ∃ f : Nat, few = (f : Int) := ⟨few.toNat, by omega⟩
  have hm : mulT word (f : Int) = .ok ((List.replicate f word).flatten) := by
    unfold mulT
    rw [if_pos ⟨by omega, by omega, by omega⟩, Int.toNat_natCast]
  have hk := places_ok hw
  have gd := outc_good hu hk
  rw [bind_eq hm, bind_eq (ran_ok hu hw f), bind_eq (rep_ok hu hw (by omega) (t := f) (by omega)), bind_eq (eq_pair (gd f)), bF (show (!true) = false from rfl), bind_eq (powered_ok hu hw (t := f) (by omega)), bind_eq (eq_pair (gd f)), bF (show (!true) = false from rfl)]
  have ten : ((10 : Int) ^ ((12 : Int)).toNat) = 1000000000000 := by decide
  rw [ten]
  refine (take_ok hs3 (by decide) (by decide)).bind fun a ha => ?_
  refine (take_ok ha.1 (by decide) (by decide)).bind fun b hb => ?_
  refine (pick_ok hb.1 (by simp) (by simp)).bind fun q hq => ?_
  obtain ⟨s4, often⟩ := q
  obtain ⟨hs4, ho⟩ := hq
  dsimp only at hs4 ho ⊢
  have ho2 : 0 ≤ often ∧ often ≤ 1000000000000 := by
    obtain ⟨_, a2, a3⟩ := ha
    obtain ⟨_, b2, b3⟩ := hb
    simp at ho
    omega
  obtain ⟨o, rfl⟩ : ∃ o : Nat, often = (o : Int) := ⟨often.toNat, by omega⟩
  rw [bind_eq (powered_ok hu hw (t := o) (by omega)), bind_eq (rep1_ok hu hw (by omega) (t := o) (by omega)), bind_eq (rep_ok hu hw (by omega) (t := o) (by omega)), bind_eq (lenG_eq (l := [outc u (word.map (plc u.1)) o]) (show 1 < 100000 by decide)), bind_eq (eq_two (gd o)), bF (show (!true) = false from rfl)]
  exact Ok.ret ⟨s4, rfl, hs4⟩
end G
set_option maxRecDepth 100000
set_option maxHeartbeats 4000000
namespace G
open PySem PySem.Spec PyProof.Rows L2
def top (i : Nat) : Stmt := PySem.Challenge.pw_seedless_k70_outcomes_of_repeated_orders.main.body.getD i (.Pass ⟨0, 0, 0, 0⟩)
structure Txt (K : PySem.W.Frag) (mg : Str → Option Value) where
  a_l_begun : Addr
  f_l_begun : FuncData
  d_l_begun : FunD K "_law_begun" "_law_begun" (defArgs (top 28)) (defBody (top 28)) (defScope (top 28)) [] [] a_l_begun f_l_begun
  b_l_begun : Binds K f_l_begun ["_law_script"] []
  g_l_begun : mg "_law_begun" = some (.ref a_l_begun)
  a_l_take : Addr
  f_l_take : FuncData
  d_l_take : FunD K "_law_take" "_law_take" (defArgs (top 29)) (defBody (top 29)) (defScope (top 29)) [] [] a_l_take f_l_take
  b_l_take : Binds K f_l_take ["_law_draw", "_law_many"] []
  g_l_take : mg "_law_take" = some (.ref a_l_take)
  a_l_pick : Addr
  f_l_pick : FuncData
  d_l_pick : FunD K "_law_pick" "_law_pick" (defArgs (top 30)) (defBody (top 30)) (defScope (top 30)) [] [] a_l_pick f_l_pick
  b_l_pick : Binds K f_l_pick ["_law_draw", "_law_some"] []
  g_l_pick : mg "_law_pick" = some (.ref a_l_pick)
  a_l_labels : Addr
  f_l_labels : FuncData
  d_l_labels : FunD K "_law_labels" "_law_labels" (defArgs (top 31)) (defBody (top 31)) (defScope (top 31)) [] [] a_l_labels f_l_labels
  b_l_labels : Binds K f_l_labels ["_law_draw", "_law_many"] []
  g_l_labels : mg "_law_labels" = some (.ref a_l_labels)
  a_l_any_gain : Addr
  f_l_any_gain : FuncData
  d_l_any_gain : FunD K "_law_any_gain" "_law_any_gain" (defArgs (top 32)) (defBody (top 32)) (defScope (top 32)) [] [] a_l_any_gain f_l_any_gain
  b_l_any_gain : Binds K f_l_any_gain ["_law_draw"] []
  g_l_any_gain : mg "_law_any_gain" = some (.ref a_l_any_gain)
  a_l_any_rows : Addr
  f_l_any_rows : FuncData
  d_l_any_rows : FunD K "_law_any_rows" "_law_any_rows" (defArgs (top 33)) (defBody (top 33)) (defScope (top 33)) [] [] a_l_any_rows f_l_any_rows
  b_l_any_rows : Binds K f_l_any_rows ["_law_draw", "_law_kinds", "_law_many"] []
  g_l_any_rows : mg "_law_any_rows" = some (.ref a_l_any_rows)
  a_l_story : Addr
  f_l_story : FuncData
  d_l_story : FunD K "_law_story" "_law_story" (defArgs (top 34)) (defBody (top 34)) (defScope (top 34)) [] [] a_l_story f_l_story
  b_l_story : Binds K f_l_story ["_law_draw", "_law_most"] []
  g_l_story : mg "_law_story" = some (.ref a_l_story)
  a_is_name : Addr
  f_is_name : FuncData
  d_is_name : FunD K "is_name" "is_name" (defArgs (top 11)) (defBody (top 11)) (defScope (top 11)) [] [] a_is_name f_is_name
  b_is_name : Binds K f_is_name ["thing"] []
  g_is_name : mg "is_name" = some (.ref a_is_name)
  a_are_kinds : Addr
  f_are_kinds : FuncData
  d_are_kinds : FunD K "are_kinds" "are_kinds" (defArgs (top 12)) (defBody (top 12)) (defScope (top 12)) [] [] a_are_kinds f_are_kinds
  b_are_kinds : Binds K f_are_kinds ["thing"] []
  g_are_kinds : mg "are_kinds" = some (.ref a_are_kinds)
  a_is_integer : Addr
  f_is_integer : FuncData
  d_is_integer : FunD K "is_integer" "is_integer" (defArgs (top 10)) (defBody (top 10)) (defScope (top 10)) [] [] a_is_integer f_is_integer
  b_is_integer : Binds K f_is_integer ["thing"] []
  g_is_integer : mg "is_integer" = some (.ref a_is_integer)
  a_is_state : Addr
  f_is_state : FuncData
  d_is_state : FunD K "is_state" "is_state" (defArgs (top 13)) (defBody (top 13)) (defScope (top 13)) [] [] a_is_state f_is_state
  b_is_state : Binds K f_is_state ["many", "thing"] []
  g_is_state : mg "is_state" = some (.ref a_is_state)
  a_is_pair : Addr
  f_is_pair : FuncData
  d_is_pair : FunD K "is_pair" "is_pair" (defArgs (top 14)) (defBody (top 14)) (defScope (top 14)) [] [] a_is_pair f_is_pair
  b_is_pair : Binds K f_is_pair ["many", "thing"] []
  g_is_pair : mg "is_pair" = some (.ref a_is_pair)
  a_are_rows : Addr
  f_are_rows : FuncData
  d_are_rows : FunD K "are_rows" "are_rows" (defArgs (top 15)) (defBody (top 15)) (defScope (top 15)) [] [] a_are_rows f_are_rows
  b_are_rows : Binds K f_are_rows ["size", "thing"] []
  g_are_rows : mg "are_rows" = some (.ref a_are_rows)
  a_is_pass : Addr
  f_is_pass : FuncData
  d_is_pass : FunD K "is_pass" "is_pass" (defArgs (top 16)) (defBody (top 16)) (defScope (top 16)) [] [] a_is_pass f_is_pass
  b_is_pass : Binds K f_is_pass ["size", "begins", "thing"] []
  g_is_pass : mg "is_pass" = some (.ref a_is_pass)
  a_are_passes : Addr
  f_are_passes : FuncData
  d_are_passes : FunD K "are_passes" "are_passes" (defArgs (top 17)) (defBody (top 17)) (defScope (top 17)) [] [] a_are_passes f_are_passes
  b_are_passes : Binds K f_are_passes ["size", "thing"] []
  g_are_passes : mg "are_passes" = some (.ref a_are_passes)
  a_is_tell : Addr
  f_is_tell : FuncData
  d_is_tell : FunD K "is_tell" "is_tell" (defArgs (top 18)) (defBody (top 18)) (defScope (top 18)) [] [] a_is_tell f_is_tell
  b_is_tell : Binds K f_is_tell ["thing"] []
  g_is_tell : mg "is_tell" = some (.ref a_is_tell)
  a_Program___init__ : Addr
  f_Program___init__ : FuncData
  d_Program___init__ : FunD K "__init__" "Program.__init__" (defArgs (inClass (top 19) 0)) (defBody (inClass (top 19) 0)) (defScope (inClass (top 19) 0)) [] [] a_Program___init__ f_Program___init__
  b_Program___init__ : Binds K f_Program___init__ ["self", "kinds", "passes", "tells"] []
  a_l_any_order : Addr
  f_l_any_order : FuncData
  d_l_any_order : FunD K "_law_any_order" "_law_any_order" (defArgs (top 36)) (defBody (top 36)) (defScope (top 36)) [] [] a_l_any_order f_l_any_order
  b_l_any_order : Binds K f_l_any_order ["_law_draw", "_law_kinds", "_law_most"] []
  g_l_any_order : mg "_law_any_order" = some (.ref a_l_any_order)
  a_l_ran : Addr
  f_l_ran : FuncData
  d_l_ran : FunD K "_law_ran" "_law_ran" (defArgs (top 35)) (defBody (top 35)) (defScope (top 35)) [] [] a_l_ran f_l_ran
  b_l_ran : Binds K f_l_ran ["_law_parts", "_law_word"] []
  g_l_ran : mg "_law_ran" = some (.ref a_l_ran)
  a_need_order : Addr
  f_need_order : FuncData
  d_need_order : FunD K "need_order" "need_order" (defArgs (top 20)) (defBody (top 20)) (defScope (top 20)) [] [] a_need_order f_need_order
  b_need_order : Binds K f_need_order ["program", "order"] []
  g_need_order : mg "need_order" = some (.ref a_need_order)
  a_told_behind : Addr
  f_told_behind : FuncData
  d_told_behind : FunD K "told_behind" "told_behind" (defArgs (top 25)) (defBody (top 25)) (defScope (top 25)) [] [] a_told_behind f_told_behind
  b_told_behind : Binds K f_told_behind ["program", "legs"] []
  g_told_behind : mg "told_behind" = some (.ref a_told_behind)
  a_table_of : Addr
  f_table_of : FuncData
  d_table_of : FunD K "table_of" "table_of" (defArgs (top 24)) (defBody (top 24)) (defScope (top 24)) [] [] a_table_of f_table_of
  b_table_of : Binds K f_table_of ["rows", "places"] []
  g_table_of : mg "table_of" = some (.ref a_table_of)
  a_leaped : Addr
  f_leaped : FuncData
  d_leaped : FunD K "leaped" "leaped" (defArgs (top 23)) (defBody (top 23)) (defScope (top 23)) [] [] a_leaped f_leaped
  b_leaped : Binds K f_leaped ["table", "state", "times"] []
  g_leaped : mg "leaped" = some (.ref a_leaped)
  a_repeated_outcome : Addr
  f_repeated_outcome : FuncData
  d_repeated_outcome : FunD K "repeated_outcome" "repeated_outcome" (defArgs (top 26)) (defBody (top 26)) (defScope (top 26)) [] [] a_repeated_outcome f_repeated_outcome
  b_repeated_outcome : Binds K f_repeated_outcome ["program", "order", "times"] []
  g_repeated_outcome : mg "repeated_outcome" = some (.ref a_repeated_outcome)
  a_l_word_power : Addr
  f_l_word_power : FuncData
  d_l_word_power : FunD K "_law_word_power" "_law_word_power" (defArgs (top 37)) (defBody (top 37)) (defScope (top 37)) [] [] a_l_word_power f_l_word_power
  b_l_word_power : Binds K f_l_word_power ["_law_parts", "_law_word", "_law_number", "_law_often"] []
  g_l_word_power : mg "_law_word_power" = some (.ref a_l_word_power)
  a_l_powered : Addr
  f_l_powered : FuncData
  d_l_powered : FunD K "_law_powered" "_law_powered" (defArgs (top 38)) (defBody (top 38)) (defScope (top 38)) [] [] a_l_powered f_l_powered
  b_l_powered : Binds K f_l_powered ["_law_parts", "_law_word", "_law_often"] []
  g_l_powered : mg "_law_powered" = some (.ref a_l_powered)
  a_law : Addr
  f_law : FuncData
  d_law : FunD K "law" "law" (defArgs (top 39)) (defBody (top 39)) (defScope (top 39)) [] [] a_law f_law
  b_law : Binds K f_law ["_law_script"] []
  g_law : mg "law" = some (.ref a_law)
  a_Program : Addr
  cl_Program : Cls K a_Program
  gc_Program : mg "Program" = some (.ref a_Program)
  mk_Program : Mk K a_Program a_Program___init__
  na_Program_p_kinds : NoAttr K a_Program "p_kinds"
  na_Program_p_passes : NoAttr K a_Program "p_passes"
  na_Program_p_tells : NoAttr K a_Program "p_tells"
  a_Program_kinds : Addr
  f_Program_kinds : FuncData
  d_Program_kinds : FunD K "kinds" "Program.kinds" (defArgs (inClass (top 19) 2)) (defBody (inClass (top 19) 2)) (defScope (inClass (top 19) 2)) [] [] a_Program_kinds f_Program_kinds
  b_Program_kinds : Binds K f_Program_kinds ["self"] []
  pp_kinds : Addr
  pr_kinds : PropOf K a_Program "kinds" pp_kinds a_Program_kinds
  a_Program_passes : Addr
  f_Program_passes : FuncData
  d_Program_passes : FunD K "passes" "Program.passes" (defArgs (inClass (top 19) 3)) (defBody (inClass (top 19) 3)) (defScope (inClass (top 19) 3)) [] [] a_Program_passes f_Program_passes
  b_Program_passes : Binds K f_Program_passes ["self"] []
  pp_passes : Addr
  pr_passes : PropOf K a_Program "passes" pp_passes a_Program_passes
  a_Program_tells : Addr
  f_Program_tells : FuncData
  d_Program_tells : FunD K "tells" "Program.tells" (defArgs (inClass (top 19) 4)) (defBody (inClass (top 19) 4)) (defScope (inClass (top 19) 4)) [] [] a_Program_tells f_Program_tells
  b_Program_tells : Binds K f_Program_tells ["self"] []
  pp_tells : Addr
  pr_tells : PropOf K a_Program "tells" pp_tells a_Program_tells
  cc_ : Addr
  P_ : Addr
  cd_repeated_outcome : f_repeated_outcome.code = .ref cc_
  n_abs : mg "abs" = none
  n_all : mg "all" = none
  n_bool : mg "bool" = none
  n_enumerate : mg "enumerate" = none
  n_int : mg "int" = none
  n_isinstance : mg "isinstance" = none
  n_len : mg "len" = none
  n_list : mg "list" = none
  n_range : mg "range" = none
  n_sorted : mg "sorted" = none
  n_str : mg "str" = none
  n_tuple : mg "tuple" = none
  n_zip : mg "zip" = none
  c_LETTERS : ∃ t, mg "LETTERS" = some (.str "abcdefghijklmnopqrstuvwxyz" t)
  c_MOST_KINDS : ∃ t, mg "MOST_KINDS" = some (.int 4 t)
  c_MOST_LETTERS : ∃ t, mg "MOST_LETTERS" = some (.int 8 t)
  c_MOST_PASSES : ∃ t, mg "MOST_PASSES" = some (.int 2 t)
  c_MOST_TIMES : ∃ t, mg "MOST_TIMES" = some (.int 1000000000000 t)
def sp_l_begun (K : PySem.W.Frag) (C_Program : Addr) : Sp := fun vs H Q _ => ∃ (B : Hp) (p_ : Addr) (u0 : List Int), vs = [.ref p_] ∧ Same B H ∧ SqL K H p_ (u0.map V.int) ∧ PostB0 B H  Q (m_l_begun u0)
def sp_l_take (K : PySem.W.Frag) (C_Program : Addr) : Sp := fun vs H Q _ => ∃ (a c : Addr) (s0 : Src) (B : Hp) (u1 : Int), vs = [.ref a, (.int u1)] ∧ Same B H ∧ SrcAt a c B H s0 ∧ PostS K a c B H D.int Q (m_l_take s0 u1)
def sp_l_pick (K : PySem.W.Frag) (C_Program : Addr) : Sp := fun vs H Q _ => ∃ (a c : Addr) (s0 : Src) (B : Hp) (u1 : (List Int)) (vv1 : V), vs = [.ref a, vv1] ∧ Same B H ∧ Rep K B ((fun (l : List Int) => D.lst (l.map D.int)) u1) vv1 ∧ SrcAt a c B H s0 ∧ PostS K a c B H D.int Q (m_l_pick s0 u1)
def sp_l_pick_1 (K : PySem.W.Frag) (C_Program : Addr) : Sp := fun vs H Q _ => ∃ (a c : Addr) (s0 : Src) (B : Hp) (u1 : (List Str)) (vv1 : V), vs = [.ref a, vv1] ∧ Same B H ∧ Rep K B ((fun (l : List Str) => D.lst (l.map D.str)) u1) vv1 ∧ SrcAt a c B H s0 ∧ PostS K a c B H D.str Q (m_l_pick_1 s0 u1)
def sp_l_pick_2 (K : PySem.W.Frag) (C_Program : Addr) : Sp := fun vs H Q _ => ∃ (a c : Addr) (s0 : Src) (B : Hp) (u1 : Str), vs = [.ref a, (.str u1)] ∧ Same B H ∧ SrcAt a c B H s0 ∧ PostS K a c B H (fun (c : Nat) => D.str ⟨#[c]⟩) Q (m_l_pick_2 s0 u1)
def sp_l_labels (K : PySem.W.Frag) (C_Program : Addr) : Sp := fun vs H Q _ => ∃ (a c : Addr) (s0 : Src) (B : Hp) (u1 : Int), vs = [.ref a, (.int u1)] ∧ Same B H ∧ SrcAt a c B H s0 ∧ PostLS K a c B H D.str Q (m_l_labels s0 u1)
def sp_l_any_gain (K : PySem.W.Frag) (C_Program : Addr) : Sp := fun vs H Q _ => ∃ (a c : Addr) (s0 : Src) (B : Hp) , vs = [.ref a] ∧ Same B H ∧ SrcAt a c B H s0 ∧ PostS K a c B H D.int Q (m_l_any_gain s0)
def sp_l_any_rows (K : PySem.W.Frag) (C_Program : Addr) : Sp := fun vs H Q _ => ∃ (a c : Addr) (s0 : Src) (B : Hp) (u1 : (List Str)) (vv1 : V) (u2 : Int), vs = [.ref a, vv1, (.int u2)] ∧ Same B H ∧ Rep K B ((fun (l : List Str) => D.ktup (l.map D.str)) u1) vv1 ∧ SrcAt a c B H s0 ∧ PostS K a c B H (fun (l : List (List (Int × Int))) => D.tup (l.map (fun (l : List (Int × Int)) => D.tup (l.map (fun (p : (Int × Int)) => D.tup [D.int p.1, D.int p.2]))))) Q (m_l_any_rows s0 u1 u2)
def sp_l_story (K : PySem.W.Frag) (C_Program : Addr) : Sp := fun vs H Q _ => ∃ (a c : Addr) (s0 : Src) (B : Hp) (u1 : Int), vs = [.ref a, (.int u1)] ∧ Same B H ∧ SrcAt a c B H s0 ∧ PostS K a c B H (fun (p : ((List Str) × (List ((List Int) × (List (List (Int × Int))))) × (List (Str × Int)))) => D.tup [(fun (l : List Str) => D.ktup (l.map D.str)) p.1, (fun (l : List ((List Int) × (List (List (Int × Int))))) => D.tup (l.map (fun (p : ((List Int) × (List (List (Int × Int))))) => D.tup [(fun (l : List Int) => D.tup (l.map D.int)) p.1, (fun (l : List (List (Int × Int))) => D.tup (l.map (fun (l : List (Int × Int)) => D.tup (l.map (fun (p : (Int × Int)) => D.tup [D.int p.1, D.int p.2]))))) p.2]))) p.2.1, (fun (l : List (Str × Int)) => D.tup (l.map (fun (p : (Str × Int)) => D.tup [D.str p.1, D.int p.2]))) p.2.2]) Q (m_l_story s0 u1)
def sp_is_name (K : PySem.W.Frag) (C_Program : Addr) : Sp := fun vs H Q _ => ∃ (B : Hp) (u0 : Str), vs = [(.str u0)] ∧ Same B H ∧ Post K S0 B H D.bl Q (m_is_name u0)
def sp_are_kinds (K : PySem.W.Frag) (C_Program : Addr) : Sp := fun vs H Q _ => ∃ (B : Hp) (u0 : (List Str)) (vv0 : V), vs = [vv0] ∧ Same B H ∧ Rep K B ((fun (l : List Str) => D.ktup (l.map D.str)) u0) vv0 ∧ Post K S0 B H D.bl Q (m_are_kinds u0)
def sp_is_integer (K : PySem.W.Frag) (C_Program : Addr) : Sp := fun vs H Q _ => ∃ (B : Hp) (u0 : Int), vs = [(.int u0)] ∧ Same B H ∧ Post K S0 B H D.bl Q (m_is_integer u0)
def sp_is_state (K : PySem.W.Frag) (C_Program : Addr) : Sp := fun vs H Q _ => ∃ (B : Hp) (u0 : Int) (u1 : Int), vs = [(.int u0), (.int u1)] ∧ Same B H ∧ Post K S0 B H D.bl Q (m_is_state u0 u1)
def sp_is_pair (K : PySem.W.Frag) (C_Program : Addr) : Sp := fun vs H Q _ => ∃ (B : Hp) (u0 : Int) (u1 : (Int × Int)) (vv1 : V), vs = [(.int u0), vv1] ∧ Same B H ∧ Rep K B ((fun (p : (Int × Int)) => D.tup [D.int p.1, D.int p.2]) u1) vv1 ∧ Post K S0 B H D.bl Q (m_is_pair u0 u1)
def sp_are_rows (K : PySem.W.Frag) (C_Program : Addr) : Sp := fun vs H Q _ => ∃ (B : Hp) (u0 : Int) (u1 : (List (List (Int × Int)))) (vv1 : V), vs = [(.int u0), vv1] ∧ Same B H ∧ Rep K B ((fun (l : List (List (Int × Int))) => D.tup (l.map (fun (l : List (Int × Int)) => D.tup (l.map (fun (p : (Int × Int)) => D.tup [D.int p.1, D.int p.2]))))) u1) vv1 ∧ Post K S0 B H D.bl Q (m_are_rows u0 u1)
def sp_is_pass (K : PySem.W.Frag) (C_Program : Addr) : Sp := fun vs H Q _ => ∃ (B : Hp) (u0 : Int) (u1 : Int) (u2 : ((List Int) × (List (List (Int × Int))))) (vv2 : V), vs = [(.int u0), (.int u1), vv2] ∧ Same B H ∧ Rep K B ((fun (p : ((List Int) × (List (List (Int × Int))))) => D.tup [(fun (l : List Int) => D.tup (l.map D.int)) p.1, (fun (l : List (List (Int × Int))) => D.tup (l.map (fun (l : List (Int × Int)) => D.tup (l.map (fun (p : (Int × Int)) => D.tup [D.int p.1, D.int p.2]))))) p.2]) u2) vv2 ∧ Post K S0 B H D.bl Q (m_is_pass u0 u1 u2)
def sp_are_passes (K : PySem.W.Frag) (C_Program : Addr) : Sp := fun vs H Q _ => ∃ (B : Hp) (u0 : Int) (u1 : (List ((List Int) × (List (List (Int × Int)))))) (vv1 : V), vs = [(.int u0), vv1] ∧ Same B H ∧ Rep K B ((fun (l : List ((List Int) × (List (List (Int × Int))))) => D.tup (l.map (fun (p : ((List Int) × (List (List (Int × Int))))) => D.tup [(fun (l : List Int) => D.tup (l.map D.int)) p.1, (fun (l : List (List (Int × Int))) => D.tup (l.map (fun (l : List (Int × Int)) => D.tup (l.map (fun (p : (Int × Int)) => D.tup [D.int p.1, D.int p.2]))))) p.2]))) u1) vv1 ∧ Post K S0 B H D.bl Q (m_are_passes u0 u1)
def sp_is_tell (K : PySem.W.Frag) (C_Program : Addr) : Sp := fun vs H Q _ => ∃ (B : Hp) (u0 : (Str × Int)) (vv0 : V), vs = [vv0] ∧ Same B H ∧ Rep K B ((fun (p : (Str × Int)) => D.tup [D.str p.1, D.int p.2]) u0) vv0 ∧ Post K S0 B H D.bl Q (m_is_tell u0)
def sp_Program___init__ (K : PySem.W.Frag) (C : Addr) : Sp := fun vs H Q _ => ∃ (self_ dx : Addr) (B : Hp) (u1 : (List Str)) (vv1 : V) (u2 : (List ((List Int) × (List (List (Int × Int)))))) (vv2 : V) (u3 : (List (Str × Int))) (vv3 : V), vs = [.ref self_, vv1, vv2, vv3] ∧ Same B H ∧ SelfAt C self_ dx B H [] ∧ Rep K B ((fun (l : List Str) => D.ktup (l.map D.str)) u1) vv1 ∧ Rep K B ((fun (l : List ((List Int) × (List (List (Int × Int))))) => D.tup (l.map (fun (p : ((List Int) × (List (List (Int × Int))))) => D.tup [(fun (l : List Int) => D.tup (l.map D.int)) p.1, (fun (l : List (List (Int × Int))) => D.tup (l.map (fun (l : List (Int × Int)) => D.tup (l.map (fun (p : (Int × Int)) => D.tup [D.int p.1, D.int p.2]))))) p.2]))) u2) vv2 ∧ Rep K B ((fun (l : List (Str × Int)) => D.tup (l.map (fun (p : (Str × Int)) => D.tup [D.str p.1, D.int p.2]))) u3) vv3 ∧ PostN C self_ dx B H (putF "p_tells" vv3 (putF "p_passes" vv2 (putF "p_kinds" vv1 []))) Q (m_Program___init__ u1 u2 u3)
def sp_l_pick_3 (K : PySem.W.Frag) (C_Program : Addr) : Sp := fun vs H Q _ => ∃ (a c : Addr) (s0 : Src) (B : Hp) (u1 : (List Str)) (vv1 : V), vs = [.ref a, vv1] ∧ Same B H ∧ Rep K B ((fun (l : List Str) => D.ktup (l.map D.str)) u1) vv1 ∧ SrcAt a c B H s0 ∧ PostS K a c B H D.str Q (m_l_pick_3 s0 u1)
def sp_l_any_order (K : PySem.W.Frag) (C_Program : Addr) : Sp := fun vs H Q _ => ∃ (a c : Addr) (s0 : Src) (B : Hp) (u1 : (List Str)) (vv1 : V) (u2 : Int), vs = [.ref a, vv1, (.int u2)] ∧ Same B H ∧ Rep K B ((fun (l : List Str) => D.ktup (l.map D.str)) u1) vv1 ∧ SrcAt a c B H s0 ∧ PostS K a c B H (fun (l : List Str) => D.tup (l.map D.str)) Q (m_l_any_order s0 u1 u2)
def sp_l_ran (K : PySem.W.Frag) (C_Program : Addr) : Sp := fun vs H Q _ => ∃ (B : Hp) (u0 : ((List Str) × (List ((List Int) × (List (List (Int × Int))))) × (List (Str × Int)))) (vv0 : V) (u1 : (List Str)) (vv1 : V), vs = [vv0, vv1] ∧ Same B H ∧ Rep K B ((fun (p : ((List Str) × (List ((List Int) × (List (List (Int × Int))))) × (List (Str × Int)))) => D.tup [(fun (l : List Str) => D.ktup (l.map D.str)) p.1, (fun (l : List ((List Int) × (List (List (Int × Int))))) => D.tup (l.map (fun (p : ((List Int) × (List (List (Int × Int))))) => D.tup [(fun (l : List Int) => D.tup (l.map D.int)) p.1, (fun (l : List (List (Int × Int))) => D.tup (l.map (fun (l : List (Int × Int)) => D.tup (l.map (fun (p : (Int × Int)) => D.tup [D.int p.1, D.int p.2]))))) p.2]))) p.2.1, (fun (l : List (Str × Int)) => D.tup (l.map (fun (p : (Str × Int)) => D.tup [D.str p.1, D.int p.2]))) p.2.2]) u0) vv0 ∧ Rep K B ((fun (l : List Str) => D.tup (l.map D.str)) u1) vv1 ∧ Post K S0 B H (fun (p : (Str × Int)) => D.tup [D.str p.1, D.int p.2]) Q (m_l_ran u0 u1)
def sp_need_order (K : PySem.W.Frag) (C_Program : Addr) : Sp := fun vs H Q _ => ∃ (B : Hp) (u0 : Prog) (vv0 : V) (u1 : (List Str)) (vv1 : V), vs = [vv0, vv1] ∧ Same B H ∧ Rep K B ((Prog.em C_Program) u0) vv0 ∧ Rep K B ((fun (l : List Str) => D.tup (l.map D.str)) u1) vv1 ∧ Post K S0 B H (fun (_ : Unit) => D.non) Q (m_need_order u0 u1)
def tt_told_behind (K : PySem.W.Frag) (C_Program : Addr) : V → (List V → Hp → VK → Prop) → Hp → VK → Prop := fun v1 tl H Q => ∃ (B : Hp) (u0 : Prog) (vv0 : V) (u1 : ((List (List (Int × Int))) → Int → Res (Int × Int))), vv0 = v1 ∧ Same B H ∧ Rep K B ((Prog.em C_Program) u0) vv0 ∧ (∀ (B1 H1 : Hp) (Q1 : VK) (y0 : (List (List (Int × Int)))) (z0 : V) (y1 : Int), Same B B1 → Same B1 H1 → Rep K B1 ((fun (l : List (List (Int × Int))) => D.tup (l.map (fun (l : List (Int × Int)) => D.tup (l.map (fun (p : (Int × Int)) => D.tup [D.int p.1, D.int p.2]))))) y0) z0 → Post K S0 B1 H1 (fun (p : (Int × Int)) => D.tup [D.int p.1, D.int p.2]) Q1 (u1 y0 y1) → tl [z0, (.int y1)] H1 Q1) ∧ Post K S0 B H (fun (p : (Str × Int)) => D.tup [D.str p.1, D.int p.2]) Q (m_told_behind u0 u1)
def sp_table_of (K : PySem.W.Frag) (C_Program : Addr) : Sp := fun vs H Q _ => ∃ (B : Hp) (u0 : (List (List (Int × Int)))) (vv0 : V) (u1 : (List Int)) (vv1 : V), vs = [vv0, vv1] ∧ Same B H ∧ Rep K B ((fun (l : List (List (Int × Int))) => D.tup (l.map (fun (l : List (Int × Int)) => D.tup (l.map (fun (p : (Int × Int)) => D.tup [D.int p.1, D.int p.2]))))) u0) vv0 ∧ Rep K B ((fun (l : List Int) => D.lst (l.map D.int)) u1) vv1 ∧ PostL K S0 B H (fun (p : (Int × Int)) => D.tup [D.int p.1, D.int p.2]) Q (m_table_of u0 u1)
def sp_leaped (K : PySem.W.Frag) (C_Program : Addr) : Sp := fun vs H Q _ => ∃ (B : Hp) (u0 : (List (Int × Int))) (vv0 : V) (u1 : Int) (u2 : Int), vs = [vv0, (.int u1), (.int u2)] ∧ Same B H ∧ Rep K B ((fun (l : List (Int × Int)) => D.lst (l.map (fun (p : (Int × Int)) => D.tup [D.int p.1, D.int p.2]))) u0) vv0 ∧ Post K S0 B H (fun (p : (Int × Int)) => D.tup [D.int p.1, D.int p.2]) Q (m_leaped u0 u1 u2)
def sp_repeated_outcome (K : PySem.W.Frag) (C_Program : Addr) (P_ : Addr) : Sp := fun vs H Q _ => ∃ (B : Hp) (u0 : Prog) (vv0 : V) (u1 : (List Str)) (vv1 : V) (u2 : Int), vs = [vv0, vv1, (.int u2)] ∧ Same B H ∧ Rep K B ((Prog.em C_Program) u0) vv0 ∧ Rep K B ((fun (l : List Str) => D.tup (l.map D.str)) u1) vv1 ∧ TabG H P_ ∧ B P_ = none ∧ Post K S0 B H (fun (p : (Str × Int)) => D.tup [D.str p.1, D.int p.2]) Q (m_repeated_outcome u0 u1 u2)
def sp_l_word_power (K : PySem.W.Frag) (C_Program : Addr) : Sp := fun vs H Q _ => ∃ (B : Hp) (u0 : ((List Str) × (List ((List Int) × (List (List (Int × Int))))) × (List (Str × Int)))) (vv0 : V) (u1 : (List Str)) (vv1 : V) (u2 : Int) (u3 : Int), vs = [vv0, vv1, (.int u2), (.int u3)] ∧ Same B H ∧ Rep K B ((fun (p : ((List Str) × (List ((List Int) × (List (List (Int × Int))))) × (List (Str × Int)))) => D.tup [(fun (l : List Str) => D.ktup (l.map D.str)) p.1, (fun (l : List ((List Int) × (List (List (Int × Int))))) => D.tup (l.map (fun (p : ((List Int) × (List (List (Int × Int))))) => D.tup [(fun (l : List Int) => D.tup (l.map D.int)) p.1, (fun (l : List (List (Int × Int))) => D.tup (l.map (fun (l : List (Int × Int)) => D.tup (l.map (fun (p : (Int × Int)) => D.tup [D.int p.1, D.int p.2]))))) p.2]))) p.2.1, (fun (l : List (Str × Int)) => D.tup (l.map (fun (p : (Str × Int)) => D.tup [D.str p.1, D.int p.2]))) p.2.2]) u0) vv0 ∧ Rep K B ((fun (l : List Str) => D.tup (l.map D.str)) u1) vv1 ∧ Post K S0 B H (fun (l : List (Int × Int)) => D.lst (l.map (fun (p : (Int × Int)) => D.tup [D.int p.1, D.int p.2]))) Q (m_l_word_power u0 u1 u2 u3)
def sp_l_powered (K : PySem.W.Frag) (C_Program : Addr) : Sp := fun vs H Q _ => ∃ (B : Hp) (u0 : ((List Str) × (List ((List Int) × (List (List (Int × Int))))) × (List (Str × Int)))) (vv0 : V) (u1 : (List Str)) (vv1 : V) (u2 : Int), vs = [vv0, vv1, (.int u2)] ∧ Same B H ∧ Rep K B ((fun (p : ((List Str) × (List ((List Int) × (List (List (Int × Int))))) × (List (Str × Int)))) => D.tup [(fun (l : List Str) => D.ktup (l.map D.str)) p.1, (fun (l : List ((List Int) × (List (List (Int × Int))))) => D.tup (l.map (fun (p : ((List Int) × (List (List (Int × Int))))) => D.tup [(fun (l : List Int) => D.tup (l.map D.int)) p.1, (fun (l : List (List (Int × Int))) => D.tup (l.map (fun (l : List (Int × Int)) => D.tup (l.map (fun (p : (Int × Int)) => D.tup [D.int p.1, D.int p.2]))))) p.2]))) p.2.1, (fun (l : List (Str × Int)) => D.tup (l.map (fun (p : (Str × Int)) => D.tup [D.str p.1, D.int p.2]))) p.2.2]) u0) vv0 ∧ Rep K B ((fun (l : List Str) => D.tup (l.map D.str)) u1) vv1 ∧ Post K S0 B H (fun (p : (Str × Int)) => D.tup [D.str p.1, D.int p.2]) Q (m_l_powered u0 u1 u2)
def sp_need_order_1 (K : PySem.W.Frag) (C_Program : Addr) : Sp := fun vs H Q _ => ∃ (B : Hp) (u0 : Prog) (vv0 : V) (u1 : (List Str)) (vv1 : V), vs = [vv0, vv1] ∧ Same B H ∧ Rep K B ((Prog.em C_Program) u0) vv0 ∧ Rep K B ((fun (l : List Str) => D.lst (l.map D.str)) u1) vv1 ∧ Post K S0 B H (fun (_ : Unit) => D.non) Q (m_need_order_1 u0 u1)
def sp_repeated_outcome_1 (K : PySem.W.Frag) (C_Program : Addr) (P_ : Addr) : Sp := fun vs H Q _ => ∃ (B : Hp) (u0 : Prog) (vv0 : V) (u1 : (List Str)) (vv1 : V) (u2 : Int), vs = [vv0, vv1, (.int u2)] ∧ Same B H ∧ Rep K B ((Prog.em C_Program) u0) vv0 ∧ Rep K B ((fun (l : List Str) => D.lst (l.map D.str)) u1) vv1 ∧ TabG H P_ ∧ B P_ = none ∧ Post K S0 B H (fun (p : (Str × Int)) => D.tup [D.str p.1, D.int p.2]) Q (m_repeated_outcome_1 u0 u1 u2)
def sp_law (K : PySem.W.Frag) (C_Program : Addr) (P_ : Addr) : Sp := fun vs H Q _ => ∃ (B : Hp) (p_ : Addr) (u0 : List Int), vs = [.ref p_] ∧ Same B H ∧ SqL K H p_ (u0.map V.int) ∧ TabG H P_ ∧ B P_ = none ∧ PostT  Q (m_law u0)
section
variable {P : Program} {w : World} {K : PySem.W.Frag} {mg : Str → Option Value} {base : Heap}
theorem getter_kinds (T : Txt K mg) : FnOk P w K mg base L2.CX0 1 T.a_Program_kinds T.f_Program_kinds ["self"] (getSp T.a_Program "p_kinds") :=
  getter_of (N := ["self"]) T.d_Program_kinds ⟨rfl, rfl, rfl, by decide +kernel, rfl, by decide +kernel, by decide +kernel⟩ rfl rfl T.cl_Program T.na_Program_p_kinds
theorem getter_passes (T : Txt K mg) : FnOk P w K mg base L2.CX0 1 T.a_Program_passes T.f_Program_passes ["self"] (getSp T.a_Program "p_passes") :=
  getter_of (N := ["self"]) T.d_Program_passes ⟨rfl, rfl, rfl, by decide +kernel, rfl, by decide +kernel, by decide +kernel⟩ rfl rfl T.cl_Program T.na_Program_p_passes
theorem getter_tells (T : Txt K mg) : FnOk P w K mg base L2.CX0 1 T.a_Program_tells T.f_Program_tells ["self"] (getSp T.a_Program "p_tells") :=
  getter_of (N := ["self"]) T.d_Program_tells ⟨rfl, rfl, rfl, by decide +kernel, rfl, by decide +kernel, by decide +kernel⟩ rfl rfl T.cl_Program T.na_Program_p_tells
theorem sc_l_begun : FnScope ["_law_script", "_law_cell"] ["_law_script"] (defScope (top 28)) := ⟨rfl, rfl, rfl, by decide +kernel, rfl, by decide +kernel, by decide +kernel⟩
theorem ok_l_begun (T : Txt K mg) : FnOk P w K mg base CX0 1 T.a_l_begun T.f_l_begun ["_law_script"] (sp_l_begun K T.a_Program) := by
  refine T.d_l_begun.ok sc_l_begun (fun vs H Q E h => ?_) (fun cdv A outer s H0 vs Q E hr h => ?_)
  · obtain ⟨_, _, _, rfl, _⟩ := h
    rfl
  · obtain ⟨B0, p_, u0, rfl, bh0, sq0, hmp⟩ := h
    obtain ⟨K0, nb0, hm, fin⟩ := hmp.open_
    unfold m_l_begun at hm
    try dsimp only at hm
    have w0 : Grow S0 B0 H0 B0 H0 := Grow.refl bh0
    refine ⟨_, PSs.nox ((pss_one (ps_ret (pe_lst (pa_cons (pe_orT (pe_lc (own := [("_law_cell", 1)]) rfl sc_l_begun.nd (pi_list' (K := K) (by rfl) (pe_slice (sl_list' (K := K) (by rfl)) (pv 0) po_none (po_some pe_int))) (blkOk_by (own := [("_law_cell", 1)]) (N := ["_law_script", "_law_cell"]) (sc := defScope (top 28)) (by decide +kernel)) (fun _ _ _ _ _ => (pg_name (i := 1) sc_l_begun.nd rfl (Or.inl rfl))) (fun _ _ _ _ _ => pts_nil) (fun _ _ _ _ _ => (pe_callB call_abs (by rfl) T.n_abs (by decide +kernel) (pa_cons (pv 1) pa_nil)))) (pe_one (pe_lst (pa_cons pe_int pa_nil)))) (pa_cons pe_int (pa_cons pe_int pa_nil))))))), ?_⟩
    refine ⟨_, rfl, ?_⟩
    refine tn_go ?_
    refine ⟨_, rfl, p_, _, rfl, sq0, ?_⟩
    intro l1 hn2
    have g3 := Grow.newOwn (S := S0) (o := .lst (cutV (u0.map V.int) none (some (63 : Int)))) w0.bh hn2
    have o4 := Own.new (K := K) (ds := ((cutA u0 none (some (63 : Int)))).map D.int) w0 hn2 (RepL.cut (RepL.ofInts (K := K) (B := B0) u0) none (some (63 : Int)))
    have w6 := w0.trans g3
    have e5 := g3.bb
    refine ⟨l1, rfl, ⟨(cutV (u0.map V.int) none (some (63 : Int))), SqL.of o4.h⟩, ?_⟩
    intro D7 hD8
    have g9 := Grow.newOwn (S := S0) (o := .lst []) w6.bh hD8
    have o13 := Own.new (K := K) (ds := []) w6 hD8 rfl
    have w15 := w6.trans g9
    have e14 := g9.bb
    have o16 := o4.grow g9 (fun _ z => z.elim)
    have n17 : l1 ≠ D7 := ne_of_none o4.h hD8
    obtain ⟨KL10, hm, hst11, hdn12⟩ := compK nb0 hm
    refine lc_it (walk_list (K := K) (a := l1) (xs := (cutV (u0.map V.int) none (some (63 : Int))))) (fun i25 H => ∃ (B18 : Hp) (x19 : (List Int)) (xs20 : List V), Grow S0 B0 H0 B18 H ∧ Same B0 B18 ∧ Own K H0 B18 H l1 (cutV (u0.map V.int) none (some (63 : Int))) (((cutA u0 none (some (63 : Int)))).map D.int) ∧ Own K H0 B18 H D7 xs20 ((x19).map D.int) ∧ KL10 i25 () x19) ⟨B0, ([] : List Int), [], w15, (Same.refl _), o16, o13, hm⟩ (fun i25 H27 _ h => ?_) (fun i25 x26 H27 H28 hi h hy => ?_) (fun H29 h => ?_)
    · skip
      obtain ⟨B18, x19, xs20, w21, e22, o23, o24, _⟩ := h
      exact (SqL.of o23.h)
    · skip
      obtain ⟨B18, x19, xs20, w21, e22, o23, o24, hm⟩ := h
      obtain ⟨rfl, q33⟩ := hy
      obtain ⟨a30, ha31, r32⟩ := o23.r.getm q33
      obtain ⟨hlt38, KB34, nb35, hm, hnx36, hno37⟩ := hst11 i25 _ _ _ ha31 hm
      try dsimp only at hm
      obtain rfl : x26 = (.int a30) := r32
      refine ⟨rfl, ?_⟩
      refine tyes_go ?_
      refine ⟨_, rfl, _, rfl, ?_⟩
      refine ⟨xs20, o24.h, (lt_line (own_lt o24 hlt38)), ?_⟩
      have o39 := o24.put (es := ((x19 ++ [(if a30 < 0 then -a30 else a30)])).map D.int) (o24.r.snocm (a := (if a30 < 0 then -a30 else a30)) rfl)
      have w40 := w21.mut (o := (.lst (xs20 ++ [(.int (if a30 < 0 then -a30 else a30))]))) o24.n0 o24.b o24.h (by rfl)
      have o41 := o23.other (u := (.lst (xs20 ++ [(.int (if a30 < 0 then -a30 else a30))]))) n17
      have hm := hnx36 _ _ hm
      exact ⟨B18, (x19 ++ [(if a30 < 0 then -a30 else a30)]), (xs20 ++ [(.int (if a30 < 0 then -a30 else a30))]), w40, e22, o41, o39, hm⟩
    · skip
      obtain ⟨B18, x19, xs20, w21, e22, o23, o24, hm⟩ := h
      have hm := hdn12 _ _ _ (Nat.le_of_eq (RepL.lenm o4.r).symm) hm
      try dsimp only at hm
      refine ⟨!(x19).isEmpty, .inl ⟨_, SqL.of o24.h, (emp_len o24.r).symm⟩, ?_⟩
      refine ite_both hm (fun hc42 hm => ?_) (fun hc42 hm => ?_)
      · skip
        try dsimp only at hm
        refine ⟨by show 3 ≤ sizeLine; decide, fun p43 hp44 => ?_⟩
        have hs45 := srcNew w21 o24 hp44
        have g46 := Grow.newOwn (S := S0) (o := .lst [.ref D7, .int 0, .int 1]) w21.bh hp44
        have w48 := w21.trans g46
        have e47 := g46.bb
        have o49 := o23.grow g46 (fun _ z => z.elim)
        have o50 := o24.grow g46 (fun _ z => z.elim)
        exact fin _ hm p43 D7 B18 (upd H29 p43 (.lst [.ref D7, .int 0, .int 1])) w48 hs45
      · skip
        try dsimp only at hm
        refine ⟨by show 1 ≤ sizeLine; decide, fun p51 hp52 => ?_⟩
        have g53 := Grow.newOwn (S := S0) (o := .lst ([(.int (1 : Int))])) w21.bh hp52
        have o54 := Own.new (K := K) (ds := (([(1 : Int)] : List Int)).map D.int) w21 hp52 (RepL.cons rfl RepL.nil)
        have w56 := w21.trans g53
        have e55 := g53.bb
        have o57 := o23.grow g53 (fun _ z => z.elim)
        have o58 := o24.grow g53 (fun _ z => z.elim)
        have n59 : l1 ≠ p51 := ne_of_none o23.h hp52
        have n60 : D7 ≠ p51 := ne_of_none o24.h hp52
        refine ⟨by show 3 ≤ sizeLine; decide, fun p61 hp62 => ?_⟩
        have hs63 := srcNew w56 o54 hp62
        have g64 := Grow.newOwn (S := S0) (o := .lst [.ref p51, .int 0, .int 1]) w56.bh hp62
        have w66 := w56.trans g64
        have e65 := g64.bb
        have o67 := o57.grow g64 (fun _ z => z.elim)
        have o68 := o58.grow g64 (fun _ z => z.elim)
        have o69 := o54.grow g64 (fun _ z => z.elim)
        exact fin _ hm p61 p51 B18 (upd (upd H29 p51 (.lst ([(.int (1 : Int))]))) p61 (.lst [.ref p51, .int 0, .int 1])) w66 hs63

theorem sc_l_take : FnScope ["_law_draw", "_law_many", "_law_cells", "_law_at", "_law_cell"] ["_law_draw", "_law_many"] (defScope (top 29)) := ⟨rfl, rfl, rfl, by decide +kernel, rfl, by decide +kernel, by decide +kernel⟩
theorem ok_l_take (T : Txt K mg) : FnOk P w K mg base CX0 1 T.a_l_take T.f_l_take ["_law_draw", "_law_many"] (sp_l_take K T.a_Program) := by
  refine T.d_l_take.ok sc_l_take (fun vs H Q E h => ?_) (fun cdv A outer s H0 vs Q E hr h => ?_)
  · obtain ⟨_, _, _, _, _, rfl, _⟩ := h
    rfl
  · obtain ⟨a, c, s0, B0, u1, rfl, bh0, hs0, hmp⟩ := h
    obtain ⟨K0, nb0, hm, fin⟩ := hmp.open_
    unfold m_l_take at hm
    try dsimp only at hm
    have w0 : Grow (Sx a c) B0 H0 B0 H0 := Grow.refl bh0
    have hsd := hs0.there
    refine ⟨_, PSs.nox ((pss_cons (ps_set (i := 2) sc_l_take.nd rfl (Or.inl rfl) (pe_ix (ix_list' (K := K) (by rfl)) (pv 0) pe_int (fun _ _ => rfl)))
      (pss_cons (ps_set (i := 3) sc_l_take.nd rfl (Or.inl rfl) (pe_op op_modN (pe_callTy call_int1 (by rfl) T.n_int (by decide +kernel) (pa_cons (pe_ix (ix_list' (K := K) (by rfl)) (pv 0) pe_int (fun _ _ => rfl)) pa_nil)) (pe_callB (call_len_seq' (K := K) (by rfl)) (by rfl) T.n_len (by decide +kernel) (pa_cons (pv 2) pa_nil))))
      (pss_cons (ps_set (i := 4) sc_l_take.nd rfl (Or.inl rfl) (pe_callTy call_int1 (by rfl) T.n_int (by decide +kernel) (pa_cons (pe_ix (ix_list' (K := K) (by rfl)) (pv 2) (pv 3) (fun _ _ => rfl)) pa_nil)))
      (pss_cons (ps_if (pt_cmpR op_ge (pv 4) (pe_op op_pow pe_int pe_int) (nomark _)) (pss_cons (ps_asg (pe_op op_fdivG (pv 4) (pv 1)) (pg_sub (pv 2) (pv 3) set_list))
      (pss_one (ps_ret (pe_op op_modN (pv 4) (pv 1))))) pss_nil)
      (pss_cons (ps_asg (pe_op op_add (pe_ix (ix_list' (K := K) (by rfl)) (pv 0) pe_int (fun _ _ => rfl)) pe_int) (pg_sub (pv 0) pe_int set_list))
      (pss_cons (ps_asg (pe_op op_mod (pe_callTy call_int1 (by rfl) T.n_int (by decide +kernel) (pa_cons (pe_op op_add (pe_op op_add (pe_op op_add (pe_op op_mul (pe_ix (ix_list' (K := K) (by rfl)) (pv 0) pe_int (fun _ _ => rfl)) pe_int) (pv 4)) (pe_op op_mul pe_int (pe_ix (ix_list' (K := K) (by rfl)) (pv 0) pe_int (fun _ _ => rfl)))) pe_int) pa_nil)) pe_int) (pg_sub (pv 0) pe_int set_list))
      (pss_one (ps_ret (pe_op op_modN (pe_callTy call_int1 (by rfl) T.n_int (by decide +kernel) (pa_cons (pe_op op_fdiv (pe_op op_mod (pe_callTy call_int1 (by rfl) T.n_int (by decide +kernel) (pa_cons (pe_op op_mul (pe_ix (ix_list' (K := K) (by rfl)) (pv 0) pe_int (fun _ _ => rfl)) (pe_ix (ix_list' (K := K) (by rfl)) (pv 0) pe_int (fun _ _ => rfl))) pa_nil)) pe_int) pe_int) pa_nil)) (pv 1))))))))))), ?_⟩
    refine ⟨_, rfl, ?_⟩
    refine tc_go ?_
    refine ⟨a, _, _, .ref c, rfl, rfl, SqL.of hs0.hd, by rfl, ?_⟩
    refine ⟨_, rfl, ?_⟩
    refine tc_go ?_
    refine ⟨a, _, _, .int s0.at_, rfl, rfl, SqL.of hs0.hd, by rfl, ?_⟩
    refine .inl ⟨_, rfl, ?_⟩
    refine ⟨_, rfl, c, (s0.cells.map V.int), rfl, (.inl (SqL.of hs0.cl)), ?_⟩
    rw [RepL.lenm (RepL.ofInts (K := K) (B := B0) s0.cells)]
    obtain ⟨t1, h2, hm⟩ := bindK nb0 hm
    try dsimp only at hm
    obtain ⟨h2c, rfl⟩ := fmodR_ok h2
    refine ⟨_, _, rfl, rfl, h2c, _, rfl, _, rfl, ?_⟩
    obtain ⟨t3, h4, hm⟩ := bindK nb0 hm
    try dsimp only at hm
    refine rixH (SqL.of hs0.cl) (RepL.ofInts (K := K) (B := B0) _) h4 (fun v5 r6 => ?_)
    obtain rfl : v5 = (.int t3) := r6
    refine .inl ⟨_, rfl, ?_⟩
    refine ⟨_, rfl, _, _, rfl, rfl, ⟨by decide, by decide, by decide⟩, _, _, rfl, rfl, _, rfl, ?_⟩
    refine ite_both hm (fun hc7 hm => ?_) (fun hc7 hm => ?_)
    · skip
      try dsimp only at hm
      refine ⟨_, rfl, _, rfl, ?_⟩
      obtain ⟨t8, h9, hm⟩ := bindK nb0 hm
      try dsimp only at hm
      obtain ⟨h9c, rfl⟩ := fdivR_ok h9
      refine ⟨_, _, rfl, rfl, h9c, _, rfl, _, rfl, ?_⟩
      obtain ⟨j12, h13, hm⟩ := bindK nb0 hm
      try dsimp only at hm
      refine ⟨c, _, _, j12, rfl, rfl, hs0.cl, ixN_map h13, ?_⟩
      have hs10 := hs0.setCell j12 (t3.fdiv u1)
      have w11 := w0.mutX (o := (.lst ((s0.cells.map V.int).set j12 (.int (t3.fdiv u1))))) (.inr rfl) hs0.bc hs0.cl (by rfl)
      refine ⟨_, rfl, _, rfl, ?_⟩
      obtain ⟨t14, h15, hm⟩ := bindK nb0 hm
      try dsimp only at hm
      obtain ⟨h15c, rfl⟩ := fmodR_ok h15
      refine ⟨_, _, rfl, rfl, h15c, ?_⟩
      exact fin _ _ hm (.int (t3.fmod u1)) B0 (upd H0 c (.lst ((s0.cells.map V.int).set j12 (.int (t3.fdiv u1))))) w11 hs10 rfl
    · skip
      try dsimp only at hm
      refine ⟨_, rfl, ?_⟩
      refine tc_go ?_
      refine ⟨a, _, _, .int s0.at_, rfl, rfl, SqL.of hs0.hd, by rfl, ?_⟩
      refine ⟨_, _, rfl, rfl, _, rfl, ?_⟩
      refine tc_go ?_
      refine ⟨a, _, _, 1, rfl, rfl, hs0.hd, by rfl, ?_⟩
      have hs16 := hs0.setAt (s0.at_ + (1 : Int))
      have w17 := w0.mutX (o := (.lst [.ref c, .int (s0.at_ + (1 : Int)), .int s0.mix])) (.inl rfl) hs0.ba hs0.hd (by rfl)
      refine ⟨_, rfl, ?_⟩
      refine tc_go ?_
      refine ⟨a, _, _, .int (⟨s0.cells, (s0.at_ + (1 : Int)), s0.mix⟩ : Src).mix, rfl, rfl, SqL.of hs16.hd, by rfl, ?_⟩
      refine ⟨_, _, rfl, rfl, .inr ⟨by decide, by decide⟩, _, rfl, _, _, rfl, rfl, _, rfl, ?_⟩
      refine tc_go ?_
      refine ⟨a, _, _, .int (⟨s0.cells, (s0.at_ + (1 : Int)), s0.mix⟩ : Src).at_, rfl, rfl, SqL.of hs16.hd, by rfl, ?_⟩
      refine ⟨_, _, rfl, rfl, .inl ⟨by decide, by decide⟩, _, _, rfl, rfl, _, _, rfl, rfl, ?_⟩
      refine .inl ⟨_, rfl, ?_⟩
      refine ⟨_, _, rfl, rfl, by show (0 : Int) < _; decide, _, rfl, ?_⟩
      refine tc_go ?_
      refine ⟨a, _, _, 2, rfl, rfl, hs16.hd, by rfl, ?_⟩
      have hs18 := hs16.setMix ((((((⟨s0.cells, (s0.at_ + (1 : Int)), s0.mix⟩ : Src).mix * (48271 : Int)) + t3) + ((7919 : Int) * (⟨s0.cells, (s0.at_ + (1 : Int)), s0.mix⟩ : Src).at_)) + (12345 : Int)) % (2147483647 : Int))
      have w19 := w17.mutX (o := (.lst [.ref c, .int (⟨s0.cells, (s0.at_ + (1 : Int)), s0.mix⟩ : Src).at_, .int ((((((⟨s0.cells, (s0.at_ + (1 : Int)), s0.mix⟩ : Src).mix * (48271 : Int)) + t3) + ((7919 : Int) * (⟨s0.cells, (s0.at_ + (1 : Int)), s0.mix⟩ : Src).at_)) + (12345 : Int)) % (2147483647 : Int))])) (.inl rfl) hs16.ba hs16.hd (by rfl)
      refine ⟨_, rfl, ?_⟩
      refine tc_go ?_
      refine ⟨a, _, _, .int (⟨(⟨s0.cells, (s0.at_ + (1 : Int)), s0.mix⟩ : Src).cells, (⟨s0.cells, (s0.at_ + (1 : Int)), s0.mix⟩ : Src).at_, ((((((⟨s0.cells, (s0.at_ + (1 : Int)), s0.mix⟩ : Src).mix * (48271 : Int)) + t3) + ((7919 : Int) * (⟨s0.cells, (s0.at_ + (1 : Int)), s0.mix⟩ : Src).at_)) + (12345 : Int)) % (2147483647 : Int))⟩ : Src).mix, rfl, rfl, SqL.of hs18.hd, by rfl, ?_⟩
      refine ⟨_, rfl, ?_⟩
      refine tc_go ?_
      refine ⟨a, _, _, .int (⟨(⟨s0.cells, (s0.at_ + (1 : Int)), s0.mix⟩ : Src).cells, (⟨s0.cells, (s0.at_ + (1 : Int)), s0.mix⟩ : Src).at_, ((((((⟨s0.cells, (s0.at_ + (1 : Int)), s0.mix⟩ : Src).mix * (48271 : Int)) + t3) + ((7919 : Int) * (⟨s0.cells, (s0.at_ + (1 : Int)), s0.mix⟩ : Src).at_)) + (12345 : Int)) % (2147483647 : Int))⟩ : Src).mix, rfl, rfl, SqL.of hs18.hd, by rfl, ?_⟩
      obtain ⟨t20, h21, hm⟩ := bindK nb0 hm
      try dsimp only at hm
      obtain ⟨h21c, rfl⟩ := mulR_ok h21
      refine ⟨_, _, rfl, rfl, h21c, ?_⟩
      refine .inl ⟨_, rfl, ?_⟩
      refine ⟨_, _, rfl, rfl, by show (0 : Int) < _; decide, _, _, rfl, rfl, ⟨by decide, by decide⟩, ?_⟩
      refine .inl ⟨_, rfl, ?_⟩
      refine ⟨_, rfl, ?_⟩
      obtain ⟨t22, h23, hm⟩ := bindK nb0 hm
      try dsimp only at hm
      obtain ⟨h23c, rfl⟩ := fmodR_ok h23
      refine ⟨_, _, rfl, rfl, h23c, ?_⟩
      exact fin _ _ hm (.int (((((⟨(⟨s0.cells, (s0.at_ + (1 : Int)), s0.mix⟩ : Src).cells, (⟨s0.cells, (s0.at_ + (1 : Int)), s0.mix⟩ : Src).at_, ((((((⟨s0.cells, (s0.at_ + (1 : Int)), s0.mix⟩ : Src).mix * (48271 : Int)) + t3) + ((7919 : Int) * (⟨s0.cells, (s0.at_ + (1 : Int)), s0.mix⟩ : Src).at_)) + (12345 : Int)) % (2147483647 : Int))⟩ : Src).mix * (⟨(⟨s0.cells, (s0.at_ + (1 : Int)), s0.mix⟩ : Src).cells, (⟨s0.cells, (s0.at_ + (1 : Int)), s0.mix⟩ : Src).at_, ((((((⟨s0.cells, (s0.at_ + (1 : Int)), s0.mix⟩ : Src).mix * (48271 : Int)) + t3) + ((7919 : Int) * (⟨s0.cells, (s0.at_ + (1 : Int)), s0.mix⟩ : Src).at_)) + (12345 : Int)) % (2147483647 : Int))⟩ : Src).mix) % (2147483629 : Int)) / (16 : Int)).fmod u1)) B0 (upd (upd H0 a (.lst [.ref c, .int (s0.at_ + (1 : Int)), .int s0.mix])) a (.lst [.ref c, .int (⟨s0.cells, (s0.at_ + (1 : Int)), s0.mix⟩ : Src).at_, .int ((((((⟨s0.cells, (s0.at_ + (1 : Int)), s0.mix⟩ : Src).mix * (48271 : Int)) + t3) + ((7919 : Int) * (⟨s0.cells, (s0.at_ + (1 : Int)), s0.mix⟩ : Src).at_)) + (12345 : Int)) % (2147483647 : Int))])) w19 hs18 rfl

theorem sc_l_pick : FnScope ["_law_draw", "_law_some"] ["_law_draw", "_law_some"] (defScope (top 30)) := ⟨rfl, rfl, rfl, by decide +kernel, rfl, by decide +kernel, by decide +kernel⟩
theorem ok_l_pick (T : Txt K mg) : FnOk P w K mg base CX0 2 T.a_l_pick T.f_l_pick ["_law_draw", "_law_some"] (sp_l_pick K T.a_Program) := by
  refine T.d_l_pick.ok sc_l_pick (fun vs H Q E h => ?_) (fun cdv A outer s H0 vs Q E hr h => ?_)
  · obtain ⟨_, _, _, _, _, _, rfl, _⟩ := h
    rfl
  · obtain ⟨a, c, s0, B0, u1, vv1, rfl, bh0, rr1, hs0, hmp⟩ := h
    obtain ⟨K0, nb0, hm, fin⟩ := hmp.open_
    unfold m_l_pick at hm
    try dsimp only at hm
    have w0 : Grow (Sx a c) B0 H0 B0 H0 := Grow.refl bh0
    have hsd := hs0.there
    refine ⟨_, PSs.nox ((pss_one (ps_ret (pe_ix (ix_list' (K := K) (by rfl)) (pv 1) (pe_call (ok_l_take T) (hr.mono (by decide)) (by rfl) T.g_l_take T.d_l_take.kp T.b_l_take .nil pass0 (pa_cons (pv 0) (pa_cons (pe_callB (call_len_seq' (K := K) (by rfl)) (by rfl) T.n_len (by decide +kernel) (pa_cons (pv 1) pa_nil)) pa_nil))) (fun _ _ => rfl))))), ?_⟩
    refine ⟨_, rfl, _, rfl, _, rfl, ?_⟩
    obtain ⟨p1, x2, ev5, hp3, rl4⟩ := id rr1
    subst ev5
    refine ⟨p1, x2, rfl, (.inl (SqL.of (w0.bh _ _ hp3))), ?_⟩
    rw [RepL.lenm rl4]
    obtain ⟨t6, h7, hm⟩ := bindK nb0 hm
    try dsimp only at hm
    refine ⟨a, c, s0, B0, (u1.length : Int), rfl, w0.bh, hs0, (PostS.mk_ h7 fun v8 B9 H10 g11 hs13 r12 => ?_)⟩
    have w15 := w0.trans g11
    have e14 := g11.bb
    obtain rfl : v8 = (.int t6.2) := r12
    obtain ⟨t16, h17, hm⟩ := bindK nb0 hm
    try dsimp only at hm
    refine rixL (em := D.int) (rr1.mono e14) w15.bh h17 (fun v18 r19 => ?_)
    obtain rfl : v18 = (.int t16) := r19
    exact fin _ _ hm (.int t16) B9 H10 w15 hs13 rfl

theorem sc_l_pick_1 : FnScope ["_law_draw", "_law_some"] ["_law_draw", "_law_some"] (defScope (top 30)) := ⟨rfl, rfl, rfl, by decide +kernel, rfl, by decide +kernel, by decide +kernel⟩
theorem ok_l_pick_1 (T : Txt K mg) : FnOk P w K mg base CX0 2 T.a_l_pick T.f_l_pick ["_law_draw", "_law_some"] (sp_l_pick_1 K T.a_Program) := by
  refine T.d_l_pick.ok sc_l_pick_1 (fun vs H Q E h => ?_) (fun cdv A outer s H0 vs Q E hr h => ?_)
  · obtain ⟨_, _, _, _, _, _, rfl, _⟩ := h
    rfl
  · obtain ⟨a, c, s0, B0, u1, vv1, rfl, bh0, rr1, hs0, hmp⟩ := h
    obtain ⟨K0, nb0, hm, fin⟩ := hmp.open_
    unfold m_l_pick_1 at hm
    try dsimp only at hm
    have w0 : Grow (Sx a c) B0 H0 B0 H0 := Grow.refl bh0
    have hsd := hs0.there
    refine ⟨_, PSs.nox ((pss_one (ps_ret (pe_ix (ix_list' (K := K) (by rfl)) (pv 1) (pe_call (ok_l_take T) (hr.mono (by decide)) (by rfl) T.g_l_take T.d_l_take.kp T.b_l_take .nil pass0 (pa_cons (pv 0) (pa_cons (pe_callB (call_len_seq' (K := K) (by rfl)) (by rfl) T.n_len (by decide +kernel) (pa_cons (pv 1) pa_nil)) pa_nil))) (fun _ _ => rfl))))), ?_⟩
    refine ⟨_, rfl, _, rfl, _, rfl, ?_⟩
    obtain ⟨p1, x2, ev5, hp3, rl4⟩ := id rr1
    subst ev5
    refine ⟨p1, x2, rfl, (.inl (SqL.of (w0.bh _ _ hp3))), ?_⟩
    rw [RepL.lenm rl4]
    obtain ⟨t6, h7, hm⟩ := bindK nb0 hm
    try dsimp only at hm
    refine ⟨a, c, s0, B0, (u1.length : Int), rfl, w0.bh, hs0, (PostS.mk_ h7 fun v8 B9 H10 g11 hs13 r12 => ?_)⟩
    have w15 := w0.trans g11
    have e14 := g11.bb
    obtain rfl : v8 = (.int t6.2) := r12
    obtain ⟨t16, h17, hm⟩ := bindK nb0 hm
    try dsimp only at hm
    refine rixL (em := D.str) (rr1.mono e14) w15.bh h17 (fun v18 r19 => ?_)
    obtain rfl : v18 = (.str t16) := r19
    exact fin _ _ hm (.str t16) B9 H10 w15 hs13 rfl

theorem sc_l_pick_2 : FnScope ["_law_draw", "_law_some"] ["_law_draw", "_law_some"] (defScope (top 30)) := ⟨rfl, rfl, rfl, by decide +kernel, rfl, by decide +kernel, by decide +kernel⟩
theorem ok_l_pick_2 (T : Txt K mg) : FnOk P w K mg base CX0 2 T.a_l_pick T.f_l_pick ["_law_draw", "_law_some"] (sp_l_pick_2 K T.a_Program) := by
  refine T.d_l_pick.ok sc_l_pick_2 (fun vs H Q E h => ?_) (fun cdv A outer s H0 vs Q E hr h => ?_)
  · obtain ⟨_, _, _, _, _, rfl, _⟩ := h
    rfl
  · obtain ⟨a, c, s0, B0, u1, rfl, bh0, hs0, hmp⟩ := h
    obtain ⟨K0, nb0, hm, fin⟩ := hmp.open_
    unfold m_l_pick_2 at hm
    try dsimp only at hm
    have w0 : Grow (Sx a c) B0 H0 B0 H0 := Grow.refl bh0
    have hsd := hs0.there
    refine ⟨_, PSs.nox ((pss_one (ps_ret (pe_ix ix_str (pv 1) (pe_call (ok_l_take T) (hr.mono (by decide)) (by rfl) T.g_l_take T.d_l_take.kp T.b_l_take .nil pass0 (pa_cons (pv 0) (pa_cons (pe_callB call_len_str (by rfl) T.n_len (by decide +kernel) (pa_cons (pv 1) pa_nil)) pa_nil))) (fun _ _ => rfl))))), ?_⟩
    refine ⟨_, rfl, _, rfl, _, rfl, ?_⟩
    obtain ⟨t1, h2, hm⟩ := bindK nb0 hm
    try dsimp only at hm
    obtain ⟨h2c, rfl⟩ := lenS_ok h2
    refine ⟨_, rfl, h2c, ?_⟩
    obtain ⟨t3, h4, hm⟩ := bindK nb0 hm
    try dsimp only at hm
    refine ⟨a, c, s0, B0, (u1.length : Int), rfl, w0.bh, hs0, (PostS.mk_ h4 fun v5 B6 H7 g8 hs10 r9 => ?_)⟩
    have w12 := w0.trans g8
    have e11 := g8.bb
    obtain rfl : v5 = (.int t3.2) := r9
    obtain ⟨t13, h14, hm⟩ := bindK nb0 hm
    try dsimp only at hm
    refine ⟨_, _, _, rfl, rfl, (ixS_ok h14).1, (ixS_ok h14).2, ?_⟩
    exact fin _ _ hm (.str ⟨#[t13]⟩) B6 H7 w12 hs10 rfl

theorem sc_l_labels : FnScope ["_law_draw", "_law_many", "_law_letters", "_law_found", "_law_own", "_law_turn", "_law_word", "_law_sign", "_law_name"] ["_law_draw", "_law_many"] (defScope (top 31)) := ⟨rfl, rfl, rfl, by decide +kernel, rfl, by decide +kernel, by decide +kernel⟩
theorem ok_l_labels (T : Txt K mg) : FnOk P w K mg base CX0 3 T.a_l_labels T.f_l_labels ["_law_draw", "_law_many"] (sp_l_labels K T.a_Program) := by
  refine T.d_l_labels.ok sc_l_labels (fun vs H Q E h => ?_) (fun cdv A outer s H0 vs Q E hr h => ?_)
  · obtain ⟨_, _, _, _, _, rfl, _⟩ := h
    rfl
  · obtain ⟨a, c, s0, B0, u1, rfl, bh0, hs0, hmp⟩ := h
    obtain ⟨K0, nb0, hm, fin⟩ := hmp.open_
    unfold m_l_labels at hm
    try dsimp only at hm
    have w0 : Grow (Sx a c) B0 H0 B0 H0 := Grow.refl bh0
    have hsd := hs0.there
    refine ⟨_, PSs.nox ((pss_cons (ps_asg (pe_tup (pa_cons pe_str (pa_cons (pe_lst pa_nil) pa_nil))) (pg_tup' (K := K) (n := 2) (by rfl) rfl (pgs_cons (pg_name (i := 2) sc_l_labels.nd rfl (Or.inr rfl)) (pgs_cons (pg_name (i := 3) sc_l_labels.nd rfl (Or.inr rfl)) pgs_nil))))
      (pss_cons (ps_set (i := 4) sc_l_labels.nd rfl (Or.inl rfl) (pe_lst (pa_cons pe_str (pa_cons pe_str (pa_cons pe_str (pa_cons pe_str (pa_cons pe_str (pa_cons pe_str (pa_cons pe_str (pa_cons pe_str (pa_cons pe_str (pa_cons pe_str (pa_cons pe_str (pa_cons pe_str pa_nil))))))))))))))
      (pss_cons (ps_for PassesOwn.never rfl (pi_range1 (by rfl) T.n_range (pa_cons (pv 1) pa_nil)) (pg_name (i := 5) sc_l_labels.nd rfl (Or.inl rfl))
      (pss_cons (ps_set (i := 6) sc_l_labels.nd rfl (Or.inr rfl) (pe_call (ok_l_pick_1 T) (hr.mono (by decide)) (by rfl) T.g_l_pick T.d_l_pick.kp T.b_l_pick .nil pass0 (pa_cons (pv 0) (pa_cons (pv 4) pa_nil))))
      (Evl.pss_cut (ps_if (pt_cmpR op_eqI (pe_call (ok_l_take T) (hr.mono (by decide)) (by rfl) T.g_l_take T.d_l_take.kp T.b_l_take .nil pass0 (pa_cons (pv 0) (pa_cons pe_int pa_nil))) pe_int (nomark _)) (pss_one (ps_set (i := 6) sc_l_labels.nd rfl (Or.inr rfl) (pe_join' (K := K) (by rfl) pe_str (pe_lc (own := [("_law_sign", 7)]) rfl sc_l_labels.nd (pi_range1 (by rfl) T.n_range (pa_cons (pe_op op_add pe_int (pe_call (ok_l_take T) (hr.mono (by decide)) (by rfl) T.g_l_take T.d_l_take.kp T.b_l_take .nil pass0 (pa_cons (pv 0) (pa_cons pe_int pa_nil)))) pa_nil)) (blkOk_by (own := [("_law_sign", 7)]) (N := ["_law_draw", "_law_many", "_law_letters", "_law_found", "_law_own", "_law_turn", "_law_word", "_law_sign", "_law_name"]) (sc := defScope (top 31)) (by decide +kernel)) (fun _ _ _ _ _ => (pg_name (i := 7) sc_l_labels.nd rfl (Or.inl rfl))) (fun _ _ _ _ _ => pts_nil) (fun _ _ _ _ _ => (pe_call (ok_l_pick_2 T) (hr.mono (by decide)) (by rfl) T.g_l_pick T.d_l_pick.kp T.b_l_pick .nil pass0 (pa_cons (pv 0) (pa_cons (pv 2) pa_nil)))))))) pss_nil)
      (pss_one (ps_expr (pe_append' (K := K) (by rfl) (pv 3) (pa_cons (pe_ix (ix_list' (K := K) (by rfl)) (pe_lc (own := [("_law_name", 8)]) rfl sc_l_labels.nd (pi_list' (K := K) (by rfl) (pe_op op_cat (pe_lst (pa_cons (pv 6) pa_nil)) (pe_lc (own := [("_law_sign", 7)]) rfl sc_l_labels.nd (pi_str (pv 2)) (blkOk_by (own := [("_law_sign", 7)]) (N := ["_law_draw", "_law_many", "_law_letters", "_law_found", "_law_own", "_law_turn", "_law_word", "_law_sign", "_law_name"]) (sc := defScope (top 31)) (by decide +kernel)) (fun _ _ _ _ _ => (pg_name (i := 7) sc_l_labels.nd rfl (Or.inl rfl))) (fun _ _ _ _ _ => pts_nil) (fun _ _ _ _ _ => (pe_op op_add_str (pe_slice sl_str (pv 6) po_none (po_some pe_int)) (pv 7)))))) (blkOk_by (own := [("_law_name", 8)]) (N := ["_law_draw", "_law_many", "_law_letters", "_law_found", "_law_own", "_law_turn", "_law_word", "_law_sign", "_law_name"]) (sc := defScope (top 31)) (by decide +kernel)) (fun _ _ _ _ _ => (pg_name (i := 8) sc_l_labels.nd rfl (Or.inl rfl))) (fun _ _ _ _ _ => (pts_one (pt_cmpR (op_notIn_seq' (K := K) (by rfl)) (pv 8) (pv 3) (by rfl)))) (fun _ _ _ _ _ => (pv 8))) pe_int (fun _ _ => rfl)) pa_nil)))))))
      (pss_one (ps_ret (pv 3))))))), ?_⟩
    refine ⟨by show 0 ≤ sizeLine; decide, fun p1 hp2 => ?_⟩
    have g3 := Grow.newOwn (S := S0) (o := .lst ([])) w0.bh hp2
    have o4 := Own.new (K := K) (ds := (([] : List Str)).map D.str) w0 hp2 RepL.nil
    have w6 := w0.trans g3.of0
    have e5 := g3.bb
    have hs7 := hs0.grow0 g3
    refine ⟨by show 2 ≤ sizeLine; decide, fun T8 hT9 => ?_⟩
    have g10 := Grow.newOwn (S := S0) (o := .tup [(.str ("abcdefghijklmnopqrstuvwxyz" : Str)), (.ref p1)]) w6.bh hT9
    have w12 := w6.trans g10.of0
    have e11 := g10.bb
    have o13 := o4.grow g10 (fun _ z => z.elim)
    have hs14 := hs7.grow0 g10
    refine ⟨T8, _, rfl, (SqT.of upd_same), rfl, _, _, rfl, _, _, rfl, rfl, ?_⟩
    refine ⟨by show 12 ≤ sizeLine; decide, fun p15 hp16 => ?_⟩
    have g17 := Grow.newOwn (S := S0) (o := .lst ([(.str ("a" : Str)), (.str ("b" : Str)), (.str ("ab" : Str)), (.str ("z" : Str)), (.str ("run" : Str)), (.str ("swap" : Str)), (.str ("once" : Str)), (.str ("pass" : Str)), (.str ("tell" : Str)), (.str ("step" : Str)), (.str ("same" : Str)), (.str ("zzzzzzzz" : Str))])) w12.bh hp16
    have o18 := Own.new (K := K) (ds := (([("a" : Str), ("b" : Str), ("ab" : Str), ("z" : Str), ("run" : Str), ("swap" : Str), ("once" : Str), ("pass" : Str), ("tell" : Str), ("step" : Str), ("same" : Str), ("zzzzzzzz" : Str)] : List Str)).map D.str) w12 hp16 (RepL.cons rfl (RepL.cons rfl (RepL.cons rfl (RepL.cons rfl (RepL.cons rfl (RepL.cons rfl (RepL.cons rfl (RepL.cons rfl (RepL.cons rfl (RepL.cons rfl (RepL.cons rfl (RepL.cons rfl RepL.nil))))))))))))
    have w20 := w12.trans g17.of0
    have e19 := g17.bb
    have o21 := o13.grow g17 (fun _ z => z.elim)
    have hs22 := hs14.grow0 g17
    have n23 : p1 ≠ p15 := ne_of_none o13.h hp16
    obtain ⟨B24, w25, e26, r27, q28⟩ := freezeL w20 o18
    have o29 := o21.fz e26 q28 n23
    have hs30 := hs22.fz o18.n0 q28 hsd
    refine ⟨_, rfl, ?_⟩
    obtain ⟨l32, h33, hm⟩ := bindK nb0 hm
    try dsimp only at hm
    obtain ⟨h33c, rfl⟩ := rangeR_ok h33
    refine ⟨_, rfl, h33c.2.2.1, h33c.2.2.2, ?_⟩
    obtain ⟨KL46, hm, hst47, hdn48⟩ := forK nb0 hm
    refine for_it (walk_range (lo := 0) (n := (u1).toNat)) (fun i49 σ H => ∃ (B34 : Hp) (x35 : (List Str)) (xs36 : List V) (s37 : Src) (d38 : Option V) (d39 : Option V) (d40 : Option V) (d41 : Option V), σ = [some (.ref a), some (.int u1), some (.str ("abcdefghijklmnopqrstuvwxyz" : Str)), some (.ref p1), some (.ref p15), d38, d39, d40, d41] ∧ Grow (Sx a c) B0 H0 B34 H ∧ Same B24 B34 ∧ Own K H0 B34 H p1 xs36 ((x35).map D.str) ∧ SrcAt a c B34 H s37 ∧ KL46 i49 (s37, x35)) ⟨B24, ([] : List Str), ([]), s0, _, _, _, _, rfl, w25, (Same.refl _), o29, hs30, hm⟩ (fun i49 σ H51 _ h => ?_) (fun i49 x50 σ H51 H52 hi h hy => ?_) (fun σ H53 h => ?_)
    · skip
      obtain ⟨B34, x35, xs36, s37, d38, d39, d40, d41, rfl, w42, e43, o44, hs45, _⟩ := h
      exact trivial
    · skip
      obtain ⟨B34, x35, xs36, s37, d38, d39, d40, d41, rfl, w42, e43, o44, hs45, hm⟩ := h
      obtain ⟨rfl, rfl⟩ := hy
      have ha55 := rng_at1 (lo := (0 : Int)) (hi := u1) hi
      obtain ⟨KB56, nb57, hm, hnx58⟩ := hst47 i49 _ _ ha55 hm
      try dsimp only at hm
      refine ⟨_, rfl, _, rfl, ?_⟩
      obtain ⟨t61, h62, hm⟩ := bindK nb57 hm
      try dsimp only at hm
      refine ⟨a, c, s37, B34, ([("a" : Str), ("b" : Str), ("ab" : Str), ("z" : Str), ("run" : Str), ("swap" : Str), ("once" : Str), ("pass" : Str), ("tell" : Str), ("step" : Str), ("same" : Str), ("zzzzzzzz" : Str)] : List Str), (.ref p15), rfl, w42.bh, (r27.mono e43), hs45, (PostS.mk_ h62 fun v63 B64 H65 g66 hs68 r67 => ?_)⟩
      have w70 := w42.trans g66
      have e69 := g66.bb
      have o71 := o44.grow g66 hsd
      obtain rfl : v63 = (.str t61.2) := r67
      obtain ⟨K72, nb73, hm, hk74⟩ := partK nb57 hm
      refine ⟨fun σ H => ∃ (B75 : Hp) (x76 : Str) (s77 : Src) (d78 : Option V) (d79 : Option V), σ = [some (.ref a), some (.int u1), some (.str ("abcdefghijklmnopqrstuvwxyz" : Str)), some (.ref p1), some (.ref p15), some (.int ((0 : Int) + (i49 : Int))), some (.str x76), d78, d79] ∧ Grow (Sx a c) B0 H0 B75 H ∧ Same B64 B75 ∧ Own K H0 B75 H p1 xs36 ((x35).map D.str) ∧ SrcAt a c B75 H s77 ∧ K72 (.ok (s77, x76)), ?_, fun σ H84 h => ?_⟩
      · skip
        refine ⟨_, rfl, ?_⟩
        obtain ⟨t85, h86, hm⟩ := bindK nb73 hm
        try dsimp only at hm
        refine ⟨a, c, t61.1, B64, (4 : Int), rfl, w70.bh, hs68, (PostS.mk_ h86 fun v87 B88 H89 g90 hs92 r91 => ?_)⟩
        have w94 := w70.trans g90
        have e93 := g90.bb
        have o95 := o71.grow g90 hsd
        obtain rfl : v87 = (.int t85.2) := r91
        refine ⟨_, _, rfl, rfl, _, rfl, ?_⟩
        refine ite_both hm (fun hc96 hm => ?_) (fun hc96 hm => ?_)
        · skip
          try dsimp only at hm
          refine ⟨⟨_, rfl⟩, _, rfl, ?_⟩
          obtain ⟨t97, h98, hm⟩ := bindK nb73 hm
          try dsimp only at hm
          refine ⟨a, c, t85.1, B88, (8 : Int), rfl, w94.bh, hs92, (PostS.mk_ h98 fun v99 B100 H101 g102 hs104 r103 => ?_)⟩
          have w106 := w94.trans g102
          have e105 := g102.bb
          have o107 := o95.grow g102 hsd
          obtain rfl : v99 = (.int t97.2) := r103
          refine ⟨_, _, rfl, rfl, ?_⟩
          obtain ⟨l108, h109, hm⟩ := bindK nb73 hm
          try dsimp only at hm
          obtain ⟨h109c, rfl⟩ := rangeR_ok h109
          refine ⟨_, rfl, h109c.2.2.1, h109c.2.2.2, ?_⟩
          intro D110 hD111
          have g112 := Grow.newOwn (S := S0) (o := .lst []) w106.bh hD111
          have o116 := Own.new (K := K) (ds := []) w106 hD111 rfl
          have w118 := w106.trans g112.of0
          have e117 := g112.bb
          have o119 := o107.grow g112 (fun _ z => z.elim)
          have hs120 := hs104.grow0 g112
          have n121 : p1 ≠ D110 := ne_of_none o107.h hD111
          obtain ⟨KL113, hm, hst114, hdn115⟩ := compK nb73 hm
          refine lc_it (walk_range (lo := 0) (n := (((1 : Int) + t97.2)).toNat)) (fun i131 H => ∃ (B122 : Hp) (x123 : (List Nat)) (xs124 : List V) (s125 : Src), Grow (Sx a c) B0 H0 B122 H ∧ Same B100 B122 ∧ Own K H0 B122 H p1 xs36 ((x35).map D.str) ∧ Own K H0 B122 H D110 xs124 ((x123).map (fun (c : Nat) => D.str ⟨#[c]⟩)) ∧ SrcAt a c B122 H s125 ∧ KL113 i131 s125 x123) ⟨B100, ([] : List Nat), [], t97.1, w118, (Same.refl _), o119, o116, hs120, hm⟩ (fun i131 H133 _ h => ?_) (fun i131 x132 H133 H134 hi h hy => ?_) (fun H135 h => ?_)
          · skip
            obtain ⟨B122, x123, xs124, s125, w126, e127, o128, o129, hs130, _⟩ := h
            exact trivial
          · skip
            obtain ⟨B122, x123, xs124, s125, w126, e127, o128, o129, hs130, hm⟩ := h
            obtain ⟨rfl, rfl⟩ := hy
            have ha137 := rng_at1 (lo := (0 : Int)) (hi := ((1 : Int) + t97.2)) hi
            obtain ⟨hlt142, KB138, nb139, hm, hnx140, hno141⟩ := hst114 i131 _ _ _ ha137 hm
            try dsimp only at hm
            refine ⟨rfl, ?_⟩
            refine tyes_go ?_
            refine ⟨_, rfl, _, rfl, ?_⟩
            obtain ⟨t143, h144, hm⟩ := bindK nb139 hm
            try dsimp only at hm
            refine ⟨a, c, s125, B122, ("abcdefghijklmnopqrstuvwxyz" : Str), rfl, w126.bh, hs130, (PostS.mk_ h144 fun v145 B146 H147 g148 hs150 r149 => ?_)⟩
            have w152 := w126.trans g148
            have e151 := g148.bb
            have o153 := o128.grow g148 hsd
            have o154 := o129.grow g148 hsd
            obtain rfl : v145 = (.str ⟨#[t143.2]⟩) := r149
            refine ⟨xs124, o154.h, (lt_line (own_lt o154 hlt142)), ?_⟩
            have o155 := o154.put (es := ((x123 ++ [t143.2])).map (fun (c : Nat) => D.str ⟨#[c]⟩)) (o154.r.snocm (a := t143.2) rfl)
            have w156 := w152.mut (o := (.lst (xs124 ++ [(.str ⟨#[t143.2]⟩)]))) o154.n0 o154.b o154.h (by rfl)
            have o157 := o153.other (u := (.lst (xs124 ++ [(.str ⟨#[t143.2]⟩)]))) n121
            have hs158 := hs150.mut (u := (.lst (xs124 ++ [(.str ⟨#[t143.2]⟩)]))) o154 hsd
            have hm := hnx140 _ _ hm
            exact ⟨B146, (x123 ++ [t143.2]), (xs124 ++ [(.str ⟨#[t143.2]⟩)]), t143.1, w156, (e127.trans e151), o157, o155, hs158, hm⟩
          · skip
            obtain ⟨B122, x123, xs124, s125, w126, e127, o128, o129, hs130, hm⟩ := h
            have hm := hdn115 _ _ _ (rng_len1 (lo := (0 : Int)) (hi := ((1 : Int) + t97.2))) hm
            try dsimp only at hm
            have q159 := o129.r.asSigns
            subst q159
            obtain ⟨t160, h161, hm⟩ := bindK nb73 hm
            try dsimp only at hm
            obtain ⟨h161c, rfl⟩ := joinR_ok h161
            refine ⟨_, D110, (x123.map sgn), rfl, rfl, (.inl (SqL.of o129.h)), h161c, ?_⟩
            exact ⟨B122, (Txt.join ("" : Str) (x123.map sgn)), s125, _, _, rfl, w126, (e93.trans (e105.trans (e117.trans e127))), o128, hs130, hm⟩
        · skip
          try dsimp only at hm
          exact ⟨B88, t61.2, t85.1, _, _, rfl, w94, e93, o95, hs92, hm⟩
      · skip
        obtain ⟨B75, x76, s77, d78, d79, rfl, w80, e81, o82, hs83, hm⟩ := h
        have hm := hk74 _ hm
        try dsimp only at hm
        refine ⟨_, rfl, (.inl ⟨rfl, _, SqL.of o82.h⟩), _, rfl, ?_⟩
        refine ⟨by show 1 ≤ sizeLine; decide, fun p163 hp164 => ?_⟩
        have g165 := Grow.newOwn (S := S0) (o := .lst ([(.str x76)])) w80.bh hp164
        have o166 := Own.new (K := K) (ds := (([x76] : List Str)).map D.str) w80 hp164 (RepL.cons rfl RepL.nil)
        have w168 := w80.trans g165.of0
        have e167 := g165.bb
        have o169 := o82.grow g165 (fun _ z => z.elim)
        have hs170 := hs83.grow0 g165
        have n171 : p1 ≠ p163 := ne_of_none o82.h hp164
        refine ⟨_, rfl, _, rfl, ?_⟩
        intro D172 hD173
        have g174 := Grow.newOwn (S := S0) (o := .lst []) w168.bh hD173
        have o178 := Own.new (K := K) (ds := []) w168 hD173 rfl
        have w180 := w168.trans g174.of0
        have e179 := g174.bb
        have o181 := o169.grow g174 (fun _ z => z.elim)
        have o182 := o166.grow g174 (fun _ z => z.elim)
        have hs183 := hs170.grow0 g174
        have n184 : p1 ≠ D172 := ne_of_none o169.h hD173
        have n185 : p163 ≠ D172 := ne_of_none o166.h hD173
        obtain ⟨KL175, hm, hst176, hdn177⟩ := compK nb57 hm
        refine lc_it (walk_str (z := ("abcdefghijklmnopqrstuvwxyz" : Str))) (fun i195 H => ∃ (B186 : Hp) (x187 : (List Str)) (xs188 : List V), Grow (Sx a c) B0 H0 B186 H ∧ Same B75 B186 ∧ Own K H0 B186 H p1 xs36 ((x35).map D.str) ∧ Own K H0 B186 H p163 ([(.str x76)]) ((([x76] : List Str)).map D.str) ∧ Own K H0 B186 H D172 xs188 ((x187).map D.str) ∧ SrcAt a c B186 H s77 ∧ KL175 i195 () x187) ⟨B75, ([] : List Str), [], w180, (Same.refl _), o181, o182, o178, hs183, hm⟩ (fun i195 H197 _ h => ?_) (fun i195 x196 H197 H198 hi h hy => ?_) (fun H199 h => ?_)
        · skip
          obtain ⟨B186, x187, xs188, w189, e190, o191, o192, o193, hs194, _⟩ := h
          exact trivial
        · skip
          obtain ⟨B186, x187, xs188, w189, e190, o191, o192, o193, hs194, hm⟩ := h
          obtain ⟨rfl, c200, hc201, rfl⟩ := hy
          have ha202 := sgn_at hc201
          obtain ⟨hlt207, KB203, nb204, hm, hnx205, hno206⟩ := hst176 i195 _ _ _ ha202 hm
          try dsimp only at hm
          refine ⟨rfl, ?_⟩
          refine tyes_go ?_
          refine ⟨_, rfl, ?_⟩
          refine tn_go ?_
          refine ⟨_, rfl, ?_⟩
          obtain ⟨t208, h209, hm⟩ := bindK nb204 hm
          try dsimp only at hm
          obtain ⟨h209c, rfl⟩ := cutSR_ok h209
          refine ⟨_, rfl, h209c, _, rfl, ?_⟩
          obtain ⟨t210, h211, hm⟩ := bindK nb204 hm
          try dsimp only at hm
          obtain ⟨h211c, rfl⟩ := addS_ok h211
          refine ⟨_, _, rfl, rfl, h211c, ?_⟩
          refine ⟨xs188, o193.h, (lt_line (own_lt o193 hlt207)), ?_⟩
          have o212 := o193.put (es := ((x187 ++ [((cutS x76 none (some (7 : Int))) ++ (⟨#[c200]⟩ : Str))])).map D.str) (o193.r.snocm (a := ((cutS x76 none (some (7 : Int))) ++ (⟨#[c200]⟩ : Str))) rfl)
          have w213 := w189.mut (o := (.lst (xs188 ++ [(.str ((cutS x76 none (some (7 : Int))) ++ (⟨#[c200]⟩ : Str)))]))) o193.n0 o193.b o193.h (by rfl)
          have o214 := o191.other (u := (.lst (xs188 ++ [(.str ((cutS x76 none (some (7 : Int))) ++ (⟨#[c200]⟩ : Str)))]))) n184
          have o215 := o192.other (u := (.lst (xs188 ++ [(.str ((cutS x76 none (some (7 : Int))) ++ (⟨#[c200]⟩ : Str)))]))) n185
          have hs216 := hs194.mut (u := (.lst (xs188 ++ [(.str ((cutS x76 none (some (7 : Int))) ++ (⟨#[c200]⟩ : Str)))]))) o193 hsd
          have hm := hnx205 _ _ hm
          exact ⟨B186, (x187 ++ [((cutS x76 none (some (7 : Int))) ++ (⟨#[c200]⟩ : Str))]), (xs188 ++ [(.str ((cutS x76 none (some (7 : Int))) ++ (⟨#[c200]⟩ : Str)))]), w213, e190, o214, o215, o212, hs216, hm⟩
        · skip
          obtain ⟨B186, x187, xs188, w189, e190, o191, o192, o193, hs194, hm⟩ := h
          have hm := hdn177 _ _ _ (sgn_len ("abcdefghijklmnopqrstuvwxyz" : Str)) hm
          try dsimp only at hm
          obtain ⟨t217, h218, hm⟩ := bindK nb57 hm
          try dsimp only at hm
          obtain ⟨h218c, rfl⟩ := catR_ok h218
          refine ⟨p163, D172, _, _, rfl, rfl, o192.h, o193.h, (cat_len o192.r o193.r h218c), ?_⟩
          intro l219 hn220
          have g221 := Grow.newOwn (S := S0) (o := .lst (([(.str x76)]) ++ xs188)) w189.bh hn220
          have o222 := Own.new (K := K) (ds := ((([x76] : List Str) ++ x187)).map D.str) w189 hn220 (show RepL K B186 (((([x76] : List Str) ++ x187)).map D.str) _ from (by rw [List.map_append]; exact RepL.append o192.r o193.r))
          have w224 := w189.trans g221.of0
          have e223 := g221.bb
          have o225 := o191.grow g221 (fun _ z => z.elim)
          have o226 := o192.grow g221 (fun _ z => z.elim)
          have o227 := o193.grow g221 (fun _ z => z.elim)
          have hs228 := hs194.grow0 g221
          have n229 : p1 ≠ l219 := ne_of_none o191.h hn220
          have n230 : p163 ≠ l219 := ne_of_none o192.h hn220
          have n231 : D172 ≠ l219 := ne_of_none o193.h hn220
          refine ⟨l219, rfl, ⟨(([(.str x76)]) ++ xs188), SqL.of o222.h⟩, ?_⟩
          intro D232 hD233
          have g234 := Grow.newOwn (S := S0) (o := .lst []) w224.bh hD233
          have o238 := Own.new (K := K) (ds := []) w224 hD233 rfl
          have w240 := w224.trans g234.of0
          have e239 := g234.bb
          have o241 := o225.grow g234 (fun _ z => z.elim)
          have o242 := o226.grow g234 (fun _ z => z.elim)
          have o243 := o227.grow g234 (fun _ z => z.elim)
          have o244 := o222.grow g234 (fun _ z => z.elim)
          have hs245 := hs228.grow0 g234
          have n246 : p1 ≠ D232 := ne_of_none o225.h hD233
          have n247 : p163 ≠ D232 := ne_of_none o226.h hD233
          have n248 : D172 ≠ D232 := ne_of_none o227.h hD233
          have n249 : l219 ≠ D232 := ne_of_none o222.h hD233
          obtain ⟨KL235, hm, hst236, hdn237⟩ := compK nb57 hm
          refine lc_it (walk_list (K := K) (a := l219) (xs := (([(.str x76)]) ++ xs188))) (fun i261 H => ∃ (B250 : Hp) (x251 : (List Str)) (xs252 : List V), Grow (Sx a c) B0 H0 B250 H ∧ Same B186 B250 ∧ Own K H0 B250 H p1 xs36 ((x35).map D.str) ∧ Own K H0 B250 H p163 ([(.str x76)]) ((([x76] : List Str)).map D.str) ∧ Own K H0 B250 H D172 xs188 ((x187).map D.str) ∧ Own K H0 B250 H l219 (([(.str x76)]) ++ xs188) (((([x76] : List Str) ++ x187)).map D.str) ∧ Own K H0 B250 H D232 xs252 ((x251).map D.str) ∧ SrcAt a c B250 H s77 ∧ KL235 i261 () x251) ⟨B186, ([] : List Str), [], w240, (Same.refl _), o241, o242, o243, o244, o238, hs245, hm⟩ (fun i261 H263 _ h => ?_) (fun i261 x262 H263 H264 hi h hy => ?_) (fun H265 h => ?_)
          · skip
            obtain ⟨B250, x251, xs252, w253, e254, o255, o256, o257, o258, o259, hs260, _⟩ := h
            exact (SqL.of o258.h)
          · skip
            obtain ⟨B250, x251, xs252, w253, e254, o255, o256, o257, o258, o259, hs260, hm⟩ := h
            obtain ⟨rfl, q269⟩ := hy
            obtain ⟨a266, ha267, r268⟩ := o258.r.getm q269
            obtain ⟨hlt274, KB270, nb271, hm, hnx272, hno273⟩ := hst236 i261 _ _ _ ha267 hm
            try dsimp only at hm
            obtain rfl : x262 = (.str a266) := r268
            refine ⟨rfl, ?_⟩
            refine ⟨_, rfl, _, rfl, ?_⟩
            have hx275 := o255.r.asStrs
            subst hx275
            refine rin_strs (l := x35) (.inl (SqL.of o255.h)) ?_
            refine ⟨_, rfl, ?_⟩
            refine ite_both hm (fun hc276 hm => ?_) (fun hc276 hm => ?_)
            · skip
              try dsimp only at hm
              refine ⟨_, rfl, ?_⟩
              refine ⟨xs252, o259.h, (lt_line (own_lt o259 hlt274)), ?_⟩
              have o277 := o259.put (es := ((x251 ++ [a266])).map D.str) (o259.r.snocm (a := a266) rfl)
              have w278 := w253.mut (o := (.lst (xs252 ++ [(.str a266)]))) o259.n0 o259.b o259.h (by rfl)
              have o279 := o255.other (u := (.lst (xs252 ++ [(.str a266)]))) n246
              have o280 := o256.other (u := (.lst (xs252 ++ [(.str a266)]))) n247
              have o281 := o257.other (u := (.lst (xs252 ++ [(.str a266)]))) n248
              have o282 := o258.other (u := (.lst (xs252 ++ [(.str a266)]))) n249
              have hs283 := hs260.mut (u := (.lst (xs252 ++ [(.str a266)]))) o259 hsd
              have hm := hnx272 _ _ hm
              exact ⟨B250, (x251 ++ [a266]), (xs252 ++ [(.str a266)]), w278, e254, o279, o280, o281, o282, o277, hs283, hm⟩
            · skip
              try dsimp only at hm
              have hm := hno273 _ hm
              exact ⟨B250, x251, xs252, w253, e254, o255, o256, o257, o258, o259, hs260, hm⟩
          · skip
            obtain ⟨B250, x251, xs252, w253, e254, o255, o256, o257, o258, o259, hs260, hm⟩ := h
            have hm := hdn237 _ _ _ (Nat.le_of_eq (RepL.lenm o222.r).symm) hm
            try dsimp only at hm
            refine tc_go ?_
            obtain ⟨t284, h285, hm⟩ := bindK nb57 hm
            try dsimp only at hm
            refine rixO (em := D.str) o259 h285 (fun v286 r287 => ?_)
            obtain rfl : v286 = (.str t284) := r287
            obtain ⟨t288, h289, hm⟩ := bindK nb57 hm
            try dsimp only at hm
            refine ⟨p1, xs36, _, rfl, rfl, o255.h, (lt_line (own_lt o255 (lenG_ok h289))), ?_⟩
            have o290 := o255.put (es := ((x35 ++ [t284])).map D.str) (o255.r.snocm (a := t284) rfl)
            have w291 := w253.mut (o := (.lst (xs36 ++ [(.str t284)]))) o255.n0 o255.b o255.h (by rfl)
            have o292 := o256.other (u := (.lst (xs36 ++ [(.str t284)]))) (Ne.symm n171)
            have o293 := o257.other (u := (.lst (xs36 ++ [(.str t284)]))) (Ne.symm n184)
            have o294 := o258.other (u := (.lst (xs36 ++ [(.str t284)]))) (Ne.symm n229)
            have o295 := o259.other (u := (.lst (xs36 ++ [(.str t284)]))) (Ne.symm n246)
            have hs296 := hs260.mut (u := (.lst (xs36 ++ [(.str t284)]))) o255 hsd
            have hm := hnx58 _ hm
            exact ⟨B250, (x35 ++ [t284]), (xs36 ++ [(.str t284)]), s77, _, _, _, _, rfl, w291, (e43.trans (e69.trans (e81.trans (e167.trans (e179.trans (e190.trans (e223.trans (e239.trans e254)))))))), o290, hs296, hm⟩
    · skip
      obtain ⟨B34, x35, xs36, s37, d38, d39, d40, d41, rfl, w42, e43, o44, hs45, hm⟩ := h
      have hm := hdn48 _ _ (rng_len1 (lo := (0 : Int)) (hi := u1)) hm
      try dsimp only at hm
      refine ⟨_, rfl, ?_⟩
      exact fin _ _ hm p1 xs36 B34 H53 o44.n0 w42 hs45 o44.b o44.h o44.r

theorem sc_l_any_gain : FnScope ["_law_draw"] ["_law_draw"] (defScope (top 32)) := ⟨rfl, rfl, rfl, by decide +kernel, rfl, by decide +kernel, by decide +kernel⟩
theorem ok_l_any_gain (T : Txt K mg) : FnOk P w K mg base CX0 3 T.a_l_any_gain T.f_l_any_gain ["_law_draw"] (sp_l_any_gain K T.a_Program) := by
  refine T.d_l_any_gain.ok sc_l_any_gain (fun vs H Q E h => ?_) (fun cdv A outer s H0 vs Q E hr h => ?_)
  · obtain ⟨_, _, _, _, rfl, _⟩ := h
    rfl
  · obtain ⟨a, c, s0, B0, rfl, bh0, hs0, hmp⟩ := h
    obtain ⟨K0, nb0, hm, fin⟩ := hmp.open_
    unfold m_l_any_gain at hm
    try dsimp only at hm
    have w0 : Grow (Sx a c) B0 H0 B0 H0 := Grow.refl bh0
    have hsd := hs0.there
    refine ⟨_, PSs.nox ((pss_one (ps_ret (pe_call (ok_l_pick T) (hr.mono (by decide)) (by rfl) T.g_l_pick T.d_l_pick.kp T.b_l_pick .nil pass0 (pa_cons (pv 0) (pa_cons (pe_lst (pa_cons pe_int (pa_cons pe_int (pa_cons pe_int (pa_cons pe_int (pa_cons pe_int (pa_cons (pe_un un_neg pe_int) (pa_cons pe_int (pa_cons (pe_op op_sub (pe_call (ok_l_take T) (hr.mono (by decide)) (by rfl) T.g_l_take T.d_l_take.kp T.b_l_take .nil pass0 (pa_cons (pv 0) (pa_cons pe_int pa_nil))) pe_int) pa_nil))))))))) pa_nil)))))), ?_⟩
    refine ⟨_, rfl, _, rfl, _, rfl, ?_⟩
    obtain ⟨t1, h2, hm⟩ := bindK nb0 hm
    try dsimp only at hm
    refine ⟨a, c, s0, B0, (1999 : Int), rfl, w0.bh, hs0, (PostS.mk_ h2 fun v3 B4 H5 g6 hs8 r7 => ?_)⟩
    have w10 := w0.trans g6
    have e9 := g6.bb
    obtain rfl : v3 = (.int t1.2) := r7
    refine ⟨_, _, rfl, rfl, ?_⟩
    refine ⟨by show 8 ≤ sizeLine; decide, fun p11 hp12 => ?_⟩
    have g13 := Grow.newOwn (S := S0) (o := .lst ([(.int (0 : Int)), (.int (0 : Int)), (.int (0 : Int)), (.int (1 : Int)), (.int (1 : Int)), (.int (-(1 : Int))), (.int (2 : Int)), (.int (t1.2 - (999 : Int)))])) w10.bh hp12
    have o14 := Own.new (K := K) (ds := (([(0 : Int), (0 : Int), (0 : Int), (1 : Int), (1 : Int), (-(1 : Int)), (2 : Int), (t1.2 - (999 : Int))] : List Int)).map D.int) w10 hp12 (RepL.cons rfl (RepL.cons rfl (RepL.cons rfl (RepL.cons rfl (RepL.cons rfl (RepL.cons rfl (RepL.cons rfl (RepL.cons rfl RepL.nil))))))))
    have w16 := w10.trans g13.of0
    have e15 := g13.bb
    have hs17 := hs8.grow0 g13
    obtain ⟨B18, w19, e20, r21, q22⟩ := freezeL w16 o14
    have hs23 := hs17.fz o14.n0 q22 hsd
    obtain ⟨t24, h25, hm⟩ := bindK nb0 hm
    try dsimp only at hm
    refine ⟨a, c, t1.1, B18, ([(0 : Int), (0 : Int), (0 : Int), (1 : Int), (1 : Int), (-(1 : Int)), (2 : Int), (t1.2 - (999 : Int))] : List Int), (.ref p11), rfl, w19.bh, r21, hs23, (PostS.mk_ h25 fun v26 B27 H28 g29 hs31 r30 => ?_)⟩
    have w33 := w19.trans g29
    have e32 := g29.bb
    obtain rfl : v26 = (.int t24.2) := r30
    exact fin _ _ hm (.int t24.2) B27 H28 w33 hs31 rfl

theorem sc_l_any_rows : FnScope ["_law_draw", "_law_kinds", "_law_many", "_law_way", "_law_rows", "_law_steps", "_law_gains", "_law_state", "_law_row", "_law_kind", "_law_k"] ["_law_draw", "_law_kinds", "_law_many"] (defScope (top 33)) := ⟨rfl, rfl, rfl, by decide +kernel, rfl, by decide +kernel, by decide +kernel⟩
theorem ok_l_any_rows (T : Txt K mg) : FnOk P w K mg base CX0 4 T.a_l_any_rows T.f_l_any_rows ["_law_draw", "_law_kinds", "_law_many"] (sp_l_any_rows K T.a_Program) := by
  refine T.d_l_any_rows.ok sc_l_any_rows (fun vs H Q E h => ?_) (fun cdv A outer s H0 vs Q E hr h => ?_)
  · obtain ⟨_, _, _, _, _, _, _, rfl, _⟩ := h
    rfl
  · obtain ⟨a, c, s0, B0, u1, vv1, u2, rfl, bh0, rr1, hs0, hmp⟩ := h
    obtain ⟨K0, nb0, hm, fin⟩ := hmp.open_
    unfold m_l_any_rows at hm
    try dsimp only at hm
    have w0 : Grow (Sx a c) B0 H0 B0 H0 := Grow.refl bh0
    have hsd := hs0.there
    refine ⟨_, PSs.nox ((pss_cons (ps_par (i := 3) (j := 4) (by rfl) sc_l_any_rows.nd rfl rfl (by decide) rfl rfl (pa_cons (pe_call (ok_l_take T) (hr.mono (by decide)) (by rfl) T.g_l_take T.d_l_take.kp T.b_l_take .nil pass0 (pa_cons (pv 0) (pa_cons pe_int pa_nil))) (pa_cons (pe_lst pa_nil) pa_nil)) (by rfl))
      (pss_cons (ps_asg (pe_tup (pa_cons (pe_lc (own := [("_law_kind", 9)]) rfl sc_l_any_rows.nd (pi_tup' (K := K) (by rfl) (pv 1)) (blkOk_by (own := [("_law_kind", 9)]) (N := ["_law_draw", "_law_kinds", "_law_many", "_law_way", "_law_rows", "_law_steps", "_law_gains", "_law_state", "_law_row", "_law_kind", "_law_k"]) (sc := defScope (top 33)) (by decide +kernel)) (fun _ _ _ _ _ => (pg_name (i := 9) sc_l_any_rows.nd rfl (Or.inl rfl))) (fun _ _ _ _ _ => pts_nil) (fun _ _ _ _ _ => (pe_call (ok_l_take T) (hr.mono (by decide)) (by rfl) T.g_l_take T.d_l_take.kp T.b_l_take .nil pass0 (pa_cons (pv 0) (pa_cons (pv 2) pa_nil))))) (pa_cons (pe_lc (own := [("_law_kind", 9)]) rfl sc_l_any_rows.nd (pi_tup' (K := K) (by rfl) (pv 1)) (blkOk_by (own := [("_law_kind", 9)]) (N := ["_law_draw", "_law_kinds", "_law_many", "_law_way", "_law_rows", "_law_steps", "_law_gains", "_law_state", "_law_row", "_law_kind", "_law_k"]) (sc := defScope (top 33)) (by decide +kernel)) (fun _ _ _ _ _ => (pg_name (i := 9) sc_l_any_rows.nd rfl (Or.inl rfl))) (fun _ _ _ _ _ => pts_nil) (fun _ _ _ _ _ => (pe_call (ok_l_any_gain T) (hr.mono (by decide)) (by rfl) T.g_l_any_gain T.d_l_any_gain.kp T.b_l_any_gain .nil pass0 (pa_cons (pv 0) pa_nil)))) pa_nil))) (pg_tup' (K := K) (n := 2) (by rfl) rfl (pgs_cons (pg_name (i := 5) sc_l_any_rows.nd rfl (Or.inr rfl)) (pgs_cons (pg_name (i := 6) sc_l_any_rows.nd rfl (Or.inr rfl)) pgs_nil))))
      (pss_cons (ps_for PassesOwn.never rfl (pi_range1 (by rfl) T.n_range (pa_cons (pv 2) pa_nil)) (pg_name (i := 7) sc_l_any_rows.nd rfl (Or.inr rfl))
      (pss_cons (ps_setLc (i := 8) (own := [("_law_k", 10)]) rfl sc_l_any_rows.nd rfl rfl (sw_true rfl rfl rfl (by decide +kernel)) (pi_range1 (by rfl) T.n_range (pa_cons (pe_callB (call_len_seq' (K := K) (by rfl)) (by rfl) T.n_len (by decide +kernel) (pa_cons (pv 1) pa_nil)) pa_nil)) (blkOk_by (own := [("_law_k", 10)]) (N := ["_law_draw", "_law_kinds", "_law_many", "_law_way", "_law_rows", "_law_steps", "_law_gains", "_law_state", "_law_row", "_law_kind", "_law_k"]) (sc := defScope (top 33)) (by decide +kernel)) (fun _ _ _ _ _ => (pg_name (i := 10) sc_l_any_rows.nd rfl (Or.inl rfl))) (fun _ _ _ _ _ => pts_nil) (fun _ _ _ _ _ => (pe_tup (pa_cons (pe_op op_modN (pe_callTy call_int1 (by rfl) T.n_int (by decide +kernel) (pa_cons (pe_op op_add (pv 7) (pe_ix (ix_list' (K := K) (by rfl)) (pv 5) (pv 10) (fun _ _ => rfl))) pa_nil)) (pv 2)) (pa_cons (pe_ix (ix_list' (K := K) (by rfl)) (pv 6) (pv 10) (fun _ _ => rfl)) pa_nil)))))
      (Evl.pss_cut (ps_if (PW.pt (pw_or (pt_cmpR op_eqI (pv 3) pe_int (nomark _)) (pw_or1 (PW.pt (pw_and (pt_cmpR op_eqI (pv 3) pe_int (nomark _)) (pw_and1 (pt_cmpR op_eqI (pe_call (ok_l_take T) (hr.mono (by decide)) (by rfl) T.g_l_take T.d_l_take.kp T.b_l_take .nil pass0 (pa_cons (pv 0) (pa_cons pe_int pa_nil))) pe_int (nomark _)))))))) (pss_one (ps_asg (pe_tup (pa_cons (pe_call (ok_l_take T) (hr.mono (by decide)) (by rfl) T.g_l_take T.d_l_take.kp T.b_l_take .nil pass0 (pa_cons (pv 0) (pa_cons (pv 2) pa_nil))) (pa_cons (pe_call (ok_l_any_gain T) (hr.mono (by decide)) (by rfl) T.g_l_any_gain T.d_l_any_gain.kp T.b_l_any_gain .nil pass0 (pa_cons (pv 0) pa_nil)) pa_nil))) (pg_sub (pv 8) (pe_call (ok_l_take T) (hr.mono (by decide)) (by rfl) T.g_l_take T.d_l_take.kp T.b_l_take .nil pass0 (pa_cons (pv 0) (pa_cons (pe_callB (call_len_seq' (K := K) (by rfl)) (by rfl) T.n_len (by decide +kernel) (pa_cons (pv 1) pa_nil)) pa_nil))) set_list))) pss_nil)
      (Evl.pss_cut (ps_if (pt_cmpR op_eqI (pv 3) pe_int (nomark _)) (pss_one (ps_setLc (i := 8) (own := [("_law_kind", 9)]) rfl sc_l_any_rows.nd rfl rfl (sw_true rfl rfl rfl (by decide +kernel)) (pi_tup' (K := K) (by rfl) (pv 1)) (blkOk_by (own := [("_law_kind", 9)]) (N := ["_law_draw", "_law_kinds", "_law_many", "_law_way", "_law_rows", "_law_steps", "_law_gains", "_law_state", "_law_row", "_law_kind", "_law_k"]) (sc := defScope (top 33)) (by decide +kernel)) (fun _ _ _ _ _ => (pg_name (i := 9) sc_l_any_rows.nd rfl (Or.inl rfl))) (fun _ _ _ _ _ => pts_nil) (fun _ _ _ _ _ => (pe_tup (pa_cons (pe_call (ok_l_take T) (hr.mono (by decide)) (by rfl) T.g_l_take T.d_l_take.kp T.b_l_take .nil pass0 (pa_cons (pv 0) (pa_cons (pv 2) pa_nil))) (pa_cons (pe_call (ok_l_any_gain T) (hr.mono (by decide)) (by rfl) T.g_l_any_gain T.d_l_any_gain.kp T.b_l_any_gain .nil pass0 (pa_cons (pv 0) pa_nil)) pa_nil)))))) pss_nil)
      (pss_one (ps_expr (pe_append' (K := K) (by rfl) (pv 4) (pa_cons (pe_callTy (call_tuple_of' (K := K) (by rfl)) (by rfl) T.n_tuple (by decide +kernel) (pa_cons (pv 8) pa_nil)) pa_nil))))))))
      (pss_one (ps_ret (pe_callTy (call_tuple_of' (K := K) (by rfl)) (by rfl) T.n_tuple (by decide +kernel) (pa_cons (pv 4) pa_nil)))))))), ?_⟩
    refine ⟨_, rfl, ?_⟩
    obtain ⟨t1, h2, hm⟩ := bindK nb0 hm
    try dsimp only at hm
    refine ⟨a, c, s0, B0, (3 : Int), rfl, w0.bh, hs0, (PostS.mk_ h2 fun v3 B4 H5 g6 hs8 r7 => ?_)⟩
    have w10 := w0.trans g6
    have e9 := g6.bb
    obtain rfl : v3 = (.int t1.2) := r7
    refine ⟨by show 0 ≤ sizeLine; decide, fun p11 hp12 => ?_⟩
    have g13 := Grow.newOwn (S := S0) (o := .lst ([])) w10.bh hp12
    have o14 := Own.new (K := K) (ds := (([] : List (List (Int × Int)))).map (fun (l : List (Int × Int)) => D.tup (l.map (fun (p : (Int × Int)) => D.tup [D.int p.1, D.int p.2])))) w10 hp12 RepL.nil
    have w16 := w10.trans g13.of0
    have e15 := g13.bb
    have hs17 := hs8.grow0 g13
    refine ⟨_, _, rfl, ?_⟩
    refine ⟨_, rfl, ?_⟩
    obtain ⟨p18, x19, ev22, hp20, rl21⟩ := id (Rep.k2t (rr1.mono (e9.trans e15)))
    subst ev22
    refine ⟨p18, rfl, ⟨x19, (same_t w16.bh hp20)⟩, ?_⟩
    intro D23 hD24
    have g25 := Grow.newOwn (S := S0) (o := .lst []) w16.bh hD24
    have o29 := Own.new (K := K) (ds := []) w16 hD24 rfl
    have w31 := w16.trans g25.of0
    have e30 := g25.bb
    have o32 := o14.grow g25 (fun _ z => z.elim)
    have hs33 := hs17.grow0 g25
    have n34 : p11 ≠ D23 := ne_of_none o14.h hD24
    obtain ⟨KL26, hm, hst27, hdn28⟩ := compK nb0 hm
    refine lc_it (walk_tup (K := K) (a := p18) (xs := x19)) (fun i44 H => ∃ (B35 : Hp) (x36 : (List Int)) (xs37 : List V) (s38 : Src), Grow (Sx a c) B0 H0 B35 H ∧ Same B4 B35 ∧ Own K H0 B35 H p11 ([]) ((([] : List (List (Int × Int)))).map (fun (l : List (Int × Int)) => D.tup (l.map (fun (p : (Int × Int)) => D.tup [D.int p.1, D.int p.2])))) ∧ Own K H0 B35 H D23 xs37 ((x36).map D.int) ∧ SrcAt a c B35 H s38 ∧ KL26 i44 s38 x36) ⟨B4, ([] : List Int), [], t1.1, w31, (Same.refl _), o32, o29, hs33, hm⟩ (fun i44 H46 _ h => ?_) (fun i44 x45 H46 H47 hi h hy => ?_) (fun H48 h => ?_)
    · skip
      obtain ⟨B35, x36, xs37, s38, w39, e40, o41, o42, hs43, _⟩ := h
      exact (same_t w39.bh (same_t (e30.trans e40) hp20))
    · skip
      obtain ⟨B35, x36, xs37, s38, w39, e40, o41, o42, hs43, hm⟩ := h
      obtain ⟨rfl, q52⟩ := hy
      obtain ⟨a49, ha50, r51⟩ := RepL.getm rl21 q52
      obtain ⟨hlt57, KB53, nb54, hm, hnx55, hno56⟩ := hst27 i44 _ _ _ ha50 hm
      try dsimp only at hm
      obtain rfl : x45 = (.str a49) := r51
      refine ⟨rfl, ?_⟩
      refine tyes_go ?_
      refine ⟨_, rfl, _, rfl, ?_⟩
      obtain ⟨t58, h59, hm⟩ := bindK nb54 hm
      try dsimp only at hm
      refine ⟨a, c, s38, B35, u2, rfl, w39.bh, hs43, (PostS.mk_ h59 fun v60 B61 H62 g63 hs65 r64 => ?_)⟩
      have w67 := w39.trans g63
      have e66 := g63.bb
      have o68 := o41.grow g63 hsd
      have o69 := o42.grow g63 hsd
      obtain rfl : v60 = (.int t58.2) := r64
      refine ⟨xs37, o69.h, (lt_line (own_lt o69 hlt57)), ?_⟩
      have o70 := o69.put (es := ((x36 ++ [t58.2])).map D.int) (o69.r.snocm (a := t58.2) rfl)
      have w71 := w67.mut (o := (.lst (xs37 ++ [(.int t58.2)]))) o69.n0 o69.b o69.h (by rfl)
      have o72 := o68.other (u := (.lst (xs37 ++ [(.int t58.2)]))) n34
      have hs73 := hs65.mut (u := (.lst (xs37 ++ [(.int t58.2)]))) o69 hsd
      have hm := hnx55 _ _ hm
      exact ⟨B61, (x36 ++ [t58.2]), (xs37 ++ [(.int t58.2)]), t58.1, w71, (e40.trans e66), o72, o70, hs73, hm⟩
    · skip
      obtain ⟨B35, x36, xs37, s38, w39, e40, o41, o42, hs43, hm⟩ := h
      have hm := hdn28 _ _ _ (Nat.le_of_eq (RepL.lenm rl21).symm) hm
      try dsimp only at hm
      refine ⟨_, rfl, ?_⟩
      obtain ⟨p74, x75, ev78, hp76, rl77⟩ := id (Rep.k2t (rr1.mono (e9.trans (e15.trans (e30.trans e40)))))
      cases ev78
      refine ⟨p18, rfl, ⟨x75, (same_t w39.bh hp76)⟩, ?_⟩
      intro D79 hD80
      have g81 := Grow.newOwn (S := S0) (o := .lst []) w39.bh hD80
      have o85 := Own.new (K := K) (ds := []) w39 hD80 rfl
      have w87 := w39.trans g81.of0
      have e86 := g81.bb
      have o88 := o41.grow g81 (fun _ z => z.elim)
      have o89 := o42.grow g81 (fun _ z => z.elim)
      have hs90 := hs43.grow0 g81
      have n91 : p11 ≠ D79 := ne_of_none o41.h hD80
      have n92 : D23 ≠ D79 := ne_of_none o42.h hD80
      obtain ⟨KL82, hm, hst83, hdn84⟩ := compK nb0 hm
      refine lc_it (walk_tup (K := K) (a := p18) (xs := x75)) (fun i103 H => ∃ (B93 : Hp) (x94 : (List Int)) (xs95 : List V) (s96 : Src), Grow (Sx a c) B0 H0 B93 H ∧ Same B35 B93 ∧ Own K H0 B93 H p11 ([]) ((([] : List (List (Int × Int)))).map (fun (l : List (Int × Int)) => D.tup (l.map (fun (p : (Int × Int)) => D.tup [D.int p.1, D.int p.2])))) ∧ Own K H0 B93 H D23 xs37 ((x36).map D.int) ∧ Own K H0 B93 H D79 xs95 ((x94).map D.int) ∧ SrcAt a c B93 H s96 ∧ KL82 i103 s96 x94) ⟨B35, ([] : List Int), [], s38, w87, (Same.refl _), o88, o89, o85, hs90, hm⟩ (fun i103 H105 _ h => ?_) (fun i103 x104 H105 H106 hi h hy => ?_) (fun H107 h => ?_)
      · skip
        obtain ⟨B93, x94, xs95, s96, w97, e98, o99, o100, o101, hs102, _⟩ := h
        exact (same_t w97.bh (same_t (e86.trans e98) hp76))
      · skip
        obtain ⟨B93, x94, xs95, s96, w97, e98, o99, o100, o101, hs102, hm⟩ := h
        obtain ⟨rfl, q111⟩ := hy
        obtain ⟨a108, ha109, r110⟩ := RepL.getm rl77 q111
        obtain ⟨hlt116, KB112, nb113, hm, hnx114, hno115⟩ := hst83 i103 _ _ _ ha109 hm
        try dsimp only at hm
        obtain rfl : x104 = (.str a108) := r110
        refine ⟨rfl, ?_⟩
        refine tyes_go ?_
        refine ⟨_, rfl, ?_⟩
        obtain ⟨t117, h118, hm⟩ := bindK nb113 hm
        try dsimp only at hm
        refine ⟨a, c, s96, B93, rfl, w97.bh, hs102, (PostS.mk_ h118 fun v119 B120 H121 g122 hs124 r123 => ?_)⟩
        have w126 := w97.trans g122
        have e125 := g122.bb
        have o127 := o99.grow g122 hsd
        have o128 := o100.grow g122 hsd
        have o129 := o101.grow g122 hsd
        obtain rfl : v119 = (.int t117.2) := r123
        refine ⟨xs95, o129.h, (lt_line (own_lt o129 hlt116)), ?_⟩
        have o130 := o129.put (es := ((x94 ++ [t117.2])).map D.int) (o129.r.snocm (a := t117.2) rfl)
        have w131 := w126.mut (o := (.lst (xs95 ++ [(.int t117.2)]))) o129.n0 o129.b o129.h (by rfl)
        have o132 := o127.other (u := (.lst (xs95 ++ [(.int t117.2)]))) n91
        have o133 := o128.other (u := (.lst (xs95 ++ [(.int t117.2)]))) n92
        have hs134 := hs124.mut (u := (.lst (xs95 ++ [(.int t117.2)]))) o129 hsd
        have hm := hnx114 _ _ hm
        exact ⟨B120, (x94 ++ [t117.2]), (xs95 ++ [(.int t117.2)]), t117.1, w131, (e98.trans e125), o132, o133, o130, hs134, hm⟩
      · skip
        obtain ⟨B93, x94, xs95, s96, w97, e98, o99, o100, o101, hs102, hm⟩ := h
        have hm := hdn84 _ _ _ (Nat.le_of_eq (RepL.lenm rl77).symm) hm
        try dsimp only at hm
        obtain ⟨B135, w136, e137, r138, q139⟩ := freezeL w97 o100
        have o140 := o99.fz e137 q139 n34
        have o141 := o101.fz e137 q139 (Ne.symm n92)
        have hs142 := hs102.fz o100.n0 q139 hsd
        obtain ⟨B143, w144, e145, r146, q147⟩ := freezeL w136 o141
        have o148 := o140.fz e145 q147 n91
        have hs149 := hs142.fz o141.n0 q147 hsd
        refine ⟨by show 2 ≤ sizeLine; decide, fun T150 hT151 => ?_⟩
        have g152 := Grow.newOwn (S := S0) (o := .tup [(.ref D23), (.ref D79)]) w144.bh hT151
        have w154 := w144.trans g152.of0
        have e153 := g152.bb
        have o155 := o148.grow g152 (fun _ z => z.elim)
        have hs156 := hs149.grow0 g152
        refine ⟨T150, _, rfl, (SqT.of upd_same), rfl, _, _, rfl, _, _, rfl, rfl, ?_⟩
        refine ⟨_, rfl, ?_⟩
        obtain ⟨l158, h159, hm⟩ := bindK nb0 hm
        try dsimp only at hm
        obtain ⟨h159c, rfl⟩ := rangeR_ok h159
        refine ⟨_, rfl, h159c.2.2.1, h159c.2.2.2, ?_⟩
        obtain ⟨KL172, hm, hst173, hdn174⟩ := forK nb0 hm
        refine for_it (walk_range (lo := 0) (n := (u2).toNat)) (fun i175 σ H => ∃ (B160 : Hp) (x161 : (List (List (Int × Int)))) (xs162 : List V) (s163 : Src) (d164 : Option V) (d165 : Option V) (d166 : Option V) (d167 : Option V), σ = [some (.ref a), some (.ref p18), some (.int u2), some (.int t1.2), some (.ref p11), some (.ref D23), some (.ref D79), d164, d165, d166, d167] ∧ Grow (Sx a c) B0 H0 B160 H ∧ Same B143 B160 ∧ Own K H0 B160 H p11 xs162 ((x161).map (fun (l : List (Int × Int)) => D.tup (l.map (fun (p : (Int × Int)) => D.tup [D.int p.1, D.int p.2])))) ∧ SrcAt a c B160 H s163 ∧ KL172 i175 (s163, x161)) ⟨B143, ([] : List (List (Int × Int))), ([]), s96, _, _, _, _, rfl, w154, (Same.refl _), o155, hs156, hm⟩ (fun i175 σ H177 _ h => ?_) (fun i175 x176 σ H177 H178 hi h hy => ?_) (fun σ H179 h => ?_)
        · skip
          obtain ⟨B160, x161, xs162, s163, d164, d165, d166, d167, rfl, w168, e169, o170, hs171, _⟩ := h
          exact trivial
        · skip
          obtain ⟨B160, x161, xs162, s163, d164, d165, d166, d167, rfl, w168, e169, o170, hs171, hm⟩ := h
          obtain ⟨rfl, rfl⟩ := hy
          have ha181 := rng_at1 (lo := (0 : Int)) (hi := u2) hi
          obtain ⟨KB182, nb183, hm, hnx184⟩ := hst173 i175 _ _ ha181 hm
          try dsimp only at hm
          refine ⟨_, rfl, ?_⟩
          obtain ⟨p187, x188, ev191, hp189, rl190⟩ := id (Rep.k2t (rr1.mono (e9.trans (e15.trans (e30.trans (e40.trans (e86.trans (e98.trans (e137.trans (e145.trans (e153.trans e169)))))))))))
          cases ev191
          refine ⟨p18, x188, rfl, (.inr (same_t w168.bh hp189)), ?_⟩
          rw [RepL.lenm rl190]
          obtain ⟨l192, h193, hm⟩ := bindK nb183 hm
          try dsimp only at hm
          obtain ⟨h193c, rfl⟩ := rangeR_ok h193
          refine ⟨_, rfl, h193c.2.2.1, h193c.2.2.2, ?_⟩
          intro D194 hD195
          have g196 := Grow.newOwn (S := S0) (o := .lst []) w168.bh hD195
          have o200 := Own.new (K := K) (ds := []) w168 hD195 rfl
          have w202 := w168.trans g196.of0
          have e201 := g196.bb
          have o203 := o170.grow g196 (fun _ z => z.elim)
          have hs204 := hs171.grow0 g196
          have n205 : p11 ≠ D194 := ne_of_none o170.h hD195
          obtain ⟨KL197, hm, hst198, hdn199⟩ := compK nb183 hm
          refine lc_it (walk_range (lo := 0) (n := ((u1.length : Int)).toNat)) (fun i214 H => ∃ (B206 : Hp) (x207 : (List (Int × Int))) (xs208 : List V), Grow (Sx a c) B0 H0 B206 H ∧ Same B160 B206 ∧ Own K H0 B206 H p11 xs162 ((x161).map (fun (l : List (Int × Int)) => D.tup (l.map (fun (p : (Int × Int)) => D.tup [D.int p.1, D.int p.2])))) ∧ Own K H0 B206 H D194 xs208 ((x207).map (fun (p : (Int × Int)) => D.tup [D.int p.1, D.int p.2])) ∧ SrcAt a c B206 H s163 ∧ KL197 i214 () x207) ⟨B160, ([] : List (Int × Int)), [], w202, (Same.refl _), o203, o200, hs204, hm⟩ (fun i214 H216 _ h => ?_) (fun i214 x215 H216 H217 hi h hy => ?_) (fun H218 h => ?_)
          · skip
            obtain ⟨B206, x207, xs208, w209, e210, o211, o212, hs213, _⟩ := h
            exact trivial
          · skip
            obtain ⟨B206, x207, xs208, w209, e210, o211, o212, hs213, hm⟩ := h
            obtain ⟨rfl, rfl⟩ := hy
            have ha220 := rng_at1 (lo := (0 : Int)) (hi := (u1.length : Int)) hi
            obtain ⟨hlt225, KB221, nb222, hm, hnx223, hno224⟩ := hst198 i214 _ _ _ ha220 hm
            try dsimp only at hm
            refine ⟨rfl, ?_⟩
            refine tyes_go ?_
            refine ⟨_, rfl, _, rfl, _, rfl, ?_⟩
            obtain ⟨t226, h227, hm⟩ := bindK nb222 hm
            try dsimp only at hm
            refine rixL (em := D.int) (r138.mono (e145.trans (e153.trans (e169.trans (e201.trans e210))))) w209.bh h227 (fun v228 r229 => ?_)
            obtain rfl : v228 = (.int t226) := r229
            refine ⟨_, _, rfl, rfl, ?_⟩
            refine .inl ⟨_, rfl, ?_⟩
            refine ⟨_, rfl, ?_⟩
            obtain ⟨t230, h231, hm⟩ := bindK nb222 hm
            try dsimp only at hm
            obtain ⟨h231c, rfl⟩ := fmodR_ok h231
            refine ⟨_, _, rfl, rfl, h231c, _, rfl, _, rfl, ?_⟩
            obtain ⟨t232, h233, hm⟩ := bindK nb222 hm
            try dsimp only at hm
            refine rixL (em := D.int) (r146.mono (e153.trans (e169.trans (e201.trans e210)))) w209.bh h233 (fun v234 r235 => ?_)
            obtain rfl : v234 = (.int t232) := r235
            refine ⟨by show 2 ≤ sizeLine; decide, fun p236 hp237 => ?_⟩
            have g238 := Grow.new (S := S0) (o := (.tup [(.int ((((0 : Int) + (i175 : Int)) + t226).fmod u2)), (.int t232)])) w209.bh hp237
            have r239 : Rep K (upd B206 p236 (.tup [(.int ((((0 : Int) + (i175 : Int)) + t226).fmod u2)), (.int t232)])) ((fun (p : (Int × Int)) => D.tup [D.int p.1, D.int p.2]) (((((0 : Int) + (i175 : Int)) + t226).fmod u2), t232)) (.ref p236) := ⟨p236, [(.int ((((0 : Int) + (i175 : Int)) + t226).fmod u2)), (.int t232)], rfl, SqT.of upd_same, (RepL.mono (same_upd (same_free w209.bh hp237)) (RepL.cons rfl (RepL.cons rfl RepL.nil)))⟩
            have w241 := w209.trans g238.of0
            have e240 := g238.bb
            have o242 := o211.grow g238 (fun _ z => z.elim)
            have o243 := o212.grow g238 (fun _ z => z.elim)
            have hs244 := hs213.grow0 g238
            refine ⟨xs208, o243.h, (lt_line (own_lt o243 hlt225)), ?_⟩
            have o245 := o243.put (es := ((x207 ++ [(((((0 : Int) + (i175 : Int)) + t226).fmod u2), t232)])).map (fun (p : (Int × Int)) => D.tup [D.int p.1, D.int p.2])) (o243.r.snocm (a := (((((0 : Int) + (i175 : Int)) + t226).fmod u2), t232)) r239)
            have w246 := w241.mut (o := (.lst (xs208 ++ [(.ref p236)]))) o243.n0 o243.b o243.h (by rfl)
            have o247 := o242.other (u := (.lst (xs208 ++ [(.ref p236)]))) n205
            have hs248 := hs244.mut (u := (.lst (xs208 ++ [(.ref p236)]))) o243 hsd
            have hm := hnx223 _ _ hm
            exact ⟨(upd B206 p236 (.tup [(.int ((((0 : Int) + (i175 : Int)) + t226).fmod u2)), (.int t232)])), (x207 ++ [(((((0 : Int) + (i175 : Int)) + t226).fmod u2), t232)]), (xs208 ++ [(.ref p236)]), w246, (e210.trans e240), o247, o245, hs248, hm⟩
          · skip
            obtain ⟨B206, x207, xs208, w209, e210, o211, o212, hs213, hm⟩ := h
            have hm := hdn199 _ _ _ (rng_len1 (lo := (0 : Int)) (hi := (u1.length : Int))) hm
            try dsimp only at hm
            obtain ⟨K249, nb250, hm, hk251⟩ := partK nb183 hm
            refine ⟨fun σ H => ∃ (B252 : Hp) (x253 : (List (Int × Int))) (xs254 : List V) (s255 : Src) (d256 : Option V) (d257 : Option V), σ = [some (.ref a), some (.ref p18), some (.int u2), some (.int t1.2), some (.ref p11), some (.ref D23), some (.ref D79), some (.int ((0 : Int) + (i175 : Int))), some (.ref D194), d256, d257] ∧ Grow (Sx a c) B0 H0 B252 H ∧ Same B206 B252 ∧ Own K H0 B252 H p11 xs162 ((x161).map (fun (l : List (Int × Int)) => D.tup (l.map (fun (p : (Int × Int)) => D.tup [D.int p.1, D.int p.2])))) ∧ Own K H0 B252 H D194 xs254 ((x253).map (fun (p : (Int × Int)) => D.tup [D.int p.1, D.int p.2])) ∧ SrcAt a c B252 H s255 ∧ K249 (.ok (s255, x253)), ?_, fun σ H263 h => ?_⟩
            · skip
              refine ⟨_, rfl, _, _, rfl, rfl, _, rfl, ?_⟩
              refine ite_both hm (fun hc264 hm => ?_) (fun hc264 hm => ?_)
              · skip
                try dsimp only at hm
                refine iteT ?_
                refine ⟨_, rfl, _, rfl, ?_⟩
                obtain ⟨t265, h266, hm⟩ := bindK nb250 hm
                try dsimp only at hm
                refine ⟨a, c, s163, B206, u2, rfl, w209.bh, hs213, (PostS.mk_ h266 fun v267 B268 H269 g270 hs272 r271 => ?_)⟩
                have w274 := w209.trans g270
                have e273 := g270.bb
                have o275 := o211.grow g270 hsd
                have o276 := o212.grow g270 hsd
                obtain rfl : v267 = (.int t265.2) := r271
                refine ⟨_, rfl, ?_⟩
                obtain ⟨t277, h278, hm⟩ := bindK nb250 hm
                try dsimp only at hm
                refine ⟨a, c, t265.1, B268, rfl, w274.bh, hs272, (PostS.mk_ h278 fun v279 B280 H281 g282 hs284 r283 => ?_)⟩
                have w286 := w274.trans g282
                have e285 := g282.bb
                have o287 := o275.grow g282 hsd
                have o288 := o276.grow g282 hsd
                obtain rfl : v279 = (.int t277.2) := r283
                refine ⟨by show 2 ≤ sizeLine; decide, fun p289 hp290 => ?_⟩
                have g291 := Grow.new (S := S0) (o := (.tup [(.int t265.2), (.int t277.2)])) w286.bh hp290
                have r292 : Rep K (upd B280 p289 (.tup [(.int t265.2), (.int t277.2)])) ((fun (p : (Int × Int)) => D.tup [D.int p.1, D.int p.2]) (t265.2, t277.2)) (.ref p289) := ⟨p289, [(.int t265.2), (.int t277.2)], rfl, SqT.of upd_same, (RepL.mono (same_upd (same_free w286.bh hp290)) (RepL.cons rfl (RepL.cons rfl RepL.nil)))⟩
                have w294 := w286.trans g291.of0
                have e293 := g291.bb
                have o295 := o287.grow g291 (fun _ z => z.elim)
                have o296 := o288.grow g291 (fun _ z => z.elim)
                have hs297 := hs284.grow0 g291
                refine ⟨_, rfl, _, rfl, _, rfl, ?_⟩
                obtain ⟨p298, x299, ev302, hp300, rl301⟩ := id (Rep.k2t (rr1.mono (e9.trans (e15.trans (e30.trans (e40.trans (e86.trans (e98.trans (e137.trans (e145.trans (e153.trans (e169.trans (e201.trans (e210.trans (e273.trans (e285.trans e293))))))))))))))))
                cases ev302
                refine ⟨p18, x299, rfl, (.inr (same_t w294.bh hp300)), ?_⟩
                rw [RepL.lenm rl301]
                obtain ⟨t303, h304, hm⟩ := bindK nb250 hm
                try dsimp only at hm
                refine ⟨a, c, t277.1, (upd B280 p289 (.tup [(.int t265.2), (.int t277.2)])), (u1.length : Int), rfl, w294.bh, hs297, (PostS.mk_ h304 fun v305 B306 H307 g308 hs310 r309 => ?_)⟩
                have w312 := w294.trans g308
                have e311 := g308.bb
                have o313 := o295.grow g308 hsd
                have o314 := o296.grow g308 hsd
                obtain rfl : v305 = (.int t303.2) := r309
                obtain ⟨j315, h316, hm⟩ := bindK nb250 hm
                try dsimp only at hm
                refine ⟨D194, xs208, _, j315, rfl, rfl, o314.h, (ixN_of o314.r h316), ?_⟩
                have o317 := o314.put (es := ((x207.set j315 (t265.2, t277.2))).map (fun (p : (Int × Int)) => D.tup [D.int p.1, D.int p.2])) (RepL.setm o314.r (r292.mono e311))
                have w318 := w312.mut (o := (.lst (xs208.set j315 (.ref p289)))) o314.n0 o314.b o314.h (by rfl)
                have o319 := o313.other (u := (.lst (xs208.set j315 (.ref p289)))) n205
                have hs320 := hs310.mut (u := (.lst (xs208.set j315 (.ref p289)))) o314 hsd
                exact ⟨B306, (x207.set j315 (t265.2, t277.2)), (xs208.set j315 (.ref p289)), t303.1, _, _, rfl, w318, (e273.trans (e285.trans (e293.trans e311))), o319, o317, hs320, hm⟩
              · skip
                try dsimp only at hm
                refine ⟨_, rfl, _, _, rfl, rfl, _, rfl, ?_⟩
                refine ite_both hm (fun hc321 hm => ?_) (fun hc321 hm => ?_)
                · skip
                  try dsimp only at hm
                  refine ⟨_, rfl, ?_⟩
                  obtain ⟨t322, h323, hm⟩ := bindK nb250 hm
                  try dsimp only at hm
                  refine ⟨a, c, s163, B206, (4 : Int), rfl, w209.bh, hs213, (PostS.mk_ h323 fun v324 B325 H326 g327 hs329 r328 => ?_)⟩
                  have w331 := w209.trans g327
                  have e330 := g327.bb
                  have o332 := o211.grow g327 hsd
                  have o333 := o212.grow g327 hsd
                  obtain rfl : v324 = (.int t322.2) := r328
                  refine ⟨_, _, rfl, rfl, _, rfl, ?_⟩
                  refine ite_both hm (fun hc334 hm => ?_) (fun hc334 hm => ?_)
                  · skip
                    try dsimp only at hm
                    refine ⟨_, rfl, _, rfl, ?_⟩
                    obtain ⟨t335, h336, hm⟩ := bindK nb250 hm
                    try dsimp only at hm
                    refine ⟨a, c, t322.1, B325, u2, rfl, w331.bh, hs329, (PostS.mk_ h336 fun v337 B338 H339 g340 hs342 r341 => ?_)⟩
                    have w344 := w331.trans g340
                    have e343 := g340.bb
                    have o345 := o332.grow g340 hsd
                    have o346 := o333.grow g340 hsd
                    obtain rfl : v337 = (.int t335.2) := r341
                    refine ⟨_, rfl, ?_⟩
                    obtain ⟨t347, h348, hm⟩ := bindK nb250 hm
                    try dsimp only at hm
                    refine ⟨a, c, t335.1, B338, rfl, w344.bh, hs342, (PostS.mk_ h348 fun v349 B350 H351 g352 hs354 r353 => ?_)⟩
                    have w356 := w344.trans g352
                    have e355 := g352.bb
                    have o357 := o345.grow g352 hsd
                    have o358 := o346.grow g352 hsd
                    obtain rfl : v349 = (.int t347.2) := r353
                    refine ⟨by show 2 ≤ sizeLine; decide, fun p359 hp360 => ?_⟩
                    have g361 := Grow.new (S := S0) (o := (.tup [(.int t335.2), (.int t347.2)])) w356.bh hp360
                    have r362 : Rep K (upd B350 p359 (.tup [(.int t335.2), (.int t347.2)])) ((fun (p : (Int × Int)) => D.tup [D.int p.1, D.int p.2]) (t335.2, t347.2)) (.ref p359) := ⟨p359, [(.int t335.2), (.int t347.2)], rfl, SqT.of upd_same, (RepL.mono (same_upd (same_free w356.bh hp360)) (RepL.cons rfl (RepL.cons rfl RepL.nil)))⟩
                    have w364 := w356.trans g361.of0
                    have e363 := g361.bb
                    have o365 := o357.grow g361 (fun _ z => z.elim)
                    have o366 := o358.grow g361 (fun _ z => z.elim)
                    have hs367 := hs354.grow0 g361
                    refine ⟨_, rfl, _, rfl, _, rfl, ?_⟩
                    obtain ⟨p368, x369, ev372, hp370, rl371⟩ := id (Rep.k2t (rr1.mono (e9.trans (e15.trans (e30.trans (e40.trans (e86.trans (e98.trans (e137.trans (e145.trans (e153.trans (e169.trans (e201.trans (e210.trans (e330.trans (e343.trans (e355.trans e363)))))))))))))))))
                    cases ev372
                    refine ⟨p18, x369, rfl, (.inr (same_t w364.bh hp370)), ?_⟩
                    rw [RepL.lenm rl371]
                    obtain ⟨t373, h374, hm⟩ := bindK nb250 hm
                    try dsimp only at hm
                    refine ⟨a, c, t347.1, (upd B350 p359 (.tup [(.int t335.2), (.int t347.2)])), (u1.length : Int), rfl, w364.bh, hs367, (PostS.mk_ h374 fun v375 B376 H377 g378 hs380 r379 => ?_)⟩
                    have w382 := w364.trans g378
                    have e381 := g378.bb
                    have o383 := o365.grow g378 hsd
                    have o384 := o366.grow g378 hsd
                    obtain rfl : v375 = (.int t373.2) := r379
                    obtain ⟨j385, h386, hm⟩ := bindK nb250 hm
                    try dsimp only at hm
                    refine ⟨D194, xs208, _, j385, rfl, rfl, o384.h, (ixN_of o384.r h386), ?_⟩
                    have o387 := o384.put (es := ((x207.set j385 (t335.2, t347.2))).map (fun (p : (Int × Int)) => D.tup [D.int p.1, D.int p.2])) (RepL.setm o384.r (r362.mono e381))
                    have w388 := w382.mut (o := (.lst (xs208.set j385 (.ref p359)))) o384.n0 o384.b o384.h (by rfl)
                    have o389 := o383.other (u := (.lst (xs208.set j385 (.ref p359)))) n205
                    have hs390 := hs380.mut (u := (.lst (xs208.set j385 (.ref p359)))) o384 hsd
                    exact ⟨B376, (x207.set j385 (t335.2, t347.2)), (xs208.set j385 (.ref p359)), t373.1, _, _, rfl, w388, (e330.trans (e343.trans (e355.trans (e363.trans e381)))), o389, o387, hs390, hm⟩
                  · skip
                    try dsimp only at hm
                    exact ⟨B325, x207, xs208, t322.1, _, _, rfl, w331, e330, o332, o333, hs329, hm⟩
                · skip
                  try dsimp only at hm
                  refine iteF ?_
                  exact ⟨B206, x207, xs208, s163, _, _, rfl, w209, (Same.refl _), o211, o212, hs213, hm⟩
            · skip
              obtain ⟨B252, x253, xs254, s255, d256, d257, rfl, w258, e259, o260, o261, hs262, hm⟩ := h
              have hm := hk251 _ hm
              try dsimp only at hm
              obtain ⟨K391, nb392, hm, hk393⟩ := partK nb183 hm
              refine ⟨fun σ H => ∃ (B395 : Hp) (x396 : (List (Int × Int))) (xs397 : List V) (l394 : Addr) (s398 : Src) (d399 : Option V) (d400 : Option V), σ = [some (.ref a), some (.ref p18), some (.int u2), some (.int t1.2), some (.ref p11), some (.ref D23), some (.ref D79), some (.int ((0 : Int) + (i175 : Int))), some (.ref l394), d399, d400] ∧ Grow (Sx a c) B0 H0 B395 H ∧ Same B252 B395 ∧ Own K H0 B395 H p11 xs162 ((x161).map (fun (l : List (Int × Int)) => D.tup (l.map (fun (p : (Int × Int)) => D.tup [D.int p.1, D.int p.2])))) ∧ Own K H0 B395 H l394 xs397 ((x396).map (fun (p : (Int × Int)) => D.tup [D.int p.1, D.int p.2])) ∧ l394 ≠ p11 ∧ SrcAt a c B395 H s398 ∧ K391 (.ok (s398, x396)), ?_, fun σ H407 h => ?_⟩
              · skip
                refine ⟨_, rfl, _, _, rfl, rfl, _, rfl, ?_⟩
                refine ite_both hm (fun hc408 hm => ?_) (fun hc408 hm => ?_)
                · skip
                  try dsimp only at hm
                  refine ⟨_, rfl, ?_⟩
                  obtain ⟨p409, x410, ev413, hp411, rl412⟩ := id (Rep.k2t (rr1.mono (e9.trans (e15.trans (e30.trans (e40.trans (e86.trans (e98.trans (e137.trans (e145.trans (e153.trans (e169.trans (e201.trans (e210.trans e259))))))))))))))
                  cases ev413
                  refine ⟨p18, rfl, ⟨x410, (same_t w258.bh hp411)⟩, ?_⟩
                  intro D414 hD415
                  have g416 := Grow.newOwn (S := S0) (o := .lst []) w258.bh hD415
                  have o420 := Own.new (K := K) (ds := []) w258 hD415 rfl
                  have w422 := w258.trans g416.of0
                  have e421 := g416.bb
                  have o423 := o260.grow g416 (fun _ z => z.elim)
                  have o424 := o261.grow g416 (fun _ z => z.elim)
                  have hs425 := hs262.grow0 g416
                  have n426 : p11 ≠ D414 := ne_of_none o260.h hD415
                  have n427 : D194 ≠ D414 := ne_of_none o261.h hD415
                  obtain ⟨KL417, hm, hst418, hdn419⟩ := compK nb392 hm
                  refine lc_it (walk_tup (K := K) (a := p18) (xs := x410)) (fun i438 H => ∃ (B428 : Hp) (x429 : (List (Int × Int))) (xs430 : List V) (s431 : Src), Grow (Sx a c) B0 H0 B428 H ∧ Same B252 B428 ∧ Own K H0 B428 H p11 xs162 ((x161).map (fun (l : List (Int × Int)) => D.tup (l.map (fun (p : (Int × Int)) => D.tup [D.int p.1, D.int p.2])))) ∧ Own K H0 B428 H D194 xs254 ((x253).map (fun (p : (Int × Int)) => D.tup [D.int p.1, D.int p.2])) ∧ Own K H0 B428 H D414 xs430 ((x429).map (fun (p : (Int × Int)) => D.tup [D.int p.1, D.int p.2])) ∧ SrcAt a c B428 H s431 ∧ KL417 i438 s431 x429) ⟨B252, ([] : List (Int × Int)), [], s255, w422, (Same.refl _), o423, o424, o420, hs425, hm⟩ (fun i438 H440 _ h => ?_) (fun i438 x439 H440 H441 hi h hy => ?_) (fun H442 h => ?_)
                  · skip
                    obtain ⟨B428, x429, xs430, s431, w432, e433, o434, o435, o436, hs437, _⟩ := h
                    exact (same_t w432.bh (same_t (e421.trans e433) hp411))
                  · skip
                    obtain ⟨B428, x429, xs430, s431, w432, e433, o434, o435, o436, hs437, hm⟩ := h
                    obtain ⟨rfl, q446⟩ := hy
                    obtain ⟨a443, ha444, r445⟩ := RepL.getm rl412 q446
                    obtain ⟨hlt451, KB447, nb448, hm, hnx449, hno450⟩ := hst418 i438 _ _ _ ha444 hm
                    try dsimp only at hm
                    obtain rfl : x439 = (.str a443) := r445
                    refine ⟨rfl, ?_⟩
                    refine tyes_go ?_
                    refine ⟨_, rfl, _, rfl, ?_⟩
                    obtain ⟨t452, h453, hm⟩ := bindK nb448 hm
                    try dsimp only at hm
                    refine ⟨a, c, s431, B428, u2, rfl, w432.bh, hs437, (PostS.mk_ h453 fun v454 B455 H456 g457 hs459 r458 => ?_)⟩
                    have w461 := w432.trans g457
                    have e460 := g457.bb
                    have o462 := o434.grow g457 hsd
                    have o463 := o435.grow g457 hsd
                    have o464 := o436.grow g457 hsd
                    obtain rfl : v454 = (.int t452.2) := r458
                    refine ⟨_, rfl, ?_⟩
                    obtain ⟨t465, h466, hm⟩ := bindK nb448 hm
                    try dsimp only at hm
                    refine ⟨a, c, t452.1, B455, rfl, w461.bh, hs459, (PostS.mk_ h466 fun v467 B468 H469 g470 hs472 r471 => ?_)⟩
                    have w474 := w461.trans g470
                    have e473 := g470.bb
                    have o475 := o462.grow g470 hsd
                    have o476 := o463.grow g470 hsd
                    have o477 := o464.grow g470 hsd
                    obtain rfl : v467 = (.int t465.2) := r471
                    refine ⟨by show 2 ≤ sizeLine; decide, fun p478 hp479 => ?_⟩
                    have g480 := Grow.new (S := S0) (o := (.tup [(.int t452.2), (.int t465.2)])) w474.bh hp479
                    have r481 : Rep K (upd B468 p478 (.tup [(.int t452.2), (.int t465.2)])) ((fun (p : (Int × Int)) => D.tup [D.int p.1, D.int p.2]) (t452.2, t465.2)) (.ref p478) := ⟨p478, [(.int t452.2), (.int t465.2)], rfl, SqT.of upd_same, (RepL.mono (same_upd (same_free w474.bh hp479)) (RepL.cons rfl (RepL.cons rfl RepL.nil)))⟩
                    have w483 := w474.trans g480.of0
                    have e482 := g480.bb
                    have o484 := o475.grow g480 (fun _ z => z.elim)
                    have o485 := o476.grow g480 (fun _ z => z.elim)
                    have o486 := o477.grow g480 (fun _ z => z.elim)
                    have hs487 := hs472.grow0 g480
                    refine ⟨xs430, o486.h, (lt_line (own_lt o486 hlt451)), ?_⟩
                    have o488 := o486.put (es := ((x429 ++ [(t452.2, t465.2)])).map (fun (p : (Int × Int)) => D.tup [D.int p.1, D.int p.2])) (o486.r.snocm (a := (t452.2, t465.2)) r481)
                    have w489 := w483.mut (o := (.lst (xs430 ++ [(.ref p478)]))) o486.n0 o486.b o486.h (by rfl)
                    have o490 := o484.other (u := (.lst (xs430 ++ [(.ref p478)]))) n426
                    have o491 := o485.other (u := (.lst (xs430 ++ [(.ref p478)]))) n427
                    have hs492 := hs487.mut (u := (.lst (xs430 ++ [(.ref p478)]))) o486 hsd
                    have hm := hnx449 _ _ hm
                    exact ⟨(upd B468 p478 (.tup [(.int t452.2), (.int t465.2)])), (x429 ++ [(t452.2, t465.2)]), (xs430 ++ [(.ref p478)]), t465.1, w489, (e433.trans (e460.trans (e473.trans e482))), o490, o491, o488, hs492, hm⟩
                  · skip
                    obtain ⟨B428, x429, xs430, s431, w432, e433, o434, o435, o436, hs437, hm⟩ := h
                    have hm := hdn419 _ _ _ (Nat.le_of_eq (RepL.lenm rl412).symm) hm
                    try dsimp only at hm
                    exact ⟨B428, x429, xs430, D414, s431, _, _, rfl, w432, (e421.trans e433), o434, o436, (Ne.symm n426), hs437, hm⟩
                · skip
                  try dsimp only at hm
                  exact ⟨B252, x253, xs254, D194, s255, _, _, rfl, w258, (Same.refl _), o260, o261, (Ne.symm n205), hs262, hm⟩
              · skip
                obtain ⟨B395, x396, xs397, l394, s398, d399, d400, rfl, w401, e402, o403, o404, n405, hs406, hm⟩ := h
                have hm := hk393 _ hm
                try dsimp only at hm
                refine ⟨_, rfl, (.inl ⟨rfl, _, SqL.of o403.h⟩), _, rfl, ?_⟩
                refine ⟨l394, xs397, rfl, .inl ⟨SqL.of o404.h, fun l493 hn494 => ?_⟩⟩
                have g495 := Grow.new (S := S0) (o := (.tup xs397)) w401.bh hn494
                have r496 : Rep K (upd B395 l493 (.tup xs397)) ((fun (l : List (Int × Int)) => D.tup (l.map (fun (p : (Int × Int)) => D.tup [D.int p.1, D.int p.2]))) x396) (.ref l493) := ⟨l493, xs397, rfl, SqT.of upd_same, (RepL.mono (same_upd (same_free w401.bh hn494)) (show RepL K B395 ((x396).map (fun (p : (Int × Int)) => D.tup [D.int p.1, D.int p.2])) _ from o404.r))⟩
                have w498 := w401.trans g495.of0
                have e497 := g495.bb
                have o499 := o403.grow g495 (fun _ z => z.elim)
                have o500 := o404.grow g495 (fun _ z => z.elim)
                have hs501 := hs406.grow0 g495
                obtain ⟨t502, h503, hm⟩ := bindK nb183 hm
                try dsimp only at hm
                refine ⟨p11, xs162, _, rfl, rfl, o499.h, (lt_line (own_lt o499 (lenG_ok h503))), ?_⟩
                have o504 := o499.put (es := ((x161 ++ [x396])).map (fun (l : List (Int × Int)) => D.tup (l.map (fun (p : (Int × Int)) => D.tup [D.int p.1, D.int p.2])))) (o499.r.snocm (a := x396) r496)
                have w505 := w498.mut (o := (.lst (xs162 ++ [(.ref l493)]))) o499.n0 o499.b o499.h (by rfl)
                have o506 := o500.other (u := (.lst (xs162 ++ [(.ref l493)]))) n405
                have hs507 := hs501.mut (u := (.lst (xs162 ++ [(.ref l493)]))) o499 hsd
                have hm := hnx184 _ hm
                exact ⟨(upd B395 l493 (.tup xs397)), (x161 ++ [x396]), (xs162 ++ [(.ref l493)]), s398, _, _, _, _, rfl, w505, (e169.trans (e201.trans (e210.trans (e259.trans (e402.trans e497))))), o504, hs507, hm⟩
        · skip
          obtain ⟨B160, x161, xs162, s163, d164, d165, d166, d167, rfl, w168, e169, o170, hs171, hm⟩ := h
          have hm := hdn174 _ _ (rng_len1 (lo := (0 : Int)) (hi := u2)) hm
          try dsimp only at hm
          refine ⟨_, rfl, ?_⟩
          refine ⟨p11, xs162, rfl, .inl ⟨SqL.of o170.h, fun l509 hn510 => ?_⟩⟩
          have g511 := Grow.new (S := S0) (o := (.tup xs162)) w168.bh hn510
          have r512 : Rep K (upd B160 l509 (.tup xs162)) ((fun (l : List (List (Int × Int))) => D.tup (l.map (fun (l : List (Int × Int)) => D.tup (l.map (fun (p : (Int × Int)) => D.tup [D.int p.1, D.int p.2]))))) x161) (.ref l509) := ⟨l509, xs162, rfl, SqT.of upd_same, (RepL.mono (same_upd (same_free w168.bh hn510)) (show RepL K B160 ((x161).map (fun (l : List (Int × Int)) => D.tup (l.map (fun (p : (Int × Int)) => D.tup [D.int p.1, D.int p.2])))) _ from o170.r))⟩
          have w514 := w168.trans g511.of0
          have e513 := g511.bb
          have o515 := o170.grow g511 (fun _ z => z.elim)
          have hs516 := hs171.grow0 g511
          exact fin _ _ hm (.ref l509) (upd B160 l509 (.tup xs162)) (upd H179 l509 (.tup xs162)) w514 hs516 r512

theorem sc_l_story : FnScope ["_law_draw", "_law_most", "_law_kinds", "_law_many", "_law_next_many", "_law_passes", "_law_begins", "_law_labels_here", "_law_tells", "_law_state", "_law_row"] ["_law_draw", "_law_most"] (defScope (top 34)) := ⟨rfl, rfl, rfl, by decide +kernel, rfl, by decide +kernel, by decide +kernel⟩
theorem ok_l_story (T : Txt K mg) : FnOk P w K mg base CX0 5 T.a_l_story T.f_l_story ["_law_draw", "_law_most"] (sp_l_story K T.a_Program) := by
  refine T.d_l_story.ok sc_l_story (fun vs H Q E h => ?_) (fun cdv A outer s H0 vs Q E hr h => ?_)
  · obtain ⟨_, _, _, _, _, rfl, _⟩ := h
    rfl
  · obtain ⟨a, c, s0, B0, u1, rfl, bh0, hs0, hmp⟩ := h
    obtain ⟨K0, nb0, hm, fin⟩ := hmp.open_
    unfold m_l_story at hm
    try dsimp only at hm
    have w0 : Grow (Sx a c) B0 H0 B0 H0 := Grow.refl bh0
    have hsd := hs0.there
    refine ⟨_, PSs.nox ((pss_cons (ps_set (i := 2) sc_l_story.nd rfl (Or.inl rfl) (pe_callTy (call_tuple_ofK' (K := K) (by rfl)) (by rfl) T.n_tuple (by decide +kernel) (pa_cons (pe_callB (cr_sortedS' (K := K) (by rfl)) (by rfl) T.n_sorted (by decide +kernel) (pa_cons (pe_call (ok_l_labels T) (hr.mono (by decide)) (by rfl) T.g_l_labels T.d_l_labels.kp T.b_l_labels .nil pass0 (pa_cons (pv 0) (pa_cons (pe_op op_add pe_int (pe_call (ok_l_pick T) (hr.mono (by decide)) (by rfl) T.g_l_pick T.d_l_pick.kp T.b_l_pick .nil pass0 (pa_cons (pv 0) (pa_cons (pe_lst (pa_cons pe_int (pa_cons pe_int (pa_cons pe_int (pa_cons pe_int (pa_cons pe_int pa_nil)))))) pa_nil)))) pa_nil))) pa_nil)) pa_nil)))
      (pss_cons (ps_asg (pe_tup (pa_cons (pe_op op_add pe_int (pe_call (ok_l_take T) (hr.mono (by decide)) (by rfl) T.g_l_take T.d_l_take.kp T.b_l_take .nil pass0 (pa_cons (pv 0) (pa_cons (pv 1) pa_nil)))) (pa_cons (pe_op op_add pe_int (pe_call (ok_l_take T) (hr.mono (by decide)) (by rfl) T.g_l_take T.d_l_take.kp T.b_l_take .nil pass0 (pa_cons (pv 0) (pa_cons (pv 1) pa_nil)))) pa_nil))) (pg_tup' (K := K) (n := 2) (by rfl) rfl (pgs_cons (pg_name (i := 3) sc_l_story.nd rfl (Or.inl rfl)) (pgs_cons (pg_name (i := 4) sc_l_story.nd rfl (Or.inr rfl)) pgs_nil))))
      (pss_cons (ps_set (i := 5) sc_l_story.nd rfl (Or.inl rfl) (pe_lst (pa_cons (pe_tup (pa_cons (pe_tup (pa_cons (pe_call (ok_l_take T) (hr.mono (by decide)) (by rfl) T.g_l_take T.d_l_take.kp T.b_l_take .nil pass0 (pa_cons (pv 0) (pa_cons (pv 3) pa_nil))) pa_nil)) (pa_cons (pe_call (ok_l_any_rows T) (hr.mono (by decide)) (by rfl) T.g_l_any_rows T.d_l_any_rows.kp T.b_l_any_rows .nil pass0 (pa_cons (pv 0) (pa_cons (pv 2) (pa_cons (pv 3) pa_nil)))) pa_nil))) pa_nil)))
      (Evl.pss_cut (ps_if (pt_cmpR op_gt (pe_call (ok_l_take T) (hr.mono (by decide)) (by rfl) T.g_l_take T.d_l_take.kp T.b_l_take .nil pass0 (pa_cons (pv 0) (pa_cons pe_int pa_nil))) pe_int (nomark _)) (pss_cons (ps_set (i := 6) sc_l_story.nd rfl (Or.inl rfl) (pe_callTy (call_tuple_of' (K := K) (by rfl)) (by rfl) T.n_tuple (by decide +kernel) (pa_cons (pe_lc (own := [("_law_state", 9)]) rfl sc_l_story.nd (pi_range1 (by rfl) T.n_range (pa_cons (pv 3) pa_nil)) (blkOk_by (own := [("_law_state", 9)]) (N := ["_law_draw", "_law_most", "_law_kinds", "_law_many", "_law_next_many", "_law_passes", "_law_begins", "_law_labels_here", "_law_tells", "_law_state", "_law_row"]) (sc := defScope (top 34)) (by decide +kernel)) (fun _ _ _ _ _ => (pg_name (i := 9) sc_l_story.nd rfl (Or.inl rfl))) (fun _ _ _ _ _ => pts_nil) (fun _ _ _ _ _ => (pe_call (ok_l_take T) (hr.mono (by decide)) (by rfl) T.g_l_take T.d_l_take.kp T.b_l_take .nil pass0 (pa_cons (pv 0) (pa_cons (pv 4) pa_nil))))) pa_nil)))
      (pss_one (ps_expr (pe_append' (K := K) (by rfl) (pv 5) (pa_cons (pe_tup (pa_cons (pv 6) (pa_cons (pe_call (ok_l_any_rows T) (hr.mono (by decide)) (by rfl) T.g_l_any_rows T.d_l_any_rows.kp T.b_l_any_rows .nil pass0 (pa_cons (pv 0) (pa_cons (pv 2) (pa_cons (pv 4) pa_nil)))) pa_nil))) pa_nil))))) pss_nil)
      (pss_cons (ps_set (i := 7) sc_l_story.nd rfl (Or.inr rfl) (pe_call (ok_l_labels T) (hr.mono (by decide)) (by rfl) T.g_l_labels T.d_l_labels.kp T.b_l_labels .nil pass0 (pa_cons (pv 0) (pa_cons pe_int pa_nil))))
      (pss_cons (ps_set (i := 8) sc_l_story.nd rfl (Or.inl rfl) (pe_callTy (call_tuple_of' (K := K) (by rfl)) (by rfl) T.n_tuple (by decide +kernel) (pa_cons (pe_lc (own := [("_law_row", 10)]) rfl sc_l_story.nd (pi_tup' (K := K) (by rfl) (pe_ix (ix_tup' (K := K) (by rfl)) (pe_ix (ix_list' (K := K) (by rfl)) (pv 5) (pe_un un_neg pe_int) (fun _ _ => rfl)) pe_int (fun _ _ => rfl))) (blkOk_by (own := [("_law_row", 10)]) (N := ["_law_draw", "_law_most", "_law_kinds", "_law_many", "_law_next_many", "_law_passes", "_law_begins", "_law_labels_here", "_law_tells", "_law_state", "_law_row"]) (sc := defScope (top 34)) (by decide +kernel)) (fun _ _ _ _ _ => (pg_name (i := 10) sc_l_story.nd rfl (Or.inl rfl))) (fun _ _ _ _ _ => pts_nil) (fun _ _ _ _ _ => (pe_tup (pa_cons (pe_call (ok_l_pick_1 T) (hr.mono (by decide)) (by rfl) T.g_l_pick T.d_l_pick.kp T.b_l_pick .nil pass0 (pa_cons (pv 0) (pa_cons (pv 7) pa_nil))) (pa_cons (pe_call (ok_l_any_gain T) (hr.mono (by decide)) (by rfl) T.g_l_any_gain T.d_l_any_gain.kp T.b_l_any_gain .nil pass0 (pa_cons (pv 0) pa_nil)) pa_nil))))) pa_nil)))
      (pss_one (ps_ret (pe_tup (pa_cons (pv 2) (pa_cons (pe_callTy (call_tuple_of' (K := K) (by rfl)) (by rfl) T.n_tuple (by decide +kernel) (pa_cons (pv 5) pa_nil)) (pa_cons (pv 8) pa_nil))))))))))))), ?_⟩
    refine ⟨_, rfl, _, rfl, ?_⟩
    refine ⟨by show 5 ≤ sizeLine; decide, fun p1 hp2 => ?_⟩
    have g3 := Grow.newOwn (S := S0) (o := .lst ([(.int (0 : Int)), (.int (1 : Int)), (.int (1 : Int)), (.int (2 : Int)), (.int (2 : Int))])) w0.bh hp2
    have o4 := Own.new (K := K) (ds := (([(0 : Int), (1 : Int), (1 : Int), (2 : Int), (2 : Int)] : List Int)).map D.int) w0 hp2 (RepL.cons rfl (RepL.cons rfl (RepL.cons rfl (RepL.cons rfl (RepL.cons rfl RepL.nil)))))
    have w6 := w0.trans g3.of0
    have e5 := g3.bb
    have hs7 := hs0.grow0 g3
    obtain ⟨B8, w9, e10, r11, q12⟩ := freezeL w6 o4
    have hs13 := hs7.fz o4.n0 q12 hsd
    obtain ⟨t14, h15, hm⟩ := bindK nb0 hm
    try dsimp only at hm
    refine ⟨a, c, s0, B8, ([(0 : Int), (1 : Int), (1 : Int), (2 : Int), (2 : Int)] : List Int), (.ref p1), rfl, w9.bh, r11, hs13, (PostS.mk_ h15 fun v16 B17 H18 g19 hs21 r20 => ?_)⟩
    have w23 := w9.trans g19
    have e22 := g19.bb
    obtain rfl : v16 = (.int t14.2) := r20
    refine ⟨_, _, rfl, rfl, ?_⟩
    obtain ⟨t24, h25, hm⟩ := bindK nb0 hm
    try dsimp only at hm
    refine ⟨a, c, t14.1, B17, ((1 : Int) + t14.2), rfl, w23.bh, hs21, (PostLS.mk_ w23 h25 fun l32 xs33 B27 H28 hn34 g29 hs31 o35 => ?_)⟩
    have w37 := w23.trans g29
    have e36 := g29.bb
    have q38 := o35.r.asStrs
    subst q38
    obtain ⟨t39, h40, hm⟩ := bindK nb0 hm
    try dsimp only at hm
    refine ⟨l32, t24.2, rfl, (SqL.of o35.h), (sortS_ok h40).1, ?_⟩
    intro ys41 p42 pm43 so44 hn45
    obtain rfl : ys41 = t39 := (sortS_ok h40).2 ys41 pm43 so44
    have g46 := Grow.newOwn (S := S0) (o := .lst (ys41.map V.str)) w37.bh hn45
    have o47 := Own.new (K := K) (ds := ys41.map D.str) w37 hn45 (RepL.ofStrs _)
    have w49 := w37.trans g46.of0
    have e48 := g46.bb
    have o50 := o35.grow g46 (fun _ z => z.elim)
    have hs51 := hs31.grow0 g46
    have n52 : l32 ≠ p42 := ne_of_none o35.h hn45
    refine ⟨p42, (ys41.map V.str), rfl, SqL.of o47.h, fun l53 ob55 od56 hn54 => ?_⟩
    have g57 := Grow.new (S := S0) (o := (.frz ob55 (.tup (ys41.map V.str)))) w49.bh hn54
    have r58 : Rep K (upd B27 l53 (.frz ob55 (.tup (ys41.map V.str)))) ((fun (l : List Str) => D.ktup (l.map D.str)) ys41) (.ref l53) := ⟨l53, (ys41.map V.str), ob55, rfl, ⟨upd_same, od56⟩, (RepL.mono (same_upd (same_free w49.bh hn54)) (show RepL K B27 ((ys41).map D.str) _ from o47.r))⟩
    have w60 := w49.trans g57.of0
    have e59 := g57.bb
    have o61 := o50.grow g57 (fun _ z => z.elim)
    have o62 := o47.grow g57 (fun _ z => z.elim)
    have hs63 := hs51.grow0 g57
    refine ⟨_, rfl, _, rfl, ?_⟩
    obtain ⟨t64, h65, hm⟩ := bindK nb0 hm
    try dsimp only at hm
    refine ⟨a, c, t24.1, (upd B27 l53 (.frz ob55 (.tup (ys41.map V.str)))), u1, rfl, w60.bh, hs63, (PostS.mk_ h65 fun v66 B67 H68 g69 hs71 r70 => ?_)⟩
    have w73 := w60.trans g69
    have e72 := g69.bb
    have o74 := o61.grow g69 hsd
    have o75 := o62.grow g69 hsd
    obtain rfl : v66 = (.int t64.2) := r70
    refine ⟨_, _, rfl, rfl, _, rfl, _, rfl, ?_⟩
    obtain ⟨t76, h77, hm⟩ := bindK nb0 hm
    try dsimp only at hm
    refine ⟨a, c, t64.1, B67, u1, rfl, w73.bh, hs71, (PostS.mk_ h77 fun v78 B79 H80 g81 hs83 r82 => ?_)⟩
    have w85 := w73.trans g81
    have e84 := g81.bb
    have o86 := o74.grow g81 hsd
    have o87 := o75.grow g81 hsd
    obtain rfl : v78 = (.int t76.2) := r82
    refine ⟨_, _, rfl, rfl, ?_⟩
    refine ⟨by show 2 ≤ sizeLine; decide, fun T88 hT89 => ?_⟩
    have g90 := Grow.newOwn (S := S0) (o := .tup [(.int ((1 : Int) + t64.2)), (.int ((1 : Int) + t76.2))]) w85.bh hT89
    have w92 := w85.trans g90.of0
    have e91 := g90.bb
    have o93 := o86.grow g90 (fun _ z => z.elim)
    have o94 := o87.grow g90 (fun _ z => z.elim)
    have hs95 := hs83.grow0 g90
    refine ⟨T88, _, rfl, (SqT.of upd_same), rfl, _, _, rfl, _, _, rfl, rfl, ?_⟩
    refine ⟨_, rfl, _, rfl, ?_⟩
    obtain ⟨t96, h97, hm⟩ := bindK nb0 hm
    try dsimp only at hm
    refine ⟨a, c, t76.1, B79, ((1 : Int) + t64.2), rfl, w92.bh, hs95, (PostS.mk_ h97 fun v98 B99 H100 g101 hs103 r102 => ?_)⟩
    have w105 := w92.trans g101
    have e104 := g101.bb
    have o106 := o93.grow g101 hsd
    have o107 := o94.grow g101 hsd
    obtain rfl : v98 = (.int t96.2) := r102
    refine ⟨by show 1 ≤ sizeLine; decide, fun p108 hp109 => ?_⟩
    have g110 := Grow.new (S := S0) (o := (.tup [(.int t96.2)])) w105.bh hp109
    have r111 : Rep K (upd B99 p108 (.tup [(.int t96.2)])) ((fun (l : List Int) => D.tup (l.map D.int)) ([t96.2] : List Int)) (.ref p108) := ⟨p108, [(.int t96.2)], rfl, SqT.of upd_same, (RepL.mono (same_upd (same_free w105.bh hp109)) (RepL.cons rfl RepL.nil))⟩
    have w113 := w105.trans g110.of0
    have e112 := g110.bb
    have o114 := o106.grow g110 (fun _ z => z.elim)
    have o115 := o107.grow g110 (fun _ z => z.elim)
    have hs116 := hs103.grow0 g110
    refine ⟨_, rfl, _, rfl, _, rfl, ?_⟩
    obtain ⟨t117, h118, hm⟩ := bindK nb0 hm
    try dsimp only at hm
    refine ⟨a, c, t96.1, (upd B99 p108 (.tup [(.int t96.2)])), ys41, (.ref l53), ((1 : Int) + t64.2), rfl, w113.bh, (r58.mono (e72.trans (e84.trans (e91.trans (e104.trans e112))))), hs116, (PostS.mk_ h118 fun v119 B120 H121 g122 hs124 r123 => ?_)⟩
    have w126 := w113.trans g122
    have e125 := g122.bb
    have o127 := o114.grow g122 hsd
    have o128 := o115.grow g122 hsd
    refine ⟨by show 2 ≤ sizeLine; decide, fun p129 hp130 => ?_⟩
    have g131 := Grow.new (S := S0) (o := (.tup [(.ref p108), v119])) w126.bh hp130
    have r132 : Rep K (upd B120 p129 (.tup [(.ref p108), v119])) ((fun (p : ((List Int) × (List (List (Int × Int))))) => D.tup [(fun (l : List Int) => D.tup (l.map D.int)) p.1, (fun (l : List (List (Int × Int))) => D.tup (l.map (fun (l : List (Int × Int)) => D.tup (l.map (fun (p : (Int × Int)) => D.tup [D.int p.1, D.int p.2]))))) p.2]) (([t96.2] : List Int), t117.2)) (.ref p129) := ⟨p129, [(.ref p108), v119], rfl, SqT.of upd_same, (RepL.mono (same_upd (same_free w126.bh hp130)) (RepL.cons (r111.mono e125) (RepL.cons r123 RepL.nil)))⟩
    have w134 := w126.trans g131.of0
    have e133 := g131.bb
    have o135 := o127.grow g131 (fun _ z => z.elim)
    have o136 := o128.grow g131 (fun _ z => z.elim)
    have hs137 := hs124.grow0 g131
    refine ⟨by show 1 ≤ sizeLine; decide, fun p138 hp139 => ?_⟩
    have g140 := Grow.newOwn (S := S0) (o := .lst ([(.ref p129)])) w134.bh hp139
    have o141 := Own.new (K := K) (ds := (([(([t96.2] : List Int), t117.2)] : List ((List Int) × (List (List (Int × Int)))))).map (fun (p : ((List Int) × (List (List (Int × Int))))) => D.tup [(fun (l : List Int) => D.tup (l.map D.int)) p.1, (fun (l : List (List (Int × Int))) => D.tup (l.map (fun (l : List (Int × Int)) => D.tup (l.map (fun (p : (Int × Int)) => D.tup [D.int p.1, D.int p.2]))))) p.2])) w134 hp139 (RepL.cons r132 RepL.nil)
    have w143 := w134.trans g140.of0
    have e142 := g140.bb
    have o144 := o135.grow g140 (fun _ z => z.elim)
    have o145 := o136.grow g140 (fun _ z => z.elim)
    have hs146 := hs137.grow0 g140
    have n147 : l32 ≠ p138 := ne_of_none o135.h hp139
    have n148 : p42 ≠ p138 := ne_of_none o136.h hp139
    obtain ⟨K149, nb150, hm, hk151⟩ := partK nb0 hm
    refine ⟨fun σ H => ∃ (B152 : Hp) (x153 : (List ((List Int) × (List (List (Int × Int)))))) (xs154 : List V) (s155 : Src) (d156 : Option V) (d157 : Option V) (d158 : Option V) (d159 : Option V) (d160 : Option V), σ = [some (.ref a), some (.int u1), some (.ref l53), some (.int ((1 : Int) + t64.2)), some (.int ((1 : Int) + t76.2)), some (.ref p138), d156, d157, d158, d159, d160] ∧ Grow (Sx a c) B0 H0 B152 H ∧ Same (upd B120 p129 (.tup [(.ref p108), v119])) B152 ∧ Own K H0 B152 H l32 (t24.2.map V.str) ((t24.2).map D.str) ∧ Own K H0 B152 H p42 (ys41.map V.str) ((ys41).map D.str) ∧ Own K H0 B152 H p138 xs154 ((x153).map (fun (p : ((List Int) × (List (List (Int × Int))))) => D.tup [(fun (l : List Int) => D.tup (l.map D.int)) p.1, (fun (l : List (List (Int × Int))) => D.tup (l.map (fun (l : List (Int × Int)) => D.tup (l.map (fun (p : (Int × Int)) => D.tup [D.int p.1, D.int p.2]))))) p.2])) ∧ SrcAt a c B152 H s155 ∧ K149 (.ok (s155, x153)), ?_, fun σ H167 h => ?_⟩
    · skip
      refine ⟨_, rfl, ?_⟩
      obtain ⟨t168, h169, hm⟩ := bindK nb150 hm
      try dsimp only at hm
      refine ⟨a, c, t117.1, (upd B120 p129 (.tup [(.ref p108), v119])), (3 : Int), rfl, w143.bh, hs146, (PostS.mk_ h169 fun v170 B171 H172 g173 hs175 r174 => ?_)⟩
      have w177 := w143.trans g173
      have e176 := g173.bb
      have o178 := o144.grow g173 hsd
      have o179 := o145.grow g173 hsd
      have o180 := o141.grow g173 hsd
      obtain rfl : v170 = (.int t168.2) := r174
      refine ⟨_, _, rfl, rfl, _, rfl, ?_⟩
      refine ite_both hm (fun hc181 hm => ?_) (fun hc181 hm => ?_)
      · skip
        try dsimp only at hm
        refine ⟨_, rfl, ?_⟩
        obtain ⟨l182, h183, hm⟩ := bindK nb150 hm
        try dsimp only at hm
        obtain ⟨h183c, rfl⟩ := rangeR_ok h183
        refine ⟨_, rfl, h183c.2.2.1, h183c.2.2.2, ?_⟩
        intro D184 hD185
        have g186 := Grow.newOwn (S := S0) (o := .lst []) w177.bh hD185
        have o190 := Own.new (K := K) (ds := []) w177 hD185 rfl
        have w192 := w177.trans g186.of0
        have e191 := g186.bb
        have o193 := o178.grow g186 (fun _ z => z.elim)
        have o194 := o179.grow g186 (fun _ z => z.elim)
        have o195 := o180.grow g186 (fun _ z => z.elim)
        have hs196 := hs175.grow0 g186
        have n197 : l32 ≠ D184 := ne_of_none o178.h hD185
        have n198 : p42 ≠ D184 := ne_of_none o179.h hD185
        have n199 : p138 ≠ D184 := ne_of_none o180.h hD185
        obtain ⟨KL187, hm, hst188, hdn189⟩ := compK nb150 hm
        refine lc_it (walk_range (lo := 0) (n := (((1 : Int) + t64.2)).toNat)) (fun i211 H => ∃ (B200 : Hp) (x201 : (List Int)) (xs202 : List V) (s203 : Src), Grow (Sx a c) B0 H0 B200 H ∧ Same B171 B200 ∧ Own K H0 B200 H l32 (t24.2.map V.str) ((t24.2).map D.str) ∧ Own K H0 B200 H p42 (ys41.map V.str) ((ys41).map D.str) ∧ Own K H0 B200 H p138 ([(.ref p129)]) ((([(([t96.2] : List Int), t117.2)] : List ((List Int) × (List (List (Int × Int)))))).map (fun (p : ((List Int) × (List (List (Int × Int))))) => D.tup [(fun (l : List Int) => D.tup (l.map D.int)) p.1, (fun (l : List (List (Int × Int))) => D.tup (l.map (fun (l : List (Int × Int)) => D.tup (l.map (fun (p : (Int × Int)) => D.tup [D.int p.1, D.int p.2]))))) p.2])) ∧ Own K H0 B200 H D184 xs202 ((x201).map D.int) ∧ SrcAt a c B200 H s203 ∧ KL187 i211 s203 x201) ⟨B171, ([] : List Int), [], t168.1, w192, (Same.refl _), o193, o194, o195, o190, hs196, hm⟩ (fun i211 H213 _ h => ?_) (fun i211 x212 H213 H214 hi h hy => ?_) (fun H215 h => ?_)
        · skip
          obtain ⟨B200, x201, xs202, s203, w204, e205, o206, o207, o208, o209, hs210, _⟩ := h
          exact trivial
        · skip
          obtain ⟨B200, x201, xs202, s203, w204, e205, o206, o207, o208, o209, hs210, hm⟩ := h
          obtain ⟨rfl, rfl⟩ := hy
          have ha217 := rng_at1 (lo := (0 : Int)) (hi := ((1 : Int) + t64.2)) hi
          obtain ⟨hlt222, KB218, nb219, hm, hnx220, hno221⟩ := hst188 i211 _ _ _ ha217 hm
          try dsimp only at hm
          refine ⟨rfl, ?_⟩
          refine tyes_go ?_
          refine ⟨_, rfl, _, rfl, ?_⟩
          obtain ⟨t223, h224, hm⟩ := bindK nb219 hm
          try dsimp only at hm
          refine ⟨a, c, s203, B200, ((1 : Int) + t76.2), rfl, w204.bh, hs210, (PostS.mk_ h224 fun v225 B226 H227 g228 hs230 r229 => ?_)⟩
          have w232 := w204.trans g228
          have e231 := g228.bb
          have o233 := o206.grow g228 hsd
          have o234 := o207.grow g228 hsd
          have o235 := o208.grow g228 hsd
          have o236 := o209.grow g228 hsd
          obtain rfl : v225 = (.int t223.2) := r229
          refine ⟨xs202, o236.h, (lt_line (own_lt o236 hlt222)), ?_⟩
          have o237 := o236.put (es := ((x201 ++ [t223.2])).map D.int) (o236.r.snocm (a := t223.2) rfl)
          have w238 := w232.mut (o := (.lst (xs202 ++ [(.int t223.2)]))) o236.n0 o236.b o236.h (by rfl)
          have o239 := o233.other (u := (.lst (xs202 ++ [(.int t223.2)]))) n197
          have o240 := o234.other (u := (.lst (xs202 ++ [(.int t223.2)]))) n198
          have o241 := o235.other (u := (.lst (xs202 ++ [(.int t223.2)]))) n199
          have hs242 := hs230.mut (u := (.lst (xs202 ++ [(.int t223.2)]))) o236 hsd
          have hm := hnx220 _ _ hm
          exact ⟨B226, (x201 ++ [t223.2]), (xs202 ++ [(.int t223.2)]), t223.1, w238, (e205.trans e231), o239, o240, o241, o237, hs242, hm⟩
        · skip
          obtain ⟨B200, x201, xs202, s203, w204, e205, o206, o207, o208, o209, hs210, hm⟩ := h
          have hm := hdn189 _ _ _ (rng_len1 (lo := (0 : Int)) (hi := ((1 : Int) + t64.2))) hm
          try dsimp only at hm
          refine ⟨D184, xs202, rfl, .inl ⟨SqL.of o209.h, fun l243 hn244 => ?_⟩⟩
          have g245 := Grow.new (S := S0) (o := (.tup xs202)) w204.bh hn244
          have r246 : Rep K (upd B200 l243 (.tup xs202)) ((fun (l : List Int) => D.tup (l.map D.int)) x201) (.ref l243) := ⟨l243, xs202, rfl, SqT.of upd_same, (RepL.mono (same_upd (same_free w204.bh hn244)) (show RepL K B200 ((x201).map D.int) _ from o209.r))⟩
          have w248 := w204.trans g245.of0
          have e247 := g245.bb
          have o249 := o206.grow g245 (fun _ z => z.elim)
          have o250 := o207.grow g245 (fun _ z => z.elim)
          have o251 := o208.grow g245 (fun _ z => z.elim)
          have o252 := o209.grow g245 (fun _ z => z.elim)
          have hs253 := hs210.grow0 g245
          refine ⟨_, rfl, (.inl ⟨rfl, _, SqL.of o251.h⟩), _, rfl, _, rfl, _, rfl, _, rfl, ?_⟩
          obtain ⟨t254, h255, hm⟩ := bindK nb150 hm
          try dsimp only at hm
          refine ⟨a, c, s203, (upd B200 l243 (.tup xs202)), ys41, (.ref l53), ((1 : Int) + t76.2), rfl, w248.bh, (r58.mono (e72.trans (e84.trans (e91.trans (e104.trans (e112.trans (e125.trans (e133.trans (e142.trans (e176.trans (e191.trans (e205.trans e247)))))))))))), hs253, (PostS.mk_ h255 fun v256 B257 H258 g259 hs261 r260 => ?_)⟩
          have w263 := w248.trans g259
          have e262 := g259.bb
          have o264 := o249.grow g259 hsd
          have o265 := o250.grow g259 hsd
          have o266 := o251.grow g259 hsd
          have o267 := o252.grow g259 hsd
          refine ⟨by show 2 ≤ sizeLine; decide, fun p268 hp269 => ?_⟩
          have g270 := Grow.new (S := S0) (o := (.tup [(.ref l243), v256])) w263.bh hp269
          have r271 : Rep K (upd B257 p268 (.tup [(.ref l243), v256])) ((fun (p : ((List Int) × (List (List (Int × Int))))) => D.tup [(fun (l : List Int) => D.tup (l.map D.int)) p.1, (fun (l : List (List (Int × Int))) => D.tup (l.map (fun (l : List (Int × Int)) => D.tup (l.map (fun (p : (Int × Int)) => D.tup [D.int p.1, D.int p.2]))))) p.2]) (x201, t254.2)) (.ref p268) := ⟨p268, [(.ref l243), v256], rfl, SqT.of upd_same, (RepL.mono (same_upd (same_free w263.bh hp269)) (RepL.cons (r246.mono e262) (RepL.cons r260 RepL.nil)))⟩
          have w273 := w263.trans g270.of0
          have e272 := g270.bb
          have o274 := o264.grow g270 (fun _ z => z.elim)
          have o275 := o265.grow g270 (fun _ z => z.elim)
          have o276 := o266.grow g270 (fun _ z => z.elim)
          have o277 := o267.grow g270 (fun _ z => z.elim)
          have hs278 := hs261.grow0 g270
          obtain ⟨t279, h280, hm⟩ := bindK nb150 hm
          try dsimp only at hm
          refine ⟨p138, ([(.ref p129)]), _, rfl, rfl, o276.h, (lt_line (own_lt o276 (lenG_ok h280))), ?_⟩
          have o281 := o276.put (es := ((([(([t96.2] : List Int), t117.2)] : List ((List Int) × (List (List (Int × Int))))) ++ [(x201, t254.2)])).map (fun (p : ((List Int) × (List (List (Int × Int))))) => D.tup [(fun (l : List Int) => D.tup (l.map D.int)) p.1, (fun (l : List (List (Int × Int))) => D.tup (l.map (fun (l : List (Int × Int)) => D.tup (l.map (fun (p : (Int × Int)) => D.tup [D.int p.1, D.int p.2]))))) p.2])) (o276.r.snocm (a := (x201, t254.2)) r271)
          have w282 := w273.mut (o := (.lst (([(.ref p129)]) ++ [(.ref p268)]))) o276.n0 o276.b o276.h (by rfl)
          have o283 := o274.other (u := (.lst (([(.ref p129)]) ++ [(.ref p268)]))) n147
          have o284 := o275.other (u := (.lst (([(.ref p129)]) ++ [(.ref p268)]))) n148
          have o285 := o277.other (u := (.lst (([(.ref p129)]) ++ [(.ref p268)]))) (Ne.symm n199)
          have hs286 := hs278.mut (u := (.lst (([(.ref p129)]) ++ [(.ref p268)]))) o276 hsd
          exact ⟨(upd B257 p268 (.tup [(.ref l243), v256])), (([(([t96.2] : List Int), t117.2)] : List ((List Int) × (List (List (Int × Int))))) ++ [(x201, t254.2)]), (([(.ref p129)]) ++ [(.ref p268)]), t254.1, _, _, _, _, _, rfl, w282, (e176.trans (e191.trans (e205.trans (e247.trans (e262.trans e272))))), o283, o284, o281, hs286, hm⟩
      · skip
        try dsimp only at hm
        exact ⟨B171, ([(([t96.2] : List Int), t117.2)] : List ((List Int) × (List (List (Int × Int))))), ([(.ref p129)]), t168.1, _, _, _, _, _, rfl, w177, e176, o178, o179, o180, hs175, hm⟩
    · skip
      obtain ⟨B152, x153, xs154, s155, d156, d157, d158, d159, d160, rfl, w161, e162, o163, o164, o165, hs166, hm⟩ := h
      have hm := hk151 _ hm
      try dsimp only at hm
      refine ⟨_, rfl, ?_⟩
      obtain ⟨t288, h289, hm⟩ := bindK nb0 hm
      try dsimp only at hm
      refine ⟨a, c, s155, B152, (2 : Int), rfl, w161.bh, hs166, (PostLS.mk_ w161 h289 fun l296 xs297 B291 H292 hn298 g293 hs295 o299 => ?_)⟩
      have w301 := w161.trans g293
      have e300 := g293.bb
      have o302 := o163.grow g293 hsd
      have o303 := o164.grow g293 hsd
      have o304 := o165.grow g293 hsd
      have n305 : l32 ≠ l296 := ne_of_none o163.h hn298
      have n306 : p42 ≠ l296 := ne_of_none o164.h hn298
      have n307 : p138 ≠ l296 := ne_of_none o165.h hn298
      obtain ⟨B308, w309, e310, r311, q312⟩ := freezeL w301 o299
      have o313 := o302.fz e310 q312 n305
      have o314 := o303.fz e310 q312 n306
      have o315 := o304.fz e310 q312 n307
      have hs316 := hs295.fz o299.n0 q312 hsd
      refine ⟨_, rfl, _, rfl, ?_⟩
      obtain ⟨t317, h318, hm⟩ := bindK nb0 hm
      try dsimp only at hm
      refine rixO (em := (fun (p : ((List Int) × (List (List (Int × Int))))) => D.tup [(fun (l : List Int) => D.tup (l.map D.int)) p.1, (fun (l : List (List (Int × Int))) => D.tup (l.map (fun (l : List (Int × Int)) => D.tup (l.map (fun (p : (Int × Int)) => D.tup [D.int p.1, D.int p.2]))))) p.2])) o315 h318 (fun v319 r320 => ?_)
      refine tc_go ?_
      refine rixF (i := (1 : Int)) (d := (fun (l : List (List (Int × Int))) => D.tup (l.map (fun (l : List (Int × Int)) => D.tup (l.map (fun (p : (Int × Int)) => D.tup [D.int p.1, D.int p.2]))))) t317.2) r320 w309.bh (by rfl) (fun v321 r322 => ?_)
      obtain ⟨p323, x324, ev327, hp325, rl326⟩ := id r322
      subst ev327
      refine ⟨p323, rfl, ⟨x324, (same_t w309.bh hp325)⟩, ?_⟩
      intro D328 hD329
      have g330 := Grow.newOwn (S := S0) (o := .lst []) w309.bh hD329
      have o334 := Own.new (K := K) (ds := []) w309 hD329 rfl
      have w336 := w309.trans g330.of0
      have e335 := g330.bb
      have o337 := o313.grow g330 (fun _ z => z.elim)
      have o338 := o314.grow g330 (fun _ z => z.elim)
      have o339 := o315.grow g330 (fun _ z => z.elim)
      have hs340 := hs316.grow0 g330
      have n341 : l32 ≠ D328 := ne_of_none o313.h hD329
      have n342 : p42 ≠ D328 := ne_of_none o314.h hD329
      have n343 : p138 ≠ D328 := ne_of_none o315.h hD329
      obtain ⟨KL331, hm, hst332, hdn333⟩ := compK nb0 hm
      refine lc_it (walk_tup (K := K) (a := p323) (xs := x324)) (fun i355 H => ∃ (B344 : Hp) (x345 : (List (Str × Int))) (xs346 : List V) (s347 : Src), Grow (Sx a c) B0 H0 B344 H ∧ Same B308 B344 ∧ Own K H0 B344 H l32 (t24.2.map V.str) ((t24.2).map D.str) ∧ Own K H0 B344 H p42 (ys41.map V.str) ((ys41).map D.str) ∧ Own K H0 B344 H p138 xs154 ((x153).map (fun (p : ((List Int) × (List (List (Int × Int))))) => D.tup [(fun (l : List Int) => D.tup (l.map D.int)) p.1, (fun (l : List (List (Int × Int))) => D.tup (l.map (fun (l : List (Int × Int)) => D.tup (l.map (fun (p : (Int × Int)) => D.tup [D.int p.1, D.int p.2]))))) p.2])) ∧ Own K H0 B344 H D328 xs346 ((x345).map (fun (p : (Str × Int)) => D.tup [D.str p.1, D.int p.2])) ∧ SrcAt a c B344 H s347 ∧ KL331 i355 s347 x345) ⟨B308, ([] : List (Str × Int)), [], t288.1, w336, (Same.refl _), o337, o338, o339, o334, hs340, hm⟩ (fun i355 H357 _ h => ?_) (fun i355 x356 H357 H358 hi h hy => ?_) (fun H359 h => ?_)
      · skip
        obtain ⟨B344, x345, xs346, s347, w348, e349, o350, o351, o352, o353, hs354, _⟩ := h
        exact (same_t w348.bh (same_t (e335.trans e349) hp325))
      · skip
        obtain ⟨B344, x345, xs346, s347, w348, e349, o350, o351, o352, o353, hs354, hm⟩ := h
        obtain ⟨rfl, q363⟩ := hy
        obtain ⟨a360, ha361, r362⟩ := RepL.getm rl326 q363
        obtain ⟨hlt368, KB364, nb365, hm, hnx366, hno367⟩ := hst332 i355 _ _ _ ha361 hm
        try dsimp only at hm
        refine ⟨rfl, ?_⟩
        refine tyes_go ?_
        refine ⟨_, rfl, _, rfl, ?_⟩
        obtain ⟨t369, h370, hm⟩ := bindK nb365 hm
        try dsimp only at hm
        refine ⟨a, c, s347, B344, t288.2, (.ref l296), rfl, w348.bh, (r311.mono (e335.trans e349)), hs354, (PostS.mk_ h370 fun v371 B372 H373 g374 hs376 r375 => ?_)⟩
        have w378 := w348.trans g374
        have e377 := g374.bb
        have o379 := o350.grow g374 hsd
        have o380 := o351.grow g374 hsd
        have o381 := o352.grow g374 hsd
        have o382 := o353.grow g374 hsd
        obtain rfl : v371 = (.str t369.2) := r375
        refine ⟨_, rfl, ?_⟩
        obtain ⟨t383, h384, hm⟩ := bindK nb365 hm
        try dsimp only at hm
        refine ⟨a, c, t369.1, B372, rfl, w378.bh, hs376, (PostS.mk_ h384 fun v385 B386 H387 g388 hs390 r389 => ?_)⟩
        have w392 := w378.trans g388
        have e391 := g388.bb
        have o393 := o379.grow g388 hsd
        have o394 := o380.grow g388 hsd
        have o395 := o381.grow g388 hsd
        have o396 := o382.grow g388 hsd
        obtain rfl : v385 = (.int t383.2) := r389
        refine ⟨by show 2 ≤ sizeLine; decide, fun p397 hp398 => ?_⟩
        have g399 := Grow.new (S := S0) (o := (.tup [(.str t369.2), (.int t383.2)])) w392.bh hp398
        have r400 : Rep K (upd B386 p397 (.tup [(.str t369.2), (.int t383.2)])) ((fun (p : (Str × Int)) => D.tup [D.str p.1, D.int p.2]) (t369.2, t383.2)) (.ref p397) := ⟨p397, [(.str t369.2), (.int t383.2)], rfl, SqT.of upd_same, (RepL.mono (same_upd (same_free w392.bh hp398)) (RepL.cons rfl (RepL.cons rfl RepL.nil)))⟩
        have w402 := w392.trans g399.of0
        have e401 := g399.bb
        have o403 := o393.grow g399 (fun _ z => z.elim)
        have o404 := o394.grow g399 (fun _ z => z.elim)
        have o405 := o395.grow g399 (fun _ z => z.elim)
        have o406 := o396.grow g399 (fun _ z => z.elim)
        have hs407 := hs390.grow0 g399
        refine ⟨xs346, o406.h, (lt_line (own_lt o406 hlt368)), ?_⟩
        have o408 := o406.put (es := ((x345 ++ [(t369.2, t383.2)])).map (fun (p : (Str × Int)) => D.tup [D.str p.1, D.int p.2])) (o406.r.snocm (a := (t369.2, t383.2)) r400)
        have w409 := w402.mut (o := (.lst (xs346 ++ [(.ref p397)]))) o406.n0 o406.b o406.h (by rfl)
        have o410 := o403.other (u := (.lst (xs346 ++ [(.ref p397)]))) n341
        have o411 := o404.other (u := (.lst (xs346 ++ [(.ref p397)]))) n342
        have o412 := o405.other (u := (.lst (xs346 ++ [(.ref p397)]))) n343
        have hs413 := hs407.mut (u := (.lst (xs346 ++ [(.ref p397)]))) o406 hsd
        have hm := hnx366 _ _ hm
        exact ⟨(upd B386 p397 (.tup [(.str t369.2), (.int t383.2)])), (x345 ++ [(t369.2, t383.2)]), (xs346 ++ [(.ref p397)]), t383.1, w409, (e349.trans (e377.trans (e391.trans e401))), o410, o411, o412, o408, hs413, hm⟩
      · skip
        obtain ⟨B344, x345, xs346, s347, w348, e349, o350, o351, o352, o353, hs354, hm⟩ := h
        have hm := hdn333 _ _ _ (Nat.le_of_eq (RepL.lenm rl326).symm) hm
        try dsimp only at hm
        refine ⟨D328, xs346, rfl, .inl ⟨SqL.of o353.h, fun l414 hn415 => ?_⟩⟩
        have g416 := Grow.new (S := S0) (o := (.tup xs346)) w348.bh hn415
        have r417 : Rep K (upd B344 l414 (.tup xs346)) ((fun (l : List (Str × Int)) => D.tup (l.map (fun (p : (Str × Int)) => D.tup [D.str p.1, D.int p.2]))) x345) (.ref l414) := ⟨l414, xs346, rfl, SqT.of upd_same, (RepL.mono (same_upd (same_free w348.bh hn415)) (show RepL K B344 ((x345).map (fun (p : (Str × Int)) => D.tup [D.str p.1, D.int p.2])) _ from o353.r))⟩
        have w419 := w348.trans g416.of0
        have e418 := g416.bb
        have o420 := o350.grow g416 (fun _ z => z.elim)
        have o421 := o351.grow g416 (fun _ z => z.elim)
        have o422 := o352.grow g416 (fun _ z => z.elim)
        have o423 := o353.grow g416 (fun _ z => z.elim)
        have hs424 := hs354.grow0 g416
        refine ⟨_, rfl, _, rfl, ?_⟩
        refine ⟨p138, xs154, rfl, .inl ⟨SqL.of o422.h, fun l425 hn426 => ?_⟩⟩
        have g427 := Grow.new (S := S0) (o := (.tup xs154)) w419.bh hn426
        have r428 : Rep K (upd (upd B344 l414 (.tup xs346)) l425 (.tup xs154)) ((fun (l : List ((List Int) × (List (List (Int × Int))))) => D.tup (l.map (fun (p : ((List Int) × (List (List (Int × Int))))) => D.tup [(fun (l : List Int) => D.tup (l.map D.int)) p.1, (fun (l : List (List (Int × Int))) => D.tup (l.map (fun (l : List (Int × Int)) => D.tup (l.map (fun (p : (Int × Int)) => D.tup [D.int p.1, D.int p.2]))))) p.2]))) x153) (.ref l425) := ⟨l425, xs154, rfl, SqT.of upd_same, (RepL.mono (same_upd (same_free w419.bh hn426)) (show RepL K (upd B344 l414 (.tup xs346)) ((x153).map (fun (p : ((List Int) × (List (List (Int × Int))))) => D.tup [(fun (l : List Int) => D.tup (l.map D.int)) p.1, (fun (l : List (List (Int × Int))) => D.tup (l.map (fun (l : List (Int × Int)) => D.tup (l.map (fun (p : (Int × Int)) => D.tup [D.int p.1, D.int p.2]))))) p.2])) _ from o422.r))⟩
        have w430 := w419.trans g427.of0
        have e429 := g427.bb
        have o431 := o420.grow g427 (fun _ z => z.elim)
        have o432 := o421.grow g427 (fun _ z => z.elim)
        have o433 := o422.grow g427 (fun _ z => z.elim)
        have o434 := o423.grow g427 (fun _ z => z.elim)
        have hs435 := hs424.grow0 g427
        refine ⟨_, rfl, ?_⟩
        refine ⟨by show 3 ≤ sizeLine; decide, fun p436 hp437 => ?_⟩
        have g438 := Grow.new (S := S0) (o := (.tup [(.ref l53), (.ref l425), (.ref l414)])) w430.bh hp437
        have r439 : Rep K (upd (upd (upd B344 l414 (.tup xs346)) l425 (.tup xs154)) p436 (.tup [(.ref l53), (.ref l425), (.ref l414)])) ((fun (p : ((List Str) × (List ((List Int) × (List (List (Int × Int))))) × (List (Str × Int)))) => D.tup [(fun (l : List Str) => D.ktup (l.map D.str)) p.1, (fun (l : List ((List Int) × (List (List (Int × Int))))) => D.tup (l.map (fun (p : ((List Int) × (List (List (Int × Int))))) => D.tup [(fun (l : List Int) => D.tup (l.map D.int)) p.1, (fun (l : List (List (Int × Int))) => D.tup (l.map (fun (l : List (Int × Int)) => D.tup (l.map (fun (p : (Int × Int)) => D.tup [D.int p.1, D.int p.2]))))) p.2]))) p.2.1, (fun (l : List (Str × Int)) => D.tup (l.map (fun (p : (Str × Int)) => D.tup [D.str p.1, D.int p.2]))) p.2.2]) (ys41, x153, x345)) (.ref p436) := ⟨p436, [(.ref l53), (.ref l425), (.ref l414)], rfl, SqT.of upd_same, (RepL.mono (same_upd (same_free w430.bh hp437)) (RepL.cons (r58.mono (e72.trans (e84.trans (e91.trans (e104.trans (e112.trans (e125.trans (e133.trans (e142.trans (e162.trans (e300.trans (e310.trans (e335.trans (e349.trans (e418.trans e429))))))))))))))) (RepL.cons r428 (RepL.cons (r417.mono e429) RepL.nil))))⟩
        have w441 := w430.trans g438.of0
        have e440 := g438.bb
        have o442 := o431.grow g438 (fun _ z => z.elim)
        have o443 := o432.grow g438 (fun _ z => z.elim)
        have o444 := o433.grow g438 (fun _ z => z.elim)
        have o445 := o434.grow g438 (fun _ z => z.elim)
        have hs446 := hs435.grow0 g438
        exact fin _ _ hm (.ref p436) (upd (upd (upd B344 l414 (.tup xs346)) l425 (.tup xs154)) p436 (.tup [(.ref l53), (.ref l425), (.ref l414)])) (upd (upd (upd H359 l414 (.tup xs346)) l425 (.tup xs154)) p436 (.tup [(.ref l53), (.ref l425), (.ref l414)])) w441 hs446 r439

theorem sc_is_name : FnScope ["thing", "sign"] ["thing"] (defScope (top 11)) := ⟨rfl, rfl, rfl, by decide +kernel, rfl, by decide +kernel, by decide +kernel⟩
theorem ok_is_name (T : Txt K mg) : FnOk P w K mg base CX0 1 T.a_is_name T.f_is_name ["thing"] (sp_is_name K T.a_Program) := by
  refine T.d_is_name.ok sc_is_name (fun vs H Q E h => ?_) (fun cdv A outer s H0 vs Q E hr h => ?_)
  · obtain ⟨_, _, rfl, _⟩ := h
    rfl
  · obtain ⟨B0, u0, rfl, bh0, hmp⟩ := h
    obtain ⟨K0, nb0, hm, fin⟩ := hmp.open_
    unfold m_is_name at hm
    try dsimp only at hm
    have w0 : Grow S0 B0 H0 B0 H0 := Grow.refl bh0
    refine ⟨_, PSs.nox ((pss_cons (ps_if (PW.pt (pw_or (pt_not (pt_val (pe_callB (call_isi' (K := K) (by rfl)) (by rfl) T.n_isinstance (by decide +kernel) (pa_cons (pv 0) (pa_cons (pe_bltn (v := .ty "str") (by rfl) T.n_str (by decide +kernel) rfl) pa_nil))))) (pw_or1 (pt_not (pt_chain op_le op_le pe_int (pe_callB call_len_str (by rfl) T.n_len (by decide +kernel) (pa_cons (pv 0) pa_nil)) (pe_glob (v := .int 8) (by rfl) T.c_MOST_LETTERS.choose_spec ⟨_, rfl⟩)))))) (pss_one (ps_ret pe_bl)) pss_nil)
      (pss_one (ps_ret (pe_callB (cr_all' (K := K) (by rfl) rfl) (by rfl) T.n_all (by decide +kernel) (pa_cons (pe_lc (own := [("sign", 1)]) rfl sc_is_name.nd (pi_str (pv 0)) (blkOk_by (own := [("sign", 1)]) (N := ["thing", "sign"]) (sc := defScope (top 11)) (by decide +kernel)) (fun _ _ _ _ _ => (pg_name (i := 1) sc_is_name.nd rfl (Or.inl rfl))) (fun _ _ _ _ _ => pts_nil) (fun _ _ _ _ _ => (pe_cmpR op_in_sign (pv 1) (pe_glob (v := .str ("abcdefghijklmnopqrstuvwxyz" : Str)) (by rfl) T.c_LETTERS.choose_spec ⟨_, rfl⟩) rfl))) pa_nil)))))), ?_⟩
    refine ⟨_, rfl, _, _, _, _, true, rfl, .ty _, (.base (.str _)), kit_ty (by decide +kernel), ?_⟩
    refine ⟨_, rfl, ?_⟩
    show if (!true) = true then _ else _
    refine iteF ?_
    refine ⟨_, rfl, ?_⟩
    obtain ⟨t1, h2, hm⟩ := bindK nb0 hm
    try dsimp only at hm
    obtain ⟨h2c, rfl⟩ := lenS_ok h2
    refine ⟨_, rfl, h2c, _, _, rfl, rfl, _, rfl, ?_⟩
    refine ite_both hm (fun hc3 hm => ?_) (fun hc3 hm => ?_)
    · skip
      try dsimp only at hm
      refine ⟨_, _, rfl, rfl, _, rfl, ?_⟩
      refine ite_both hm (fun hc4 hm => ?_) (fun hc4 hm => ?_)
      · skip
        try dsimp only at hm
        exact fin _ hm (.bl false) B0 H0 w0 rfl
      · skip
        try dsimp only at hm
        refine ⟨_, rfl, _, rfl, ?_⟩
        intro D5 hD6
        have g7 := Grow.newOwn (S := S0) (o := .lst []) w0.bh hD6
        have o11 := Own.new (K := K) (ds := []) w0 hD6 rfl
        have w13 := w0.trans g7
        have e12 := g7.bb
        obtain ⟨KL8, hm, hst9, hdn10⟩ := compK nb0 hm
        refine lc_it (walk_str (z := u0)) (fun i20 H => ∃ (B14 : Hp) (x15 : (List Bool)) (xs16 : List V), Grow S0 B0 H0 B14 H ∧ Same B0 B14 ∧ Own K H0 B14 H D5 xs16 ((x15).map D.bl) ∧ KL8 i20 () x15) ⟨B0, ([] : List Bool), [], w13, (Same.refl _), o11, hm⟩ (fun i20 H22 _ h => ?_) (fun i20 x21 H22 H23 hi h hy => ?_) (fun H24 h => ?_)
        · skip
          obtain ⟨B14, x15, xs16, w17, e18, o19, _⟩ := h
          exact trivial
        · skip
          obtain ⟨B14, x15, xs16, w17, e18, o19, hm⟩ := h
          obtain ⟨rfl, c25, hc26, rfl⟩ := hy
          have ha27 := sgn_at hc26
          obtain ⟨hlt32, KB28, nb29, hm, hnx30, hno31⟩ := hst9 i20 _ _ _ ha27 hm
          try dsimp only at hm
          refine ⟨rfl, ?_⟩
          refine tyes_go ?_
          refine ⟨_, rfl, _, _, rfl, rfl, ?_⟩
          refine ⟨xs16, o19.h, (lt_line (own_lt o19 hlt32)), ?_⟩
          have o33 := o19.put (es := ((x15 ++ [(decide (c25 ∈ ("abcdefghijklmnopqrstuvwxyz" : Str).cps.toList))])).map D.bl) (o19.r.snocm (a := (decide (c25 ∈ ("abcdefghijklmnopqrstuvwxyz" : Str).cps.toList))) rfl)
          have w34 := w17.mut (o := (.lst (xs16 ++ [(.bl (decide (c25 ∈ ("abcdefghijklmnopqrstuvwxyz" : Str).cps.toList)))]))) o19.n0 o19.b o19.h (by rfl)
          have hm := hnx30 _ _ hm
          exact ⟨B14, (x15 ++ [(decide (c25 ∈ ("abcdefghijklmnopqrstuvwxyz" : Str).cps.toList))]), (xs16 ++ [(.bl (decide (c25 ∈ ("abcdefghijklmnopqrstuvwxyz" : Str).cps.toList)))]), w34, e18, o33, hm⟩
        · skip
          obtain ⟨B14, x15, xs16, w17, e18, o19, hm⟩ := h
          have hm := hdn10 _ _ _ (sgn_len u0) hm
          try dsimp only at hm
          have q35 := o19.r.asBools
          subst q35
          refine ⟨D5, x15, rfl, (SqL.of o19.h), ?_⟩
          exact fin _ hm (.bl (x15.all id)) B14 H24 w17 rfl
    · skip
      try dsimp only at hm
      refine ⟨_, rfl, ?_⟩
      show if (!false) = true then _ else _
      refine iteT ?_
      exact fin _ hm (.bl false) B0 H0 w0 rfl

theorem sc_are_kinds : FnScope ["thing", "one", "other"] ["thing"] (defScope (top 12)) := ⟨rfl, rfl, rfl, by decide +kernel, rfl, by decide +kernel, by decide +kernel⟩
theorem ok_are_kinds (T : Txt K mg) : FnOk P w K mg base CX0 2 T.a_are_kinds T.f_are_kinds ["thing"] (sp_are_kinds K T.a_Program) := by
  refine T.d_are_kinds.ok sc_are_kinds (fun vs H Q E h => ?_) (fun cdv A outer s H0 vs Q E hr h => ?_)
  · obtain ⟨_, _, _, rfl, _⟩ := h
    rfl
  · obtain ⟨B0, u0, vv0, rfl, bh0, rr0, hmp⟩ := h
    obtain ⟨K0, nb0, hm, fin⟩ := hmp.open_
    unfold m_are_kinds at hm
    try dsimp only at hm
    have w0 : Grow S0 B0 H0 B0 H0 := Grow.refl bh0
    refine ⟨_, PSs.nox ((pss_cons (ps_if (PW.pt (pw_or (pt_not (pt_val (pe_callB (call_isi' (K := K) (by rfl)) (by rfl) T.n_isinstance (by decide +kernel) (pa_cons (pv 0) (pa_cons (pe_bltn (v := .ty "tuple") (by rfl) T.n_tuple (by decide +kernel) rfl) pa_nil))))) (pw_or1 (pt_not (pt_chain op_le op_le pe_int (pe_callB (call_len_seq' (K := K) (by rfl)) (by rfl) T.n_len (by decide +kernel) (pa_cons (pv 0) pa_nil)) (pe_glob (v := .int 4) (by rfl) T.c_MOST_KINDS.choose_spec ⟨_, rfl⟩)))))) (pss_one (ps_ret pe_bl)) pss_nil)
      (pss_cons (ps_if (pt_not (pt_val (pe_callB (cr_all' (K := K) (by rfl) rfl) (by rfl) T.n_all (by decide +kernel) (pa_cons (pe_lc (own := [("one", 1)]) rfl sc_are_kinds.nd (pi_tup' (K := K) (by rfl) (pv 0)) (blkOk_by (own := [("one", 1)]) (N := ["thing", "one", "other"]) (sc := defScope (top 12)) (by decide +kernel)) (fun _ _ _ _ _ => (pg_name (i := 1) sc_are_kinds.nd rfl (Or.inl rfl))) (fun _ _ _ _ _ => pts_nil) (fun _ _ _ _ _ => (pe_call (ok_is_name T) (hr.mono (by decide)) (by rfl) T.g_is_name T.d_is_name.kp T.b_is_name .nil pass0 (pa_cons (pv 1) pa_nil)))) pa_nil)))) (pss_one (ps_ret pe_bl)) pss_nil)
      (pss_one (ps_ret (pe_callB (cr_all' (K := K) (by rfl) rfl) (by rfl) T.n_all (by decide +kernel) (pa_cons (pe_lc (own := [("one", 1), ("other", 2)]) rfl sc_are_kinds.nd (pi_zipA' (K := K) (by rfl) (by rfl) T.n_zip (pa_cons (pv 0) (pa_cons (pe_slice (sl_tupA' (K := K) (by rfl)) (pv 0) (po_some pe_int) po_none) pa_nil))) (blkOk_by (own := [("one", 1), ("other", 2)]) (N := ["thing", "one", "other"]) (sc := defScope (top 12)) (by decide +kernel)) (fun _ _ _ _ _ => (pg_tup' (K := K) (n := 2) (by rfl) rfl (pgs_cons (pg_name (i := 1) sc_are_kinds.nd rfl (Or.inl rfl)) (pgs_cons (pg_name (i := 2) sc_are_kinds.nd rfl (Or.inl rfl)) pgs_nil)))) (fun _ _ _ _ _ => pts_nil) (fun _ _ _ _ _ => (pe_cmpR op_lt_str (pv 1) (pv 2) (nomark _)))) pa_nil))))))), ?_⟩
    refine ⟨_, rfl, ?_⟩
    obtain ⟨p1, x2, ev5, hp3, rl4⟩ := id (Rep.k2t rr0)
    subst ev5
    refine ⟨_, _, _, _, true, rfl, .ty _, (tyX_tuple (same_t w0.bh hp3)), kit_ty (by decide +kernel), ?_⟩
    refine ⟨_, rfl, ?_⟩
    show if (!true) = true then _ else _
    refine iteF ?_
    refine ⟨_, rfl, ?_⟩
    obtain ⟨p6, x7, ev10, hp8, rl9⟩ := id (Rep.k2t rr0)
    cases ev10
    refine ⟨p1, x7, rfl, (.inr (same_t w0.bh hp8)), ?_⟩
    rw [RepL.lenm rl9]
    refine ⟨_, _, rfl, rfl, _, rfl, ?_⟩
    refine ite_both hm (fun hc11 hm => ?_) (fun hc11 hm => ?_)
    · skip
      try dsimp only at hm
      refine ⟨_, _, rfl, rfl, _, rfl, ?_⟩
      refine ite_both hm (fun hc12 hm => ?_) (fun hc12 hm => ?_)
      · skip
        try dsimp only at hm
        exact fin _ hm (.bl false) B0 H0 w0 rfl
      · skip
        try dsimp only at hm
        refine ⟨_, rfl, ?_⟩
        obtain ⟨p13, x14, ev17, hp15, rl16⟩ := id (Rep.k2t rr0)
        cases ev17
        refine ⟨p1, rfl, ⟨x14, (same_t w0.bh hp15)⟩, ?_⟩
        intro D18 hD19
        have g20 := Grow.newOwn (S := S0) (o := .lst []) w0.bh hD19
        have o24 := Own.new (K := K) (ds := []) w0 hD19 rfl
        have w26 := w0.trans g20
        have e25 := g20.bb
        obtain ⟨KL21, hm, hst22, hdn23⟩ := compK nb0 hm
        refine lc_it (walk_tup (K := K) (a := p1) (xs := x14)) (fun i33 H => ∃ (B27 : Hp) (x28 : (List Bool)) (xs29 : List V), Grow S0 B0 H0 B27 H ∧ Same B0 B27 ∧ Own K H0 B27 H D18 xs29 ((x28).map D.bl) ∧ KL21 i33 () x28) ⟨B0, ([] : List Bool), [], w26, (Same.refl _), o24, hm⟩ (fun i33 H35 _ h => ?_) (fun i33 x34 H35 H36 hi h hy => ?_) (fun H37 h => ?_)
        · skip
          obtain ⟨B27, x28, xs29, w30, e31, o32, _⟩ := h
          exact (same_t w30.bh (same_t (e25.trans e31) hp15))
        · skip
          obtain ⟨B27, x28, xs29, w30, e31, o32, hm⟩ := h
          obtain ⟨rfl, q41⟩ := hy
          obtain ⟨a38, ha39, r40⟩ := RepL.getm rl16 q41
          obtain ⟨hlt46, KB42, nb43, hm, hnx44, hno45⟩ := hst22 i33 _ _ _ ha39 hm
          try dsimp only at hm
          obtain rfl : x34 = (.str a38) := r40
          refine ⟨rfl, ?_⟩
          refine tyes_go ?_
          refine ⟨_, rfl, ?_⟩
          obtain ⟨t47, h48, hm⟩ := bindK nb43 hm
          try dsimp only at hm
          refine ⟨B27, a38, rfl, w30.bh, (Post.mk_ h48 fun v49 B50 H51 g52 r53 => ?_)⟩
          have w55 := w30.trans g52
          have e54 := g52.bb
          have o56 := o32.grow g52 (fun _ z => z.elim)
          obtain rfl : v49 = (.bl t47) := r53
          refine ⟨xs29, o56.h, (lt_line (own_lt o56 hlt46)), ?_⟩
          have o57 := o56.put (es := ((x28 ++ [t47])).map D.bl) (o56.r.snocm (a := t47) rfl)
          have w58 := w55.mut (o := (.lst (xs29 ++ [(.bl t47)]))) o56.n0 o56.b o56.h (by rfl)
          have hm := hnx44 _ _ hm
          exact ⟨B50, (x28 ++ [t47]), (xs29 ++ [(.bl t47)]), w58, (e31.trans e54), o57, hm⟩
        · skip
          obtain ⟨B27, x28, xs29, w30, e31, o32, hm⟩ := h
          have hm := hdn23 _ _ _ (Nat.le_of_eq (RepL.lenm rl16).symm) hm
          try dsimp only at hm
          have q59 := o32.r.asBools
          subst q59
          refine ⟨D18, x28, rfl, (SqL.of o32.h), _, rfl, ?_⟩
          refine ite_both hm (fun hc60 hm => ?_) (fun hc60 hm => ?_)
          · skip
            try dsimp only at hm
            exact fin _ hm (.bl false) B27 H37 w30 rfl
          · skip
            try dsimp only at hm
            refine ⟨_, rfl, _, rfl, _, rfl, ?_⟩
            refine tn_go ?_
            refine rslT (em := D.str) (l := u0) (lo := (some (1 : Int))) (hi := none) w30.bh (Rep.k2t (rr0.mono (e25.trans e31))) (fun v61 B62 H63 g64 r65 => ?_)
            have w67 := w30.trans g64
            have e66 := g64.bb
            have o68 := o32.grow g64 (fun _ z => z.elim)
            obtain ⟨p69, x70, ev73, hp71, rl72⟩ := id (Rep.k2t (rr0.mono (e25.trans (e31.trans e66))))
            cases ev73
            obtain ⟨p74, x75, ev78, hp76, rl77⟩ := id r65
            subst ev78
            refine ⟨p1, p74, x70, x75, rfl, ?_⟩
            refine .inr ⟨(same_t w67.bh hp71), (same_t w67.bh hp76), ?_⟩
            intro D79 hD80
            have g81 := Grow.newOwn (S := S0) (o := .lst []) w67.bh hD80
            have o85 := Own.new (K := K) (ds := []) w67 hD80 rfl
            have w87 := w67.trans g81
            have e86 := g81.bb
            have o88 := o68.grow g81 (fun _ z => z.elim)
            have n89 : D18 ≠ D79 := ne_of_none o68.h hD80
            obtain ⟨KL82, hm, hst83, hdn84⟩ := compK nb0 hm
            refine lc_it (walk_zipT (K := K) (a := p1) (b := p74) (xs := x70) (ys := x75) rfl) (fun i97 H => ∃ (B90 : Hp) (x91 : (List Bool)) (xs92 : List V), Grow S0 B0 H0 B90 H ∧ Same B62 B90 ∧ Own K H0 B90 H D18 (x28.map V.bl) ((x28).map D.bl) ∧ Own K H0 B90 H D79 xs92 ((x91).map D.bl) ∧ KL82 i97 () x91) ⟨B62, ([] : List Bool), [], w87, (Same.refl _), o88, o85, hm⟩ (fun i97 H99 _ h => ?_) (fun i97 x98 H99 H100 hi h hy => ?_) (fun H101 h => ?_)
            · skip
              obtain ⟨B90, x91, xs92, w93, e94, o95, o96, _⟩ := h
              exact ⟨(same_t w93.bh (same_t (e86.trans e94) hp71)), (same_t w93.bh (same_t (e86.trans e94) hp76))⟩
            · skip
              obtain ⟨B90, x91, xs92, w93, e94, o95, o96, hm⟩ := h
              obtain ⟨T102, v103, v104, rfl, hT105, rfl, hx106, hz107⟩ := hy
              obtain ⟨a108, ha109, r110⟩ := RepL.getm rl72 hx106
              obtain ⟨a111, ha112, r113⟩ := RepL.getm rl77 hz107
              have g114 := Grow.newOwn (S := S0) (o := .tup [v103, v104]) w93.bh hT105
              have w116 := w93.trans g114
              have e115 := g114.bb
              have o117 := o95.grow g114 (fun _ z => z.elim)
              have o118 := o96.grow g114 (fun _ z => z.elim)
              obtain ⟨hlt123, KB119, nb120, hm, hnx121, hno122⟩ := hst83 i97 _ _ _ (zip_at ha109 ha112) hm
              try dsimp only at hm
              obtain rfl : v103 = (.str a108) := r110
              obtain rfl : v104 = (.str a111) := r113
              refine ⟨T102, _, rfl, (SqT.of upd_same), rfl, _, _, rfl, _, _, rfl, rfl, ?_⟩
              refine ⟨rfl, ?_⟩
              refine tyes_go ?_
              refine ⟨_, rfl, _, rfl, _, _, rfl, rfl, ?_⟩
              refine ⟨xs92, o118.h, (lt_line (own_lt o118 hlt123)), ?_⟩
              have o124 := o118.put (es := ((x91 ++ [(decide (a108.cps.toList < a111.cps.toList))])).map D.bl) (o118.r.snocm (a := (decide (a108.cps.toList < a111.cps.toList))) rfl)
              have w125 := w116.mut (o := (.lst (xs92 ++ [(.bl (decide (a108.cps.toList < a111.cps.toList)))]))) o118.n0 o118.b o118.h (by rfl)
              have o126 := o117.other (u := (.lst (xs92 ++ [(.bl (decide (a108.cps.toList < a111.cps.toList)))]))) n89
              have hm := hnx121 _ _ hm
              exact ⟨B90, (x91 ++ [(decide (a108.cps.toList < a111.cps.toList))]), (xs92 ++ [(.bl (decide (a108.cps.toList < a111.cps.toList)))]), w125, (e94.trans e115), o126, o124, hm⟩
            · skip
              obtain ⟨B90, x91, xs92, w93, e94, o95, o96, hm⟩ := h
              have hm := hdn84 _ _ _ (Nat.le_of_eq (zip_len rl72 rl77)) hm
              try dsimp only at hm
              have q127 := o96.r.asBools
              subst q127
              refine ⟨D79, x91, rfl, (SqL.of o96.h), ?_⟩
              exact fin _ hm (.bl (x91.all id)) B90 H101 w93 rfl
    · skip
      try dsimp only at hm
      refine ⟨_, rfl, ?_⟩
      show if (!false) = true then _ else _
      refine iteT ?_
      exact fin _ hm (.bl false) B0 H0 w0 rfl

theorem sc_is_integer : FnScope ["thing"] ["thing"] (defScope (top 10)) := ⟨rfl, rfl, rfl, by decide +kernel, rfl, by decide +kernel, by decide +kernel⟩
theorem ok_is_integer (T : Txt K mg) : FnOk P w K mg base CX0 1 T.a_is_integer T.f_is_integer ["thing"] (sp_is_integer K T.a_Program) := by
  refine T.d_is_integer.ok sc_is_integer (fun vs H Q E h => ?_) (fun cdv A outer s H0 vs Q E hr h => ?_)
  · obtain ⟨_, _, rfl, _⟩ := h
    rfl
  · obtain ⟨B0, u0, rfl, bh0, hmp⟩ := h
    obtain ⟨K0, nb0, hm, fin⟩ := hmp.open_
    unfold m_is_integer at hm
    try dsimp only at hm
    have w0 : Grow S0 B0 H0 B0 H0 := Grow.refl bh0
    refine ⟨_, PSs.nox ((pss_one (ps_ret (pe_and (pe_callB (call_isi' (K := K) (by rfl)) (by rfl) T.n_isinstance (by decide +kernel) (pa_cons (pv 0) (pa_cons (pe_bltn (v := .ty "int") (by rfl) T.n_int (by decide +kernel) rfl) pa_nil))) (pe_one (pe_not (pe_callB (call_isi' (K := K) (by rfl)) (by rfl) T.n_isinstance (by decide +kernel) (pa_cons (pv 0) (pa_cons (pe_bltn (v := .ty "bool") (by rfl) T.n_bool (by decide +kernel) rfl) pa_nil))))))))), ?_⟩
    refine ⟨_, rfl, _, _, _, _, true, rfl, .ty _, (.base (.int _)), kit_ty (by decide +kernel), ?_⟩
    refine ⟨_, rfl, ?_⟩
    refine iteT ?_
    refine ⟨_, rfl, _, _, _, _, false, rfl, .ty _, (.base (.int _)), kit_ty (by decide +kernel), ?_⟩
    refine ⟨_, rfl, ?_⟩
    exact fin _ hm (.bl true) B0 H0 w0 rfl

theorem sc_is_state : FnScope ["many", "thing"] ["many", "thing"] (defScope (top 13)) := ⟨rfl, rfl, rfl, by decide +kernel, rfl, by decide +kernel, by decide +kernel⟩
theorem ok_is_state (T : Txt K mg) : FnOk P w K mg base CX0 2 T.a_is_state T.f_is_state ["many", "thing"] (sp_is_state K T.a_Program) := by
  refine T.d_is_state.ok sc_is_state (fun vs H Q E h => ?_) (fun cdv A outer s H0 vs Q E hr h => ?_)
  · obtain ⟨_, _, _, rfl, _⟩ := h
    rfl
  · obtain ⟨B0, u0, u1, rfl, bh0, hmp⟩ := h
    obtain ⟨K0, nb0, hm, fin⟩ := hmp.open_
    unfold m_is_state at hm
    try dsimp only at hm
    have w0 : Grow S0 B0 H0 B0 H0 := Grow.refl bh0
    refine ⟨_, PSs.nox ((pss_one (ps_ret (pe_and (pe_call (ok_is_integer T) (hr.mono (by decide)) (by rfl) T.g_is_integer T.d_is_integer.kp T.b_is_integer .nil pass0 (pa_cons (pv 1) pa_nil)) (pe_one (pe_chain op_le op_lt pe_int (pv 1) (pv 0))))))), ?_⟩
    refine ⟨_, rfl, ?_⟩
    obtain ⟨t1, h2, hm⟩ := bindK nb0 hm
    try dsimp only at hm
    refine ⟨B0, u1, rfl, w0.bh, (Post.mk_ h2 fun v3 B4 H5 g6 r7 => ?_)⟩
    have w9 := w0.trans g6
    have e8 := g6.bb
    obtain rfl : v3 = (.bl t1) := r7
    refine ⟨_, rfl, ?_⟩
    refine ite_both hm (fun hc10 hm => ?_) (fun hc10 hm => ?_)
    · skip
      try dsimp only at hm
      refine ⟨_, rfl, _, _, rfl, rfl, _, rfl, ?_⟩
      refine ite_both hm (fun hc11 hm => ?_) (fun hc11 hm => ?_)
      · skip
        try dsimp only at hm
        refine ⟨_, rfl, _, _, rfl, rfl, ?_⟩
        exact fin _ hm (.bl (decide (u1 < u0))) B4 H5 w9 rfl
      · skip
        try dsimp only at hm
        exact fin _ hm (.bl false) B4 H5 w9 rfl
    · skip
      try dsimp only at hm
      exact fin _ hm (.bl false) B4 H5 w9 rfl

theorem sc_is_pair : FnScope ["many", "thing"] ["many", "thing"] (defScope (top 14)) := ⟨rfl, rfl, rfl, by decide +kernel, rfl, by decide +kernel, by decide +kernel⟩
theorem ok_is_pair (T : Txt K mg) : FnOk P w K mg base CX0 3 T.a_is_pair T.f_is_pair ["many", "thing"] (sp_is_pair K T.a_Program) := by
  refine T.d_is_pair.ok sc_is_pair (fun vs H Q E h => ?_) (fun cdv A outer s H0 vs Q E hr h => ?_)
  · obtain ⟨_, _, _, _, rfl, _⟩ := h
    rfl
  · obtain ⟨B0, u0, u1, vv1, rfl, bh0, rr1, hmp⟩ := h
    obtain ⟨K0, nb0, hm, fin⟩ := hmp.open_
    unfold m_is_pair at hm
    try dsimp only at hm
    have w0 : Grow S0 B0 H0 B0 H0 := Grow.refl bh0
    refine ⟨_, PSs.nox ((pss_one (ps_ret (pe_and (pe_callB (call_isi' (K := K) (by rfl)) (by rfl) T.n_isinstance (by decide +kernel) (pa_cons (pv 1) (pa_cons (pe_bltn (v := .ty "tuple") (by rfl) T.n_tuple (by decide +kernel) rfl) pa_nil))) (pe_and (pe_cmpR op_eqI (pe_callB (call_len_seq' (K := K) (by rfl)) (by rfl) T.n_len (by decide +kernel) (pa_cons (pv 1) pa_nil)) pe_int (nomark _)) (pe_and (pe_call (ok_is_state T) (hr.mono (by decide)) (by rfl) T.g_is_state T.d_is_state.kp T.b_is_state .nil pass0 (pa_cons (pv 0) (pa_cons (pe_ix (ix_tup' (K := K) (by rfl)) (pv 1) pe_int (fun _ _ => rfl)) pa_nil))) (pe_one (pe_call (ok_is_integer T) (hr.mono (by decide)) (by rfl) T.g_is_integer T.d_is_integer.kp T.b_is_integer .nil pass0 (pa_cons (pe_ix (ix_tup' (K := K) (by rfl)) (pv 1) pe_int (fun _ _ => rfl)) pa_nil))))))))), ?_⟩
    refine ⟨_, rfl, ?_⟩
    obtain ⟨p1, x2, ev5, hp3, rl4⟩ := id rr1
    subst ev5
    refine ⟨_, _, _, _, true, rfl, .ty _, (tyX_tuple (same_t w0.bh hp3)), kit_ty (by decide +kernel), ?_⟩
    refine ⟨_, rfl, ?_⟩
    refine iteT ?_
    refine ⟨_, rfl, ?_⟩
    obtain ⟨p6, x7, ev10, hp8, rl9⟩ := id rr1
    cases ev10
    refine ⟨p1, _, rfl, (.inr (same_t w0.bh hp8)), ?_⟩
    rw [show (x7).length = 2 from RepL.length rl9]
    refine ⟨_, _, rfl, rfl, _, rfl, ?_⟩
    refine ite_both hm (fun hc11 hm => ?_) (fun hc11 hm => ?_)
    · skip
      try dsimp only at hm
      refine ⟨_, rfl, _, rfl, ?_⟩
      refine tc_go ?_
      refine rixF (i := (0 : Int)) (d := D.int u1.1) rr1 w0.bh (by rfl) (fun v12 r13 => ?_)
      obtain rfl : v12 = (.int u1.1) := r13
      obtain ⟨t14, h15, hm⟩ := bindK nb0 hm
      try dsimp only at hm
      refine ⟨B0, u0, u1.1, rfl, w0.bh, (Post.mk_ h15 fun v16 B17 H18 g19 r20 => ?_)⟩
      have w22 := w0.trans g19
      have e21 := g19.bb
      obtain rfl : v16 = (.bl t14) := r20
      refine ⟨_, rfl, ?_⟩
      refine ite_both hm (fun hc23 hm => ?_) (fun hc23 hm => ?_)
      · skip
        try dsimp only at hm
        refine ⟨_, rfl, ?_⟩
        refine tc_go ?_
        refine rixF (i := (1 : Int)) (d := D.int u1.2) (rr1.mono e21) w22.bh (by rfl) (fun v24 r25 => ?_)
        obtain rfl : v24 = (.int u1.2) := r25
        obtain ⟨t26, h27, hm⟩ := bindK nb0 hm
        try dsimp only at hm
        refine ⟨B17, u1.2, rfl, w22.bh, (Post.mk_ h27 fun v28 B29 H30 g31 r32 => ?_)⟩
        have w34 := w22.trans g31
        have e33 := g31.bb
        obtain rfl : v28 = (.bl t26) := r32
        exact fin _ hm (.bl t26) B29 H30 w34 rfl
      · skip
        try dsimp only at hm
        exact fin _ hm (.bl false) B17 H18 w22 rfl
    · skip
      try dsimp only at hm
      exact fin _ hm (.bl false) B0 H0 w0 rfl

theorem sc_are_rows : FnScope ["size", "thing", "row", "pair"] ["size", "thing"] (defScope (top 15)) := ⟨rfl, rfl, rfl, by decide +kernel, rfl, by decide +kernel, by decide +kernel⟩
theorem ok_are_rows (T : Txt K mg) : FnOk P w K mg base CX0 4 T.a_are_rows T.f_are_rows ["size", "thing"] (sp_are_rows K T.a_Program) := by
  refine T.d_are_rows.ok sc_are_rows (fun vs H Q E h => ?_) (fun cdv A outer s H0 vs Q E hr h => ?_)
  · obtain ⟨_, _, _, _, rfl, _⟩ := h
    rfl
  · obtain ⟨B0, u0, u1, vv1, rfl, bh0, rr1, hmp⟩ := h
    obtain ⟨K0, nb0, hm, fin⟩ := hmp.open_
    unfold m_are_rows at hm
    try dsimp only at hm
    have w0 : Grow S0 B0 H0 B0 H0 := Grow.refl bh0
    refine ⟨_, PSs.nox ((pss_cons (ps_if (PW.pt (pw_or (pt_not (pt_val (pe_callB (call_isi' (K := K) (by rfl)) (by rfl) T.n_isinstance (by decide +kernel) (pa_cons (pv 1) (pa_cons (pe_bltn (v := .ty "tuple") (by rfl) T.n_tuple (by decide +kernel) rfl) pa_nil))))) (pw_or1 (pt_cmpR (op_eqD' (K := K) (by rfl) hr.units) (pv 1) (pe_tup pa_nil) (nomark _))))) (pss_one (ps_ret pe_bl)) pss_nil)
      (pss_cons (ps_if (pt_not (pt_val (pe_callB (cr_all' (K := K) (by rfl) rfl) (by rfl) T.n_all (by decide +kernel) (pa_cons (pe_lc (own := [("row", 2)]) rfl sc_are_rows.nd (pi_tup' (K := K) (by rfl) (pv 1)) (blkOk_by (own := [("row", 2)]) (N := ["size", "thing", "row", "pair"]) (sc := defScope (top 15)) (by decide +kernel)) (fun _ _ _ _ _ => (pg_name (i := 2) sc_are_rows.nd rfl (Or.inl rfl))) (fun _ _ _ _ _ => pts_nil) (fun _ _ _ _ _ => (pe_and (pe_callB (call_isi' (K := K) (by rfl)) (by rfl) T.n_isinstance (by decide +kernel) (pa_cons (pv 2) (pa_cons (pe_bltn (v := .ty "tuple") (by rfl) T.n_tuple (by decide +kernel) rfl) pa_nil))) (pe_one (pe_cmpR op_eqI (pe_callB (call_len_seq' (K := K) (by rfl)) (by rfl) T.n_len (by decide +kernel) (pa_cons (pv 2) pa_nil)) (pv 0) (nomark _)))))) pa_nil)))) (pss_one (ps_ret pe_bl)) pss_nil)
      (pss_one (ps_ret (pe_callB (cr_all' (K := K) (by rfl) rfl) (by rfl) T.n_all (by decide +kernel) (pa_cons (pe_lc (own := [("row", 2)]) rfl sc_are_rows.nd (pi_tup' (K := K) (by rfl) (pv 1)) (blkOk_by (own := [("row", 2)]) (N := ["size", "thing", "row", "pair"]) (sc := defScope (top 15)) (by decide +kernel)) (fun _ _ _ _ _ => (pg_name (i := 2) sc_are_rows.nd rfl (Or.inl rfl))) (fun _ _ _ _ _ => pts_nil) (fun _ _ _ _ _ => (pe_callB (cr_all' (K := K) (by rfl) rfl) (by rfl) T.n_all (by decide +kernel) (pa_cons (pe_lc (own := [("pair", 3)]) rfl sc_are_rows.nd (pi_tup' (K := K) (by rfl) (pv 2)) (blkOk_by (own := [("pair", 3)]) (N := ["size", "thing", "row", "pair"]) (sc := { kind := PySem.ScopeKind.function, names := [ (PySem.Str.ofString ".0", PySem.NameKind.local), (PySem.Str.ofString "row", PySem.NameKind.local), (PySem.Str.ofString "all", PySem.NameKind.globalImplicit), (PySem.Str.ofString "thing", PySem.NameKind.cell)], isGenerator := false, isCoroutine := false, more := [] : PySem.Scope }) (by decide +kernel)) (fun _ _ _ _ _ => (pg_name (i := 3) sc_are_rows.nd rfl (Or.inl rfl))) (fun _ _ _ _ _ => pts_nil) (fun _ _ _ _ _ => (pe_call (ok_is_pair T) (hr.mono (by decide)) (by rfl) T.g_is_pair T.d_is_pair.kp T.b_is_pair .nil pass0 (pa_cons (pe_callB (call_len_seq' (K := K) (by rfl)) (by rfl) T.n_len (by decide +kernel) (pa_cons (pv 1) pa_nil)) (pa_cons (pv 3) pa_nil))))) pa_nil)))) pa_nil))))))), ?_⟩
    refine ⟨_, rfl, ?_⟩
    obtain ⟨p1, x2, ev5, hp3, rl4⟩ := id rr1
    subst ev5
    refine ⟨_, _, _, _, true, rfl, .ty _, (tyX_tuple (same_t w0.bh hp3)), kit_ty (by decide +kernel), ?_⟩
    refine ⟨_, rfl, ?_⟩
    show if (!true) = true then _ else _
    refine iteF ?_
    refine ⟨_, rfl, ?_⟩
    refine ⟨by show 0 ≤ sizeLine; decide, fun p6 hp7 => ?_⟩
    have g8 := Grow.new (S := S0) (o := (.tup [])) w0.bh hp7
    have r9 : Rep K (upd B0 p6 (.tup [])) ((fun (l : List (List (Int × Int))) => D.tup (l.map (fun (l : List (Int × Int)) => D.tup (l.map (fun (p : (Int × Int)) => D.tup [D.int p.1, D.int p.2]))))) ([] : List (List (Int × Int)))) (.ref p6) := ⟨p6, [], rfl, SqT.of upd_same, (RepL.mono (same_upd (same_free w0.bh hp7)) RepL.nil)⟩
    have w11 := w0.trans g8
    have e10 := g8.bb
    obtain ⟨b12, h13, hm⟩ := bindK nb0 hm
    try dsimp only at hm
    refine reqD ((rr1.mono e10).mono w11.bh) (r9.mono w11.bh) (Same.refl _) h13 ?_
    refine ⟨_, rfl, ?_⟩
    refine ite_both hm (fun hc14 hm => ?_) (fun hc14 hm => ?_)
    · skip
      try dsimp only at hm
      exact fin _ hm (.bl false) (upd B0 p6 (.tup [])) (upd H0 p6 (.tup [])) w11 rfl
    · skip
      try dsimp only at hm
      refine ⟨_, rfl, ?_⟩
      obtain ⟨p15, x16, ev19, hp17, rl18⟩ := id (rr1.mono e10)
      cases ev19
      refine ⟨p1, rfl, ⟨x16, (same_t w11.bh hp17)⟩, ?_⟩
      intro D20 hD21
      have g22 := Grow.newOwn (S := S0) (o := .lst []) w11.bh hD21
      have o26 := Own.new (K := K) (ds := []) w11 hD21 rfl
      have w28 := w11.trans g22
      have e27 := g22.bb
      obtain ⟨KL23, hm, hst24, hdn25⟩ := compK nb0 hm
      refine lc_it (walk_tup (K := K) (a := p1) (xs := x16)) (fun i35 H => ∃ (B29 : Hp) (x30 : (List Bool)) (xs31 : List V), Grow S0 B0 H0 B29 H ∧ Same (upd B0 p6 (.tup [])) B29 ∧ Own K H0 B29 H D20 xs31 ((x30).map D.bl) ∧ KL23 i35 () x30) ⟨(upd B0 p6 (.tup [])), ([] : List Bool), [], w28, (Same.refl _), o26, hm⟩ (fun i35 H37 _ h => ?_) (fun i35 x36 H37 H38 hi h hy => ?_) (fun H39 h => ?_)
      · skip
        obtain ⟨B29, x30, xs31, w32, e33, o34, _⟩ := h
        exact (same_t w32.bh (same_t (e27.trans e33) hp17))
      · skip
        obtain ⟨B29, x30, xs31, w32, e33, o34, hm⟩ := h
        obtain ⟨rfl, q43⟩ := hy
        obtain ⟨a40, ha41, r42⟩ := RepL.getm rl18 q43
        obtain ⟨hlt48, KB44, nb45, hm, hnx46, hno47⟩ := hst24 i35 _ _ _ ha41 hm
        try dsimp only at hm
        refine ⟨rfl, ?_⟩
        refine tyes_go ?_
        refine ⟨_, rfl, ?_⟩
        obtain ⟨p49, x50, ev53, hp51, rl52⟩ := id (r42.mono (e27.trans e33))
        subst ev53
        refine ⟨_, _, _, _, true, rfl, .ty _, (tyX_tuple (same_t w32.bh hp51)), kit_ty (by decide +kernel), ?_⟩
        refine ⟨_, rfl, ?_⟩
        refine iteT ?_
        refine ⟨_, rfl, ?_⟩
        obtain ⟨p54, x55, ev58, hp56, rl57⟩ := id (r42.mono (e27.trans e33))
        cases ev58
        refine ⟨p49, x55, rfl, (.inr (same_t w32.bh hp56)), ?_⟩
        rw [RepL.lenm rl57]
        refine ⟨_, rfl, _, _, rfl, rfl, ?_⟩
        refine ⟨xs31, o34.h, (lt_line (own_lt o34 hlt48)), ?_⟩
        have o59 := o34.put (es := ((x30 ++ [(decide ((a40.length : Int) = u0))])).map D.bl) (o34.r.snocm (a := (decide ((a40.length : Int) = u0))) rfl)
        have w60 := w32.mut (o := (.lst (xs31 ++ [(.bl (decide ((a40.length : Int) = u0)))]))) o34.n0 o34.b o34.h (by rfl)
        have hm := hnx46 _ _ hm
        exact ⟨B29, (x30 ++ [(decide ((a40.length : Int) = u0))]), (xs31 ++ [(.bl (decide ((a40.length : Int) = u0)))]), w60, e33, o59, hm⟩
      · skip
        obtain ⟨B29, x30, xs31, w32, e33, o34, hm⟩ := h
        have hm := hdn25 _ _ _ (Nat.le_of_eq (RepL.lenm rl18).symm) hm
        try dsimp only at hm
        have q61 := o34.r.asBools
        subst q61
        refine ⟨D20, x30, rfl, (SqL.of o34.h), _, rfl, ?_⟩
        refine ite_both hm (fun hc62 hm => ?_) (fun hc62 hm => ?_)
        · skip
          try dsimp only at hm
          exact fin _ hm (.bl false) B29 H39 w32 rfl
        · skip
          try dsimp only at hm
          refine ⟨_, rfl, ?_⟩
          obtain ⟨p63, x64, ev67, hp65, rl66⟩ := id (rr1.mono (e10.trans (e27.trans e33)))
          cases ev67
          refine ⟨p1, rfl, ⟨x64, (same_t w32.bh hp65)⟩, ?_⟩
          intro D68 hD69
          have g70 := Grow.newOwn (S := S0) (o := .lst []) w32.bh hD69
          have o74 := Own.new (K := K) (ds := []) w32 hD69 rfl
          have w76 := w32.trans g70
          have e75 := g70.bb
          have o77 := o34.grow g70 (fun _ z => z.elim)
          have n78 : D20 ≠ D68 := ne_of_none o34.h hD69
          obtain ⟨KL71, hm, hst72, hdn73⟩ := compK nb0 hm
          refine lc_it (walk_tup (K := K) (a := p1) (xs := x64)) (fun i86 H => ∃ (B79 : Hp) (x80 : (List Bool)) (xs81 : List V), Grow S0 B0 H0 B79 H ∧ Same B29 B79 ∧ Own K H0 B79 H D20 (x30.map V.bl) ((x30).map D.bl) ∧ Own K H0 B79 H D68 xs81 ((x80).map D.bl) ∧ KL71 i86 () x80) ⟨B29, ([] : List Bool), [], w76, (Same.refl _), o77, o74, hm⟩ (fun i86 H88 _ h => ?_) (fun i86 x87 H88 H89 hi h hy => ?_) (fun H90 h => ?_)
          · skip
            obtain ⟨B79, x80, xs81, w82, e83, o84, o85, _⟩ := h
            exact (same_t w82.bh (same_t (e75.trans e83) hp65))
          · skip
            obtain ⟨B79, x80, xs81, w82, e83, o84, o85, hm⟩ := h
            obtain ⟨rfl, q94⟩ := hy
            obtain ⟨a91, ha92, r93⟩ := RepL.getm rl66 q94
            obtain ⟨hlt99, KB95, nb96, hm, hnx97, hno98⟩ := hst72 i86 _ _ _ ha92 hm
            try dsimp only at hm
            refine ⟨rfl, ?_⟩
            refine tyes_go ?_
            refine ⟨_, rfl, ?_⟩
            obtain ⟨p100, x101, ev104, hp102, rl103⟩ := id (r93.mono (e75.trans e83))
            subst ev104
            refine ⟨p100, rfl, ⟨x101, (same_t w82.bh hp102)⟩, ?_⟩
            intro D105 hD106
            have g107 := Grow.newOwn (S := S0) (o := .lst []) w82.bh hD106
            have o111 := Own.new (K := K) (ds := []) w82 hD106 rfl
            have w113 := w82.trans g107
            have e112 := g107.bb
            have o114 := o84.grow g107 (fun _ z => z.elim)
            have o115 := o85.grow g107 (fun _ z => z.elim)
            have n116 : D20 ≠ D105 := ne_of_none o84.h hD106
            have n117 : D68 ≠ D105 := ne_of_none o85.h hD106
            obtain ⟨KL108, hm, hst109, hdn110⟩ := compK nb96 hm
            refine lc_it (walk_tup (K := K) (a := p100) (xs := x101)) (fun i126 H => ∃ (B118 : Hp) (x119 : (List Bool)) (xs120 : List V), Grow S0 B0 H0 B118 H ∧ Same B79 B118 ∧ Own K H0 B118 H D20 (x30.map V.bl) ((x30).map D.bl) ∧ Own K H0 B118 H D68 xs81 ((x80).map D.bl) ∧ Own K H0 B118 H D105 xs120 ((x119).map D.bl) ∧ KL108 i126 () x119) ⟨B79, ([] : List Bool), [], w113, (Same.refl _), o114, o115, o111, hm⟩ (fun i126 H128 _ h => ?_) (fun i126 x127 H128 H129 hi h hy => ?_) (fun H130 h => ?_)
            · skip
              obtain ⟨B118, x119, xs120, w121, e122, o123, o124, o125, _⟩ := h
              exact (same_t w121.bh (same_t (e112.trans e122) hp102))
            · skip
              obtain ⟨B118, x119, xs120, w121, e122, o123, o124, o125, hm⟩ := h
              obtain ⟨rfl, q134⟩ := hy
              obtain ⟨a131, ha132, r133⟩ := RepL.getm rl103 q134
              obtain ⟨hlt139, KB135, nb136, hm, hnx137, hno138⟩ := hst109 i126 _ _ _ ha132 hm
              try dsimp only at hm
              refine ⟨rfl, ?_⟩
              refine tyes_go ?_
              refine ⟨_, rfl, ?_⟩
              obtain ⟨p140, x141, ev144, hp142, rl143⟩ := id (rr1.mono (e10.trans (e27.trans (e33.trans (e75.trans (e83.trans (e112.trans e122)))))))
              cases ev144
              refine ⟨p1, x141, rfl, (.inr (same_t w121.bh hp142)), ?_⟩
              rw [RepL.lenm rl143]
              refine ⟨_, rfl, ?_⟩
              obtain ⟨t145, h146, hm⟩ := bindK nb136 hm
              try dsimp only at hm
              refine ⟨B118, (u1.length : Int), a131, x127, rfl, w121.bh, (r133.mono (e112.trans e122)), (Post.mk_ h146 fun v147 B148 H149 g150 r151 => ?_)⟩
              have w153 := w121.trans g150
              have e152 := g150.bb
              have o154 := o123.grow g150 (fun _ z => z.elim)
              have o155 := o124.grow g150 (fun _ z => z.elim)
              have o156 := o125.grow g150 (fun _ z => z.elim)
              obtain rfl : v147 = (.bl t145) := r151
              refine ⟨xs120, o156.h, (lt_line (own_lt o156 hlt139)), ?_⟩
              have o157 := o156.put (es := ((x119 ++ [t145])).map D.bl) (o156.r.snocm (a := t145) rfl)
              have w158 := w153.mut (o := (.lst (xs120 ++ [(.bl t145)]))) o156.n0 o156.b o156.h (by rfl)
              have o159 := o154.other (u := (.lst (xs120 ++ [(.bl t145)]))) n116
              have o160 := o155.other (u := (.lst (xs120 ++ [(.bl t145)]))) n117
              have hm := hnx137 _ _ hm
              exact ⟨B148, (x119 ++ [t145]), (xs120 ++ [(.bl t145)]), w158, (e122.trans e152), o159, o160, o157, hm⟩
            · skip
              obtain ⟨B118, x119, xs120, w121, e122, o123, o124, o125, hm⟩ := h
              have hm := hdn110 _ _ _ (Nat.le_of_eq (RepL.lenm rl103).symm) hm
              try dsimp only at hm
              have q161 := o125.r.asBools
              subst q161
              refine ⟨D105, x119, rfl, (SqL.of o125.h), ?_⟩
              refine ⟨xs81, o124.h, (lt_line (own_lt o124 hlt99)), ?_⟩
              have o162 := o124.put (es := ((x80 ++ [(x119.all id)])).map D.bl) (o124.r.snocm (a := (x119.all id)) rfl)
              have w163 := w121.mut (o := (.lst (xs81 ++ [(.bl (x119.all id))]))) o124.n0 o124.b o124.h (by rfl)
              have o164 := o123.other (u := (.lst (xs81 ++ [(.bl (x119.all id))]))) n78
              have o165 := o125.other (u := (.lst (xs81 ++ [(.bl (x119.all id))]))) (Ne.symm n117)
              have hm := hnx97 _ _ hm
              exact ⟨B118, (x80 ++ [(x119.all id)]), (xs81 ++ [(.bl (x119.all id))]), w163, (e83.trans (e112.trans e122)), o164, o162, hm⟩
          · skip
            obtain ⟨B79, x80, xs81, w82, e83, o84, o85, hm⟩ := h
            have hm := hdn73 _ _ _ (Nat.le_of_eq (RepL.lenm rl66).symm) hm
            try dsimp only at hm
            have q166 := o85.r.asBools
            subst q166
            refine ⟨D68, x80, rfl, (SqL.of o85.h), ?_⟩
            exact fin _ hm (.bl (x80.all id)) B79 H90 w82 rfl

theorem sc_is_pass : FnScope ["size", "begins", "thing", "state"] ["size", "begins", "thing"] (defScope (top 16)) := ⟨rfl, rfl, rfl, by decide +kernel, rfl, by decide +kernel, by decide +kernel⟩
theorem ok_is_pass (T : Txt K mg) : FnOk P w K mg base CX0 5 T.a_is_pass T.f_is_pass ["size", "begins", "thing"] (sp_is_pass K T.a_Program) := by
  refine T.d_is_pass.ok sc_is_pass (fun vs H Q E h => ?_) (fun cdv A outer s H0 vs Q E hr h => ?_)
  · obtain ⟨_, _, _, _, _, rfl, _⟩ := h
    rfl
  · obtain ⟨B0, u0, u1, u2, vv2, rfl, bh0, rr2, hmp⟩ := h
    obtain ⟨K0, nb0, hm, fin⟩ := hmp.open_
    unfold m_is_pass at hm
    try dsimp only at hm
    have w0 : Grow S0 B0 H0 B0 H0 := Grow.refl bh0
    refine ⟨_, PSs.nox ((pss_cons (ps_if (PW.pt (pw_or (pt_not (pt_val (pe_callB (call_isi' (K := K) (by rfl)) (by rfl) T.n_isinstance (by decide +kernel) (pa_cons (pv 2) (pa_cons (pe_bltn (v := .ty "tuple") (by rfl) T.n_tuple (by decide +kernel) rfl) pa_nil))))) (pw_or (pt_cmpR op_neI (pe_callB (call_len_seq' (K := K) (by rfl)) (by rfl) T.n_len (by decide +kernel) (pa_cons (pv 2) pa_nil)) pe_int (nomark _)) (pw_or1 (pt_not (pt_val (pe_call (ok_are_rows T) (hr.mono (by decide)) (by rfl) T.g_are_rows T.d_are_rows.kp T.b_are_rows .nil pass0 (pa_cons (pv 0) (pa_cons (pe_ix (ix_tup' (K := K) (by rfl)) (pv 2) pe_int (fun _ _ => rfl)) pa_nil))))))))) (pss_one (ps_ret pe_bl)) pss_nil)
      (pss_cons (ps_if (PW.pt (pw_or (pt_not (pt_val (pe_callB (call_isi' (K := K) (by rfl)) (by rfl) T.n_isinstance (by decide +kernel) (pa_cons (pe_ix (ix_tup' (K := K) (by rfl)) (pv 2) pe_int (fun _ _ => rfl)) (pa_cons (pe_bltn (v := .ty "tuple") (by rfl) T.n_tuple (by decide +kernel) rfl) pa_nil))))) (pw_or1 (pt_cmpR op_neI (pe_callB (call_len_seq' (K := K) (by rfl)) (by rfl) T.n_len (by decide +kernel) (pa_cons (pe_ix (ix_tup' (K := K) (by rfl)) (pv 2) pe_int (fun _ _ => rfl)) pa_nil)) (pv 1) (nomark _))))) (pss_one (ps_ret pe_bl)) pss_nil)
      (pss_one (ps_ret (pe_callB (cr_all' (K := K) (by rfl) rfl) (by rfl) T.n_all (by decide +kernel) (pa_cons (pe_lc (own := [("state", 3)]) rfl sc_is_pass.nd (pi_tup' (K := K) (by rfl) (pe_ix (ix_tup' (K := K) (by rfl)) (pv 2) pe_int (fun _ _ => rfl))) (blkOk_by (own := [("state", 3)]) (N := ["size", "begins", "thing", "state"]) (sc := defScope (top 16)) (by decide +kernel)) (fun _ _ _ _ _ => (pg_name (i := 3) sc_is_pass.nd rfl (Or.inl rfl))) (fun _ _ _ _ _ => pts_nil) (fun _ _ _ _ _ => (pe_call (ok_is_state T) (hr.mono (by decide)) (by rfl) T.g_is_state T.d_is_state.kp T.b_is_state .nil pass0 (pa_cons (pe_callB (call_len_seq' (K := K) (by rfl)) (by rfl) T.n_len (by decide +kernel) (pa_cons (pe_ix (ix_tup' (K := K) (by rfl)) (pv 2) pe_int (fun _ _ => rfl)) pa_nil)) (pa_cons (pv 3) pa_nil))))) pa_nil))))))), ?_⟩
    refine ⟨_, rfl, ?_⟩
    obtain ⟨p1, x2, ev5, hp3, rl4⟩ := id rr2
    subst ev5
    refine ⟨_, _, _, _, true, rfl, .ty _, (tyX_tuple (same_t w0.bh hp3)), kit_ty (by decide +kernel), ?_⟩
    refine ⟨_, rfl, ?_⟩
    show if (!true) = true then _ else _
    refine iteF ?_
    refine ⟨_, rfl, ?_⟩
    obtain ⟨p6, x7, ev10, hp8, rl9⟩ := id rr2
    cases ev10
    refine ⟨p1, _, rfl, (.inr (same_t w0.bh hp8)), ?_⟩
    rw [show (x7).length = 2 from RepL.length rl9]
    refine ⟨_, _, rfl, rfl, _, rfl, ?_⟩
    refine ite_both hm (fun hc11 hm => ?_) (fun hc11 hm => ?_)
    · skip
      try dsimp only at hm
      refine iteT ?_
      exact fin _ hm (.bl false) B0 H0 w0 rfl
    · skip
      try dsimp only at hm
      refine ⟨_, rfl, _, rfl, ?_⟩
      refine tc_go ?_
      refine rixF (i := (1 : Int)) (d := (fun (l : List (List (Int × Int))) => D.tup (l.map (fun (l : List (Int × Int)) => D.tup (l.map (fun (p : (Int × Int)) => D.tup [D.int p.1, D.int p.2]))))) u2.2) rr2 w0.bh (by rfl) (fun v12 r13 => ?_)
      obtain ⟨t14, h15, hm⟩ := bindK nb0 hm
      try dsimp only at hm
      refine ⟨B0, u0, u2.2, v12, rfl, w0.bh, r13, (Post.mk_ h15 fun v16 B17 H18 g19 r20 => ?_)⟩
      have w22 := w0.trans g19
      have e21 := g19.bb
      obtain rfl : v16 = (.bl t14) := r20
      refine ⟨_, rfl, ?_⟩
      refine ite_both hm (fun hc23 hm => ?_) (fun hc23 hm => ?_)
      · skip
        try dsimp only at hm
        exact fin _ hm (.bl false) B17 H18 w22 rfl
      · skip
        try dsimp only at hm
        refine ⟨_, rfl, ?_⟩
        refine tc_go ?_
        refine rixF (i := (0 : Int)) (d := (fun (l : List Int) => D.tup (l.map D.int)) u2.1) (rr2.mono e21) w22.bh (by rfl) (fun v24 r25 => ?_)
        obtain ⟨p26, x27, ev30, hp28, rl29⟩ := id r25
        subst ev30
        refine ⟨_, _, _, _, true, rfl, .ty _, (tyX_tuple (same_t w22.bh hp28)), kit_ty (by decide +kernel), ?_⟩
        refine ⟨_, rfl, ?_⟩
        show if (!true) = true then _ else _
        refine iteF ?_
        refine ⟨_, rfl, ?_⟩
        refine tc_go ?_
        refine rixF (i := (0 : Int)) (d := (fun (l : List Int) => D.tup (l.map D.int)) u2.1) (rr2.mono e21) w22.bh (by rfl) (fun v31 r32 => ?_)
        obtain ⟨p33, x34, ev37, hp35, rl36⟩ := id r32
        subst ev37
        refine ⟨p33, x34, rfl, (.inr (same_t w22.bh hp35)), ?_⟩
        rw [RepL.lenm rl36]
        refine ⟨_, rfl, _, _, rfl, rfl, _, rfl, ?_⟩
        refine ite_both hm (fun hc38 hm => ?_) (fun hc38 hm => ?_)
        · skip
          try dsimp only at hm
          exact fin _ hm (.bl false) B17 H18 w22 rfl
        · skip
          try dsimp only at hm
          refine ⟨_, rfl, ?_⟩
          refine tc_go ?_
          refine rixF (i := (0 : Int)) (d := (fun (l : List Int) => D.tup (l.map D.int)) u2.1) (rr2.mono e21) w22.bh (by rfl) (fun v39 r40 => ?_)
          obtain ⟨p41, x42, ev45, hp43, rl44⟩ := id r40
          subst ev45
          refine ⟨p41, rfl, ⟨x42, (same_t w22.bh hp43)⟩, ?_⟩
          intro D46 hD47
          have g48 := Grow.newOwn (S := S0) (o := .lst []) w22.bh hD47
          have o52 := Own.new (K := K) (ds := []) w22 hD47 rfl
          have w54 := w22.trans g48
          have e53 := g48.bb
          obtain ⟨KL49, hm, hst50, hdn51⟩ := compK nb0 hm
          refine lc_it (walk_tup (K := K) (a := p41) (xs := x42)) (fun i61 H => ∃ (B55 : Hp) (x56 : (List Bool)) (xs57 : List V), Grow S0 B0 H0 B55 H ∧ Same B17 B55 ∧ Own K H0 B55 H D46 xs57 ((x56).map D.bl) ∧ KL49 i61 () x56) ⟨B17, ([] : List Bool), [], w54, (Same.refl _), o52, hm⟩ (fun i61 H63 _ h => ?_) (fun i61 x62 H63 H64 hi h hy => ?_) (fun H65 h => ?_)
          · skip
            obtain ⟨B55, x56, xs57, w58, e59, o60, _⟩ := h
            exact (same_t w58.bh (same_t (e53.trans e59) hp43))
          · skip
            obtain ⟨B55, x56, xs57, w58, e59, o60, hm⟩ := h
            obtain ⟨rfl, q69⟩ := hy
            obtain ⟨a66, ha67, r68⟩ := RepL.getm rl44 q69
            obtain ⟨hlt74, KB70, nb71, hm, hnx72, hno73⟩ := hst50 i61 _ _ _ ha67 hm
            try dsimp only at hm
            obtain rfl : x62 = (.int a66) := r68
            refine ⟨rfl, ?_⟩
            refine tyes_go ?_
            refine ⟨_, rfl, ?_⟩
            refine tc_go ?_
            refine rixF (i := (1 : Int)) (d := (fun (l : List (List (Int × Int))) => D.tup (l.map (fun (l : List (Int × Int)) => D.tup (l.map (fun (p : (Int × Int)) => D.tup [D.int p.1, D.int p.2]))))) u2.2) (rr2.mono (e21.trans (e53.trans e59))) w58.bh (by rfl) (fun v75 r76 => ?_)
            obtain ⟨p77, x78, ev81, hp79, rl80⟩ := id r76
            subst ev81
            refine ⟨p77, x78, rfl, (.inr (same_t w58.bh hp79)), ?_⟩
            rw [RepL.lenm rl80]
            refine ⟨_, rfl, ?_⟩
            obtain ⟨t82, h83, hm⟩ := bindK nb71 hm
            try dsimp only at hm
            refine ⟨B55, (u2.2.length : Int), a66, rfl, w58.bh, (Post.mk_ h83 fun v84 B85 H86 g87 r88 => ?_)⟩
            have w90 := w58.trans g87
            have e89 := g87.bb
            have o91 := o60.grow g87 (fun _ z => z.elim)
            obtain rfl : v84 = (.bl t82) := r88
            refine ⟨xs57, o91.h, (lt_line (own_lt o91 hlt74)), ?_⟩
            have o92 := o91.put (es := ((x56 ++ [t82])).map D.bl) (o91.r.snocm (a := t82) rfl)
            have w93 := w90.mut (o := (.lst (xs57 ++ [(.bl t82)]))) o91.n0 o91.b o91.h (by rfl)
            have hm := hnx72 _ _ hm
            exact ⟨B85, (x56 ++ [t82]), (xs57 ++ [(.bl t82)]), w93, (e59.trans e89), o92, hm⟩
          · skip
            obtain ⟨B55, x56, xs57, w58, e59, o60, hm⟩ := h
            have hm := hdn51 _ _ _ (Nat.le_of_eq (RepL.lenm rl44).symm) hm
            try dsimp only at hm
            have q94 := o60.r.asBools
            subst q94
            refine ⟨D46, x56, rfl, (SqL.of o60.h), ?_⟩
            exact fin _ hm (.bl (x56.all id)) B55 H65 w58 rfl

theorem sc_are_passes : FnScope ["size", "thing", "one"] ["size", "thing"] (defScope (top 17)) := ⟨rfl, rfl, rfl, by decide +kernel, rfl, by decide +kernel, by decide +kernel⟩
theorem ok_are_passes (T : Txt K mg) : FnOk P w K mg base CX0 6 T.a_are_passes T.f_are_passes ["size", "thing"] (sp_are_passes K T.a_Program) := by
  refine T.d_are_passes.ok sc_are_passes (fun vs H Q E h => ?_) (fun cdv A outer s H0 vs Q E hr h => ?_)
  · obtain ⟨_, _, _, _, rfl, _⟩ := h
    rfl
  · obtain ⟨B0, u0, u1, vv1, rfl, bh0, rr1, hmp⟩ := h
    obtain ⟨K0, nb0, hm, fin⟩ := hmp.open_
    unfold m_are_passes at hm
    try dsimp only at hm
    have w0 : Grow S0 B0 H0 B0 H0 := Grow.refl bh0
    refine ⟨_, PSs.nox ((pss_cons (ps_if (PW.pt (pw_or (pt_not (pt_val (pe_callB (call_isi' (K := K) (by rfl)) (by rfl) T.n_isinstance (by decide +kernel) (pa_cons (pv 1) (pa_cons (pe_bltn (v := .ty "tuple") (by rfl) T.n_tuple (by decide +kernel) rfl) pa_nil))))) (pw_or (pt_not (pt_chain op_le op_le pe_int (pe_callB (call_len_seq' (K := K) (by rfl)) (by rfl) T.n_len (by decide +kernel) (pa_cons (pv 1) pa_nil)) (pe_glob (v := .int 2) (by rfl) T.c_MOST_PASSES.choose_spec ⟨_, rfl⟩))) (pw_or1 (pt_not (pt_val (pe_call (ok_is_pass T) (hr.mono (by decide)) (by rfl) T.g_is_pass T.d_is_pass.kp T.b_is_pass .nil pass0 (pa_cons (pv 0) (pa_cons pe_int (pa_cons (pe_ix (ix_tup' (K := K) (by rfl)) (pv 1) pe_int (fun _ _ => rfl)) pa_nil)))))))))) (pss_one (ps_ret pe_bl)) pss_nil)
      (pss_one (ps_ret (pe_callB (cr_all' (K := K) (by rfl) rfl) (by rfl) T.n_all (by decide +kernel) (pa_cons (pe_lc (own := [("one", 2)]) rfl sc_are_passes.nd (pi_tup' (K := K) (by rfl) (pe_slice (sl_tupA' (K := K) (by rfl)) (pv 1) (po_some pe_int) po_none)) (blkOk_by (own := [("one", 2)]) (N := ["size", "thing", "one"]) (sc := defScope (top 17)) (by decide +kernel)) (fun _ _ _ _ _ => (pg_name (i := 2) sc_are_passes.nd rfl (Or.inl rfl))) (fun _ _ _ _ _ => pts_nil) (fun _ _ _ _ _ => (pe_call (ok_is_pass T) (hr.mono (by decide)) (by rfl) T.g_is_pass T.d_is_pass.kp T.b_is_pass .nil pass0 (pa_cons (pv 0) (pa_cons (pe_callB (call_len_seq' (K := K) (by rfl)) (by rfl) T.n_len (by decide +kernel) (pa_cons (pe_ix (ix_tup' (K := K) (by rfl)) (pe_ix (ix_tup' (K := K) (by rfl)) (pv 1) pe_int (fun _ _ => rfl)) pe_int (fun _ _ => rfl)) pa_nil)) (pa_cons (pv 2) pa_nil)))))) pa_nil)))))), ?_⟩
    refine ⟨_, rfl, ?_⟩
    obtain ⟨p1, x2, ev5, hp3, rl4⟩ := id rr1
    subst ev5
    refine ⟨_, _, _, _, true, rfl, .ty _, (tyX_tuple (same_t w0.bh hp3)), kit_ty (by decide +kernel), ?_⟩
    refine ⟨_, rfl, ?_⟩
    show if (!true) = true then _ else _
    refine iteF ?_
    refine ⟨_, rfl, ?_⟩
    obtain ⟨p6, x7, ev10, hp8, rl9⟩ := id rr1
    cases ev10
    refine ⟨p1, x7, rfl, (.inr (same_t w0.bh hp8)), ?_⟩
    rw [RepL.lenm rl9]
    refine ⟨_, _, rfl, rfl, _, rfl, ?_⟩
    refine ite_both hm (fun hc11 hm => ?_) (fun hc11 hm => ?_)
    · skip
      try dsimp only at hm
      refine ⟨_, _, rfl, rfl, _, rfl, ?_⟩
      refine ite_both hm (fun hc12 hm => ?_) (fun hc12 hm => ?_)
      · skip
        try dsimp only at hm
        refine iteT ?_
        exact fin _ hm (.bl false) B0 H0 w0 rfl
      · skip
        try dsimp only at hm
        refine ⟨_, rfl, _, rfl, ?_⟩
        refine tc_go ?_
        obtain ⟨t13, h14, hm⟩ := bindK nb0 hm
        try dsimp only at hm
        refine rixT (em := (fun (p : ((List Int) × (List (List (Int × Int))))) => D.tup [(fun (l : List Int) => D.tup (l.map D.int)) p.1, (fun (l : List (List (Int × Int))) => D.tup (l.map (fun (l : List (Int × Int)) => D.tup (l.map (fun (p : (Int × Int)) => D.tup [D.int p.1, D.int p.2]))))) p.2])) rr1 w0.bh h14 (fun v15 r16 => ?_)
        obtain ⟨t17, h18, hm⟩ := bindK nb0 hm
        try dsimp only at hm
        refine ⟨B0, u0, (1 : Int), t13, v15, rfl, w0.bh, r16, (Post.mk_ h18 fun v19 B20 H21 g22 r23 => ?_)⟩
        have w25 := w0.trans g22
        have e24 := g22.bb
        obtain rfl : v19 = (.bl t17) := r23
        refine ⟨_, rfl, ?_⟩
        refine ite_both hm (fun hc26 hm => ?_) (fun hc26 hm => ?_)
        · skip
          try dsimp only at hm
          exact fin _ hm (.bl false) B20 H21 w25 rfl
        · skip
          try dsimp only at hm
          refine ⟨_, rfl, _, rfl, ?_⟩
          refine tn_go ?_
          refine rslT (em := (fun (p : ((List Int) × (List (List (Int × Int))))) => D.tup [(fun (l : List Int) => D.tup (l.map D.int)) p.1, (fun (l : List (List (Int × Int))) => D.tup (l.map (fun (l : List (Int × Int)) => D.tup (l.map (fun (p : (Int × Int)) => D.tup [D.int p.1, D.int p.2]))))) p.2])) (l := u1) (lo := (some (1 : Int))) (hi := none) w25.bh (rr1.mono e24) (fun v27 B28 H29 g30 r31 => ?_)
          have w33 := w25.trans g30
          have e32 := g30.bb
          obtain ⟨p34, x35, ev38, hp36, rl37⟩ := id r31
          subst ev38
          refine ⟨p34, rfl, ⟨x35, (same_t w33.bh hp36)⟩, ?_⟩
          intro D39 hD40
          have g41 := Grow.newOwn (S := S0) (o := .lst []) w33.bh hD40
          have o45 := Own.new (K := K) (ds := []) w33 hD40 rfl
          have w47 := w33.trans g41
          have e46 := g41.bb
          obtain ⟨KL42, hm, hst43, hdn44⟩ := compK nb0 hm
          refine lc_it (walk_tup (K := K) (a := p34) (xs := x35)) (fun i54 H => ∃ (B48 : Hp) (x49 : (List Bool)) (xs50 : List V), Grow S0 B0 H0 B48 H ∧ Same B28 B48 ∧ Own K H0 B48 H D39 xs50 ((x49).map D.bl) ∧ KL42 i54 () x49) ⟨B28, ([] : List Bool), [], w47, (Same.refl _), o45, hm⟩ (fun i54 H56 _ h => ?_) (fun i54 x55 H56 H57 hi h hy => ?_) (fun H58 h => ?_)
          · skip
            obtain ⟨B48, x49, xs50, w51, e52, o53, _⟩ := h
            exact (same_t w51.bh (same_t (e46.trans e52) hp36))
          · skip
            obtain ⟨B48, x49, xs50, w51, e52, o53, hm⟩ := h
            obtain ⟨rfl, q62⟩ := hy
            obtain ⟨a59, ha60, r61⟩ := RepL.getm rl37 q62
            obtain ⟨hlt67, KB63, nb64, hm, hnx65, hno66⟩ := hst43 i54 _ _ _ ha60 hm
            try dsimp only at hm
            refine ⟨rfl, ?_⟩
            refine tyes_go ?_
            refine ⟨_, rfl, _, rfl, ?_⟩
            refine tc_go ?_
            obtain ⟨t68, h69, hm⟩ := bindK nb64 hm
            try dsimp only at hm
            refine rixT (em := (fun (p : ((List Int) × (List (List (Int × Int))))) => D.tup [(fun (l : List Int) => D.tup (l.map D.int)) p.1, (fun (l : List (List (Int × Int))) => D.tup (l.map (fun (l : List (Int × Int)) => D.tup (l.map (fun (p : (Int × Int)) => D.tup [D.int p.1, D.int p.2]))))) p.2])) (rr1.mono (e24.trans (e32.trans (e46.trans e52)))) w51.bh h69 (fun v70 r71 => ?_)
            refine tc_go ?_
            refine rixF (i := (1 : Int)) (d := (fun (l : List (List (Int × Int))) => D.tup (l.map (fun (l : List (Int × Int)) => D.tup (l.map (fun (p : (Int × Int)) => D.tup [D.int p.1, D.int p.2]))))) t68.2) r71 w51.bh (by rfl) (fun v72 r73 => ?_)
            obtain ⟨p74, x75, ev78, hp76, rl77⟩ := id r73
            subst ev78
            refine ⟨p74, x75, rfl, (.inr (same_t w51.bh hp76)), ?_⟩
            rw [RepL.lenm rl77]
            refine ⟨_, rfl, ?_⟩
            obtain ⟨t79, h80, hm⟩ := bindK nb64 hm
            try dsimp only at hm
            refine ⟨B48, u0, (t68.2.length : Int), a59, x55, rfl, w51.bh, (r61.mono (e46.trans e52)), (Post.mk_ h80 fun v81 B82 H83 g84 r85 => ?_)⟩
            have w87 := w51.trans g84
            have e86 := g84.bb
            have o88 := o53.grow g84 (fun _ z => z.elim)
            obtain rfl : v81 = (.bl t79) := r85
            refine ⟨xs50, o88.h, (lt_line (own_lt o88 hlt67)), ?_⟩
            have o89 := o88.put (es := ((x49 ++ [t79])).map D.bl) (o88.r.snocm (a := t79) rfl)
            have w90 := w87.mut (o := (.lst (xs50 ++ [(.bl t79)]))) o88.n0 o88.b o88.h (by rfl)
            have hm := hnx65 _ _ hm
            exact ⟨B82, (x49 ++ [t79]), (xs50 ++ [(.bl t79)]), w90, (e52.trans e86), o89, hm⟩
          · skip
            obtain ⟨B48, x49, xs50, w51, e52, o53, hm⟩ := h
            have hm := hdn44 _ _ _ (Nat.le_of_eq (RepL.lenm rl37).symm) hm
            try dsimp only at hm
            have q91 := o53.r.asBools
            subst q91
            refine ⟨D39, x49, rfl, (SqL.of o53.h), ?_⟩
            exact fin _ hm (.bl (x49.all id)) B48 H58 w51 rfl
    · skip
      try dsimp only at hm
      refine ⟨_, rfl, ?_⟩
      show if (!false) = true then _ else _
      refine iteT ?_
      refine iteT ?_
      exact fin _ hm (.bl false) B0 H0 w0 rfl

theorem sc_is_tell : FnScope ["thing"] ["thing"] (defScope (top 18)) := ⟨rfl, rfl, rfl, by decide +kernel, rfl, by decide +kernel, by decide +kernel⟩
theorem ok_is_tell (T : Txt K mg) : FnOk P w K mg base CX0 2 T.a_is_tell T.f_is_tell ["thing"] (sp_is_tell K T.a_Program) := by
  refine T.d_is_tell.ok sc_is_tell (fun vs H Q E h => ?_) (fun cdv A outer s H0 vs Q E hr h => ?_)
  · obtain ⟨_, _, _, rfl, _⟩ := h
    rfl
  · obtain ⟨B0, u0, vv0, rfl, bh0, rr0, hmp⟩ := h
    obtain ⟨K0, nb0, hm, fin⟩ := hmp.open_
    unfold m_is_tell at hm
    try dsimp only at hm
    have w0 : Grow S0 B0 H0 B0 H0 := Grow.refl bh0
    refine ⟨_, PSs.nox ((pss_one (ps_ret (pe_and (pe_callB (call_isi' (K := K) (by rfl)) (by rfl) T.n_isinstance (by decide +kernel) (pa_cons (pv 0) (pa_cons (pe_bltn (v := .ty "tuple") (by rfl) T.n_tuple (by decide +kernel) rfl) pa_nil))) (pe_and (pe_cmpR op_eqI (pe_callB (call_len_seq' (K := K) (by rfl)) (by rfl) T.n_len (by decide +kernel) (pa_cons (pv 0) pa_nil)) pe_int (nomark _)) (pe_and (pe_call (ok_is_name T) (hr.mono (by decide)) (by rfl) T.g_is_name T.d_is_name.kp T.b_is_name .nil pass0 (pa_cons (pe_ix (ix_tup' (K := K) (by rfl)) (pv 0) pe_int (fun _ _ => rfl)) pa_nil)) (pe_one (pe_call (ok_is_integer T) (hr.mono (by decide)) (by rfl) T.g_is_integer T.d_is_integer.kp T.b_is_integer .nil pass0 (pa_cons (pe_ix (ix_tup' (K := K) (by rfl)) (pv 0) pe_int (fun _ _ => rfl)) pa_nil))))))))), ?_⟩
    refine ⟨_, rfl, ?_⟩
    obtain ⟨p1, x2, ev5, hp3, rl4⟩ := id rr0
    subst ev5
    refine ⟨_, _, _, _, true, rfl, .ty _, (tyX_tuple (same_t w0.bh hp3)), kit_ty (by decide +kernel), ?_⟩
    refine ⟨_, rfl, ?_⟩
    refine iteT ?_
    refine ⟨_, rfl, ?_⟩
    obtain ⟨p6, x7, ev10, hp8, rl9⟩ := id rr0
    cases ev10
    refine ⟨p1, _, rfl, (.inr (same_t w0.bh hp8)), ?_⟩
    rw [show (x7).length = 2 from RepL.length rl9]
    refine ⟨_, _, rfl, rfl, _, rfl, ?_⟩
    refine ite_both hm (fun hc11 hm => ?_) (fun hc11 hm => ?_)
    · skip
      try dsimp only at hm
      refine ⟨_, rfl, ?_⟩
      refine tc_go ?_
      refine rixF (i := (0 : Int)) (d := D.str u0.1) rr0 w0.bh (by rfl) (fun v12 r13 => ?_)
      obtain rfl : v12 = (.str u0.1) := r13
      obtain ⟨t14, h15, hm⟩ := bindK nb0 hm
      try dsimp only at hm
      refine ⟨B0, u0.1, rfl, w0.bh, (Post.mk_ h15 fun v16 B17 H18 g19 r20 => ?_)⟩
      have w22 := w0.trans g19
      have e21 := g19.bb
      obtain rfl : v16 = (.bl t14) := r20
      refine ⟨_, rfl, ?_⟩
      refine ite_both hm (fun hc23 hm => ?_) (fun hc23 hm => ?_)
      · skip
        try dsimp only at hm
        refine ⟨_, rfl, ?_⟩
        refine tc_go ?_
        refine rixF (i := (1 : Int)) (d := D.int u0.2) (rr0.mono e21) w22.bh (by rfl) (fun v24 r25 => ?_)
        obtain rfl : v24 = (.int u0.2) := r25
        obtain ⟨t26, h27, hm⟩ := bindK nb0 hm
        try dsimp only at hm
        refine ⟨B17, u0.2, rfl, w22.bh, (Post.mk_ h27 fun v28 B29 H30 g31 r32 => ?_)⟩
        have w34 := w22.trans g31
        have e33 := g31.bb
        obtain rfl : v28 = (.bl t26) := r32
        exact fin _ hm (.bl t26) B29 H30 w34 rfl
      · skip
        try dsimp only at hm
        exact fin _ hm (.bl false) B17 H18 w22 rfl
    · skip
      try dsimp only at hm
      exact fin _ hm (.bl false) B0 H0 w0 rfl

theorem sc_Program___init__ : FnScope ["self", "kinds", "passes", "tells", "one"] ["self", "kinds", "passes", "tells"] (defScope (inClass (top 19) 0)) := ⟨rfl, rfl, rfl, by decide +kernel, rfl, by decide +kernel, by decide +kernel⟩
theorem ok_Program___init__ (T : Txt K mg) : FnOk P w K mg base CX0 7 T.a_Program___init__ T.f_Program___init__ ["self", "kinds", "passes", "tells"] (sp_Program___init__ K T.a_Program) := by
  refine T.d_Program___init__.ok sc_Program___init__ (fun vs H Q E h => ?_) (fun cdv A outer s H0 vs Q E hr h => ?_)
  · obtain ⟨_, _, _, _, _, _, _, _, _, rfl, _⟩ := h
    rfl
  · obtain ⟨self_, dx, B0, u1, vv1, u2, vv2, u3, vv3, rfl, bh0, sf0, rr1, rr2, rr3, hmp⟩ := h
    obtain ⟨K0, nb0, hm, fin⟩ := hmp.open_
    unfold m_Program___init__ at hm
    try dsimp only at hm
    have w0 : Grow (Sf self_) B0 H0 B0 H0 := Grow.refl bh0
    have hsd := sf0.there
    refine ⟨_, PSs.nox ((pss_cons (ps_if (pt_not (pt_val (pe_call (ok_are_kinds T) (hr.mono (by decide)) (by rfl) T.g_are_kinds T.d_are_kinds.kp T.b_are_kinds .nil pass0 (pa_cons (pv 1) pa_nil)))) (pss_one ps_never) pss_nil)
      (pss_cons (ps_if (pt_not (pt_val (pe_call (ok_are_passes T) (hr.mono (by decide)) (by rfl) T.g_are_passes T.d_are_passes.kp T.b_are_passes .nil pass0 (pa_cons (pe_callB (call_len_seq' (K := K) (by rfl)) (by rfl) T.n_len (by decide +kernel) (pa_cons (pv 1) pa_nil)) (pa_cons (pv 2) pa_nil))))) (pss_one ps_never) pss_nil)
      (pss_cons (ps_if (PW.pt (pw_or (pt_not (pt_val (pe_callB (call_isi' (K := K) (by rfl)) (by rfl) T.n_isinstance (by decide +kernel) (pa_cons (pv 3) (pa_cons (pe_bltn (v := .ty "tuple") (by rfl) T.n_tuple (by decide +kernel) rfl) pa_nil))))) (pw_or (pt_cmpR op_neI (pe_callB (call_len_seq' (K := K) (by rfl)) (by rfl) T.n_len (by decide +kernel) (pa_cons (pv 3) pa_nil)) (pe_callB (call_len_seq' (K := K) (by rfl)) (by rfl) T.n_len (by decide +kernel) (pa_cons (pe_ix (ix_tup' (K := K) (by rfl)) (pe_ix (ix_tup' (K := K) (by rfl)) (pv 2) (pe_un un_neg pe_int) (fun _ _ => rfl)) pe_int (fun _ _ => rfl)) pa_nil)) (nomark _)) (pw_or1 (pt_not (pt_val (pe_callB (cr_all' (K := K) (by rfl) rfl) (by rfl) T.n_all (by decide +kernel) (pa_cons (pe_lc (own := [("one", 4)]) rfl sc_Program___init__.nd (pi_tup' (K := K) (by rfl) (pv 3)) (blkOk_by (own := [("one", 4)]) (N := ["self", "kinds", "passes", "tells", "one"]) (sc := defScope (inClass (top 19) 0)) (by decide +kernel)) (fun _ _ _ _ _ => (pg_name (i := 4) sc_Program___init__.nd rfl (Or.inl rfl))) (fun _ _ _ _ _ => pts_nil) (fun _ _ _ _ _ => (pe_call (ok_is_tell T) (hr.mono (by decide)) (by rfl) T.g_is_tell T.d_is_tell.kp T.b_is_tell .nil pass0 (pa_cons (pv 4) pa_nil)))) pa_nil)))))))) (pss_one ps_never) pss_nil)
      (pss_cons (ps_fld (pv 0) (pv 1) rfl)
      (pss_cons (ps_fld (pv 0) (pv 2) rfl)
      (pss_one (ps_fld (pv 0) (pv 3) rfl)))))))), ?_⟩
    refine ⟨_, rfl, ?_⟩
    obtain ⟨t1, h2, hm⟩ := bindK nb0 hm
    try dsimp only at hm
    refine ⟨B0, u1, vv1, rfl, w0.bh, rr1, (Post.mk_ h2 fun v3 B4 H5 g6 r7 => ?_)⟩
    have w9 := w0.trans g6.of0
    have e8 := g6.bb
    have sf10 := sf0.grow0 g6
    obtain rfl : v3 = (.bl t1) := r7
    refine ⟨_, rfl, ?_⟩
    refine ite_both hm (fun hc11 hm => ?_) (fun hc11 hm => ?_)
    · skip
      try dsimp only at hm
      exact (nb_bad nb0 hm).elim
    · skip
      try dsimp only at hm
      refine ⟨_, rfl, ?_⟩
      obtain ⟨p12, x13, ev16, hp14, rl15⟩ := id (Rep.k2t (rr1.mono e8))
      subst ev16
      refine ⟨p12, x13, rfl, (.inr (same_t w9.bh hp14)), ?_⟩
      rw [RepL.lenm rl15]
      refine ⟨_, rfl, ?_⟩
      obtain ⟨t17, h18, hm⟩ := bindK nb0 hm
      try dsimp only at hm
      refine ⟨B4, (u1.length : Int), u2, vv2, rfl, w9.bh, (rr2.mono e8), (Post.mk_ h18 fun v19 B20 H21 g22 r23 => ?_)⟩
      have w25 := w9.trans g22.of0
      have e24 := g22.bb
      have sf26 := sf10.grow0 g22
      obtain rfl : v19 = (.bl t17) := r23
      refine ⟨_, rfl, ?_⟩
      refine ite_both hm (fun hc27 hm => ?_) (fun hc27 hm => ?_)
      · skip
        try dsimp only at hm
        exact (nb_bad nb0 hm).elim
      · skip
        try dsimp only at hm
        refine ⟨_, rfl, ?_⟩
        obtain ⟨p28, x29, ev32, hp30, rl31⟩ := id (rr3.mono (e8.trans e24))
        subst ev32
        refine ⟨_, _, _, _, true, rfl, .ty _, (tyX_tuple (same_t w25.bh hp30)), kit_ty (by decide +kernel), ?_⟩
        refine ⟨_, rfl, ?_⟩
        show if (!true) = true then _ else _
        refine iteF ?_
        refine ⟨_, rfl, ?_⟩
        obtain ⟨p33, x34, ev37, hp35, rl36⟩ := id (rr3.mono (e8.trans e24))
        cases ev37
        refine ⟨p28, x34, rfl, (.inr (same_t w25.bh hp35)), ?_⟩
        rw [RepL.lenm rl36]
        refine ⟨_, rfl, _, rfl, ?_⟩
        obtain ⟨t38, h39, hm⟩ := bindK nb0 hm
        try dsimp only at hm
        refine rixT (em := (fun (p : ((List Int) × (List (List (Int × Int))))) => D.tup [(fun (l : List Int) => D.tup (l.map D.int)) p.1, (fun (l : List (List (Int × Int))) => D.tup (l.map (fun (l : List (Int × Int)) => D.tup (l.map (fun (p : (Int × Int)) => D.tup [D.int p.1, D.int p.2]))))) p.2])) (rr2.mono (e8.trans e24)) w25.bh h39 (fun v40 r41 => ?_)
        refine tc_go ?_
        refine rixF (i := (1 : Int)) (d := (fun (l : List (List (Int × Int))) => D.tup (l.map (fun (l : List (Int × Int)) => D.tup (l.map (fun (p : (Int × Int)) => D.tup [D.int p.1, D.int p.2]))))) t38.2) r41 w25.bh (by rfl) (fun v42 r43 => ?_)
        obtain ⟨p44, x45, ev48, hp46, rl47⟩ := id r43
        subst ev48
        refine ⟨p44, x45, rfl, (.inr (same_t w25.bh hp46)), ?_⟩
        rw [RepL.lenm rl47]
        refine ⟨_, _, rfl, rfl, _, rfl, ?_⟩
        refine ite_both hm (fun hc49 hm => ?_) (fun hc49 hm => ?_)
        · skip
          try dsimp only at hm
          refine iteT ?_
          exact (nb_bad nb0 hm).elim
        · skip
          try dsimp only at hm
          refine ⟨_, rfl, ?_⟩
          obtain ⟨p50, x51, ev54, hp52, rl53⟩ := id (rr3.mono (e8.trans e24))
          cases ev54
          refine ⟨p28, rfl, ⟨x51, (same_t w25.bh hp52)⟩, ?_⟩
          intro D55 hD56
          have g57 := Grow.newOwn (S := S0) (o := .lst []) w25.bh hD56
          have o61 := Own.new (K := K) (ds := []) w25 hD56 rfl
          have w63 := w25.trans g57.of0
          have e62 := g57.bb
          have sf64 := sf26.grow0 g57
          obtain ⟨KL58, hm, hst59, hdn60⟩ := compK nb0 hm
          refine lc_it (walk_tup (K := K) (a := p28) (xs := x51)) (fun i72 H => ∃ (B65 : Hp) (x66 : (List Bool)) (xs67 : List V), Grow (Sf self_) B0 H0 B65 H ∧ Same B20 B65 ∧ Own K H0 B65 H D55 xs67 ((x66).map D.bl) ∧ SelfAt T.a_Program self_ dx B65 H [] ∧ KL58 i72 () x66) ⟨B20, ([] : List Bool), [], w63, (Same.refl _), o61, sf64, hm⟩ (fun i72 H74 _ h => ?_) (fun i72 x73 H74 H75 hi h hy => ?_) (fun H76 h => ?_)
          · skip
            obtain ⟨B65, x66, xs67, w68, e69, o70, sf71, _⟩ := h
            exact (same_t w68.bh (same_t (e62.trans e69) hp52))
          · skip
            obtain ⟨B65, x66, xs67, w68, e69, o70, sf71, hm⟩ := h
            obtain ⟨rfl, q80⟩ := hy
            obtain ⟨a77, ha78, r79⟩ := RepL.getm rl53 q80
            obtain ⟨hlt85, KB81, nb82, hm, hnx83, hno84⟩ := hst59 i72 _ _ _ ha78 hm
            try dsimp only at hm
            refine ⟨rfl, ?_⟩
            refine tyes_go ?_
            refine ⟨_, rfl, ?_⟩
            obtain ⟨t86, h87, hm⟩ := bindK nb82 hm
            try dsimp only at hm
            refine ⟨B65, a77, x73, rfl, w68.bh, (r79.mono (e62.trans e69)), (Post.mk_ h87 fun v88 B89 H90 g91 r92 => ?_)⟩
            have w94 := w68.trans g91.of0
            have e93 := g91.bb
            have o95 := o70.grow g91 (fun _ z => z.elim)
            have sf96 := sf71.grow0 g91
            obtain rfl : v88 = (.bl t86) := r92
            refine ⟨xs67, o95.h, (lt_line (own_lt o95 hlt85)), ?_⟩
            have o97 := o95.put (es := ((x66 ++ [t86])).map D.bl) (o95.r.snocm (a := t86) rfl)
            have w98 := w94.mut (o := (.lst (xs67 ++ [(.bl t86)]))) o95.n0 o95.b o95.h (by rfl)
            have sf99 := sf96.mut (o := (.lst (xs67 ++ [(.bl t86)]))) (o97.apart hsd rfl)
            have hm := hnx83 _ _ hm
            exact ⟨B89, (x66 ++ [t86]), (xs67 ++ [(.bl t86)]), w98, (e69.trans e93), o97, sf99, hm⟩
          · skip
            obtain ⟨B65, x66, xs67, w68, e69, o70, sf71, hm⟩ := h
            have hm := hdn60 _ _ _ (Nat.le_of_eq (RepL.lenm rl53).symm) hm
            try dsimp only at hm
            have q100 := o70.r.asBools
            subst q100
            refine ⟨D55, x66, rfl, (SqL.of o70.h), _, rfl, ?_⟩
            refine ite_both hm (fun hc101 hm => ?_) (fun hc101 hm => ?_)
            · skip
              try dsimp only at hm
              exact (nb_bad nb0 hm).elim
            · skip
              try dsimp only at hm
              refine ⟨_, rfl, _, rfl, ?_⟩
              refine ⟨self_, T.a_Program, dx, [], rfl, sf71.h, T.cl_Program, T.na_Program_p_kinds, (Nat.lt_of_le_of_lt (Nat.le_refl 0) (by decide : 0 < 1000)), ?_⟩
              have sf102 := sf71.put "p_kinds" (.ref p12)
              have w103 := w68.mutS (o := .ins T.a_Program dx (putF "p_kinds" (.ref p12) [])) sf71.b sf71.h rfl
              have o104 := o70.other (u := .ins T.a_Program dx (putF "p_kinds" (.ref p12) [])) (o70.apart hsd rfl)
              refine ⟨_, rfl, _, rfl, ?_⟩
              refine ⟨self_, T.a_Program, dx, (putF "p_kinds" (.ref p12) []), rfl, sf102.h, T.cl_Program, T.na_Program_p_passes, (Nat.lt_of_le_of_lt (Nat.le_trans (length_putF _ _ _) (Nat.succ_le_succ (Nat.le_refl 0))) (by decide : 1 < 1000)), ?_⟩
              have sf105 := sf102.put "p_passes" vv2
              have w106 := w103.mutS (o := .ins T.a_Program dx (putF "p_passes" vv2 (putF "p_kinds" (.ref p12) []))) sf102.b sf102.h rfl
              have o107 := o104.other (u := .ins T.a_Program dx (putF "p_passes" vv2 (putF "p_kinds" (.ref p12) []))) (o104.apart hsd rfl)
              refine ⟨_, rfl, _, rfl, ?_⟩
              refine ⟨self_, T.a_Program, dx, (putF "p_passes" vv2 (putF "p_kinds" (.ref p12) [])), rfl, sf105.h, T.cl_Program, T.na_Program_p_tells, (Nat.lt_of_le_of_lt (Nat.le_trans (length_putF _ _ _) (Nat.succ_le_succ (Nat.le_trans (length_putF _ _ _) (Nat.succ_le_succ (Nat.le_refl 0))))) (by decide : 2 < 1000)), ?_⟩
              have sf108 := sf105.put "p_tells" (.ref p28)
              have w109 := w106.mutS (o := .ins T.a_Program dx (putF "p_tells" (.ref p28) (putF "p_passes" vv2 (putF "p_kinds" (.ref p12) [])))) sf105.b sf105.h rfl
              have o110 := o107.other (u := .ins T.a_Program dx (putF "p_tells" (.ref p28) (putF "p_passes" vv2 (putF "p_kinds" (.ref p12) [])))) (o107.apart hsd rfl)
              exact fin hm B65 (upd (upd (upd H76 self_ (.ins T.a_Program dx (putF "p_kinds" (.ref p12) []))) self_ (.ins T.a_Program dx (putF "p_passes" vv2 (putF "p_kinds" (.ref p12) [])))) self_ (.ins T.a_Program dx (putF "p_tells" (.ref p28) (putF "p_passes" vv2 (putF "p_kinds" (.ref p12) []))))) w109 sf108

theorem sc_l_pick_3 : FnScope ["_law_draw", "_law_some"] ["_law_draw", "_law_some"] (defScope (top 30)) := ⟨rfl, rfl, rfl, by decide +kernel, rfl, by decide +kernel, by decide +kernel⟩
theorem ok_l_pick_3 (T : Txt K mg) : FnOk P w K mg base CX0 2 T.a_l_pick T.f_l_pick ["_law_draw", "_law_some"] (sp_l_pick_3 K T.a_Program) := by
  refine T.d_l_pick.ok sc_l_pick_3 (fun vs H Q E h => ?_) (fun cdv A outer s H0 vs Q E hr h => ?_)
  · obtain ⟨_, _, _, _, _, _, rfl, _⟩ := h
    rfl
  · obtain ⟨a, c, s0, B0, u1, vv1, rfl, bh0, rr1, hs0, hmp⟩ := h
    obtain ⟨K0, nb0, hm, fin⟩ := hmp.open_
    unfold m_l_pick_3 at hm
    try dsimp only at hm
    have w0 : Grow (Sx a c) B0 H0 B0 H0 := Grow.refl bh0
    have hsd := hs0.there
    refine ⟨_, PSs.nox ((pss_one (ps_ret (pe_ix (ix_tup' (K := K) (by rfl)) (pv 1) (pe_call (ok_l_take T) (hr.mono (by decide)) (by rfl) T.g_l_take T.d_l_take.kp T.b_l_take .nil pass0 (pa_cons (pv 0) (pa_cons (pe_callB (call_len_seq' (K := K) (by rfl)) (by rfl) T.n_len (by decide +kernel) (pa_cons (pv 1) pa_nil)) pa_nil))) (fun _ _ => rfl))))), ?_⟩
    refine ⟨_, rfl, _, rfl, _, rfl, ?_⟩
    obtain ⟨p1, x2, ev5, hp3, rl4⟩ := id (Rep.k2t rr1)
    subst ev5
    refine ⟨p1, x2, rfl, (.inr (same_t w0.bh hp3)), ?_⟩
    rw [RepL.lenm rl4]
    obtain ⟨t6, h7, hm⟩ := bindK nb0 hm
    try dsimp only at hm
    refine ⟨a, c, s0, B0, (u1.length : Int), rfl, w0.bh, hs0, (PostS.mk_ h7 fun v8 B9 H10 g11 hs13 r12 => ?_)⟩
    have w15 := w0.trans g11
    have e14 := g11.bb
    obtain rfl : v8 = (.int t6.2) := r12
    obtain ⟨t16, h17, hm⟩ := bindK nb0 hm
    try dsimp only at hm
    refine rixT (em := D.str) (Rep.k2t (rr1.mono e14)) w15.bh h17 (fun v18 r19 => ?_)
    obtain rfl : v18 = (.str t16) := r19
    exact fin _ _ hm (.str t16) B9 H10 w15 hs13 rfl

theorem sc_l_any_order : FnScope ["_law_draw", "_law_kinds", "_law_most", "_law_turn"] ["_law_draw", "_law_kinds", "_law_most"] (defScope (top 36)) := ⟨rfl, rfl, rfl, by decide +kernel, rfl, by decide +kernel, by decide +kernel⟩
theorem ok_l_any_order (T : Txt K mg) : FnOk P w K mg base CX0 3 T.a_l_any_order T.f_l_any_order ["_law_draw", "_law_kinds", "_law_most"] (sp_l_any_order K T.a_Program) := by
  refine T.d_l_any_order.ok sc_l_any_order (fun vs H Q E h => ?_) (fun cdv A outer s H0 vs Q E hr h => ?_)
  · obtain ⟨_, _, _, _, _, _, _, rfl, _⟩ := h
    rfl
  · obtain ⟨a, c, s0, B0, u1, vv1, u2, rfl, bh0, rr1, hs0, hmp⟩ := h
    obtain ⟨K0, nb0, hm, fin⟩ := hmp.open_
    unfold m_l_any_order at hm
    try dsimp only at hm
    have w0 : Grow (Sx a c) B0 H0 B0 H0 := Grow.refl bh0
    have hsd := hs0.there
    refine ⟨_, PSs.nox ((pss_one (ps_ret (pe_callTy (call_tuple_of' (K := K) (by rfl)) (by rfl) T.n_tuple (by decide +kernel) (pa_cons (pe_lc (own := [("_law_turn", 3)]) rfl sc_l_any_order.nd (pi_range1 (by rfl) T.n_range (pa_cons (pe_call (ok_l_take T) (hr.mono (by decide)) (by rfl) T.g_l_take T.d_l_take.kp T.b_l_take .nil pass0 (pa_cons (pv 0) (pa_cons (pe_op op_add (pv 2) pe_int) pa_nil))) pa_nil)) (blkOk_by (own := [("_law_turn", 3)]) (N := ["_law_draw", "_law_kinds", "_law_most", "_law_turn"]) (sc := defScope (top 36)) (by decide +kernel)) (fun _ _ _ _ _ => (pg_name (i := 3) sc_l_any_order.nd rfl (Or.inl rfl))) (fun _ _ _ _ _ => pts_nil) (fun _ _ _ _ _ => (pe_call (ok_l_pick_3 T) (hr.mono (by decide)) (by rfl) T.g_l_pick T.d_l_pick.kp T.b_l_pick .nil pass0 (pa_cons (pv 0) (pa_cons (pv 1) pa_nil))))) pa_nil))))), ?_⟩
    refine ⟨_, rfl, _, rfl, _, _, rfl, rfl, ?_⟩
    obtain ⟨t1, h2, hm⟩ := bindK nb0 hm
    try dsimp only at hm
    refine ⟨a, c, s0, B0, (u2 + (1 : Int)), rfl, w0.bh, hs0, (PostS.mk_ h2 fun v3 B4 H5 g6 hs8 r7 => ?_)⟩
    have w10 := w0.trans g6
    have e9 := g6.bb
    obtain rfl : v3 = (.int t1.2) := r7
    obtain ⟨l11, h12, hm⟩ := bindK nb0 hm
    try dsimp only at hm
    obtain ⟨h12c, rfl⟩ := rangeR_ok h12
    refine ⟨_, rfl, h12c.2.2.1, h12c.2.2.2, ?_⟩
    intro D13 hD14
    have g15 := Grow.newOwn (S := S0) (o := .lst []) w10.bh hD14
    have o19 := Own.new (K := K) (ds := []) w10 hD14 rfl
    have w21 := w10.trans g15.of0
    have e20 := g15.bb
    have hs22 := hs8.grow0 g15
    obtain ⟨KL16, hm, hst17, hdn18⟩ := compK nb0 hm
    refine lc_it (walk_range (lo := 0) (n := (t1.2).toNat)) (fun i31 H => ∃ (B23 : Hp) (x24 : (List Str)) (xs25 : List V) (s26 : Src), Grow (Sx a c) B0 H0 B23 H ∧ Same B4 B23 ∧ Own K H0 B23 H D13 xs25 ((x24).map D.str) ∧ SrcAt a c B23 H s26 ∧ KL16 i31 s26 x24) ⟨B4, ([] : List Str), [], t1.1, w21, (Same.refl _), o19, hs22, hm⟩ (fun i31 H33 _ h => ?_) (fun i31 x32 H33 H34 hi h hy => ?_) (fun H35 h => ?_)
    · skip
      obtain ⟨B23, x24, xs25, s26, w27, e28, o29, hs30, _⟩ := h
      exact trivial
    · skip
      obtain ⟨B23, x24, xs25, s26, w27, e28, o29, hs30, hm⟩ := h
      obtain ⟨rfl, rfl⟩ := hy
      have ha37 := rng_at1 (lo := (0 : Int)) (hi := t1.2) hi
      obtain ⟨hlt42, KB38, nb39, hm, hnx40, hno41⟩ := hst17 i31 _ _ _ ha37 hm
      try dsimp only at hm
      refine ⟨rfl, ?_⟩
      refine tyes_go ?_
      refine ⟨_, rfl, _, rfl, ?_⟩
      obtain ⟨t43, h44, hm⟩ := bindK nb39 hm
      try dsimp only at hm
      refine ⟨a, c, s26, B23, u1, vv1, rfl, w27.bh, (rr1.mono (e9.trans (e20.trans e28))), hs30, (PostS.mk_ h44 fun v45 B46 H47 g48 hs50 r49 => ?_)⟩
      have w52 := w27.trans g48
      have e51 := g48.bb
      have o53 := o29.grow g48 hsd
      obtain rfl : v45 = (.str t43.2) := r49
      refine ⟨xs25, o53.h, (lt_line (own_lt o53 hlt42)), ?_⟩
      have o54 := o53.put (es := ((x24 ++ [t43.2])).map D.str) (o53.r.snocm (a := t43.2) rfl)
      have w55 := w52.mut (o := (.lst (xs25 ++ [(.str t43.2)]))) o53.n0 o53.b o53.h (by rfl)
      have hs56 := hs50.mut (u := (.lst (xs25 ++ [(.str t43.2)]))) o53 hsd
      have hm := hnx40 _ _ hm
      exact ⟨B46, (x24 ++ [t43.2]), (xs25 ++ [(.str t43.2)]), t43.1, w55, (e28.trans e51), o54, hs56, hm⟩
    · skip
      obtain ⟨B23, x24, xs25, s26, w27, e28, o29, hs30, hm⟩ := h
      have hm := hdn18 _ _ _ (rng_len1 (lo := (0 : Int)) (hi := t1.2)) hm
      try dsimp only at hm
      refine ⟨D13, xs25, rfl, .inl ⟨SqL.of o29.h, fun l57 hn58 => ?_⟩⟩
      have g59 := Grow.new (S := S0) (o := (.tup xs25)) w27.bh hn58
      have r60 : Rep K (upd B23 l57 (.tup xs25)) ((fun (l : List Str) => D.tup (l.map D.str)) x24) (.ref l57) := ⟨l57, xs25, rfl, SqT.of upd_same, (RepL.mono (same_upd (same_free w27.bh hn58)) (show RepL K B23 ((x24).map D.str) _ from o29.r))⟩
      have w62 := w27.trans g59.of0
      have e61 := g59.bb
      have o63 := o29.grow g59 (fun _ z => z.elim)
      have hs64 := hs30.grow0 g59
      exact fin _ _ hm (.ref l57) (upd B23 l57 (.tup xs25)) (upd H35 l57 (.tup xs25)) w62 hs64 r60

theorem sc_l_ran : FnScope ["_law_parts", "_law_word", "_law_kinds", "_law_passes", "_law_tells", "_law_state", "_law_total", "_law_begins", "_law_rows", "_law_kind", "_law_gain"] ["_law_parts", "_law_word"] (defScope (top 35)) := ⟨rfl, rfl, rfl, by decide +kernel, rfl, by decide +kernel, by decide +kernel⟩
theorem ok_l_ran (T : Txt K mg) : FnOk P w K mg base CX0 1 T.a_l_ran T.f_l_ran ["_law_parts", "_law_word"] (sp_l_ran K T.a_Program) := by
  refine T.d_l_ran.ok sc_l_ran (fun vs H Q E h => ?_) (fun cdv A outer s H0 vs Q E hr h => ?_)
  · obtain ⟨_, _, _, _, _, rfl, _⟩ := h
    rfl
  · obtain ⟨B0, u0, vv0, u1, vv1, rfl, bh0, rr0, rr1, hmp⟩ := h
    obtain ⟨K0, nb0, hm, fin⟩ := hmp.open_
    unfold m_l_ran at hm
    try dsimp only at hm
    have w0 : Grow S0 B0 H0 B0 H0 := Grow.refl bh0
    refine ⟨_, PSs.nox ((pss_cons (ps_asg (pv 0) (pg_tup' (K := K) (n := 3) (by rfl) rfl (pgs_cons (pg_name (i := 2) sc_l_ran.nd rfl (Or.inl rfl)) (pgs_cons (pg_name (i := 3) sc_l_ran.nd rfl (Or.inl rfl)) (pgs_cons (pg_name (i := 4) sc_l_ran.nd rfl (Or.inl rfl)) pgs_nil)))))
      (pss_cons (ps_asg (pe_tup (pa_cons pe_int (pa_cons pe_int pa_nil))) (pg_tup' (K := K) (n := 2) (by rfl) rfl (pgs_cons (pg_name (i := 5) sc_l_ran.nd rfl (Or.inl rfl)) (pgs_cons (pg_name (i := 6) sc_l_ran.nd rfl (Or.inl rfl)) pgs_nil))))
      (pss_cons (ps_for PassesOwn.never rfl (pi_tup' (K := K) (by rfl) (pv 3)) (pg_tup' (K := K) (n := 2) (by rfl) rfl (pgs_cons (pg_name (i := 7) sc_l_ran.nd rfl (Or.inl rfl)) (pgs_cons (pg_name (i := 8) sc_l_ran.nd rfl (Or.inl rfl)) pgs_nil)))
      (pss_cons (ps_set (i := 5) sc_l_ran.nd rfl (Or.inl rfl) (pe_ix (ix_tup' (K := K) (by rfl)) (pv 7) (pv 5) (fun _ _ => rfl)))
      (pss_one (ps_for PassesOwn.never rfl (pi_tup' (K := K) (by rfl) (pv 1)) (pg_name (i := 9) sc_l_ran.nd rfl (Or.inl rfl))
      (pss_cons (ps_asg (pe_ix (ix_tup' (K := K) (by rfl)) (pe_ix (ix_tup' (K := K) (by rfl)) (pv 8) (pv 5) (fun _ _ => rfl)) (pe_tindex' (K := K) (by rfl) (pv 2) (pv 9)) (fun _ _ => rfl)) (pg_tup' (K := K) (n := 2) (by rfl) rfl (pgs_cons (pg_name (i := 5) sc_l_ran.nd rfl (Or.inl rfl)) (pgs_cons (pg_name (i := 10) sc_l_ran.nd rfl (Or.inl rfl)) pgs_nil))))
      (pss_one (ps_set (i := 6) sc_l_ran.nd rfl (Or.inl rfl) (pe_op op_add (pv 6) (pv 10)))))))))
      (pss_one (ps_ret (pe_tup (pa_cons (pe_ix (ix_tup' (K := K) (by rfl)) (pe_ix (ix_tup' (K := K) (by rfl)) (pv 4) (pv 5) (fun _ _ => rfl)) pe_int (fun _ _ => rfl)) (pa_cons (pe_op op_add (pv 6) (pe_ix (ix_tup' (K := K) (by rfl)) (pe_ix (ix_tup' (K := K) (by rfl)) (pv 4) (pv 5) (fun _ _ => rfl)) pe_int (fun _ _ => rfl))) pa_nil))))))))), ?_⟩
    refine ⟨_, rfl, ?_⟩
    obtain ⟨p1, x2, ev, hp3, ⟨v8, _, rfl, r9, ⟨v6, _, rfl, r7, ⟨v4, _, rfl, r5, rfl⟩⟩⟩⟩ := rr0
    subst ev
    refine ⟨p1, _, rfl, (same_t w0.bh hp3), rfl, _, _, rfl, _, _, rfl, _, _, rfl, rfl, ?_⟩
    refine ⟨by show 2 ≤ sizeLine; decide, fun T10 hT11 => ?_⟩
    have g12 := Grow.newOwn (S := S0) (o := .tup [(.int (0 : Int)), (.int (0 : Int))]) w0.bh hT11
    have w14 := w0.trans g12
    have e13 := g12.bb
    refine ⟨T10, _, rfl, (SqT.of upd_same), rfl, _, _, rfl, _, _, rfl, rfl, ?_⟩
    refine ⟨_, rfl, ?_⟩
    obtain ⟨p16, x17, ev20, hp18, rl19⟩ := id (r7.mono e13)
    subst ev20
    refine ⟨p16, rfl, ⟨x17, (same_t w14.bh hp18)⟩, ?_⟩
    obtain ⟨KL30, hm, hst31, hdn32⟩ := forK nb0 hm
    refine for_it (walk_tup (K := K) (a := p16) (xs := x17)) (fun i33 σ H => ∃ (B21 : Hp) (x22 : Int) (x23 : Int) (d24 : Option V) (d25 : Option V) (d26 : Option V) (d27 : Option V), σ = [some (.ref p1), some vv1, some v8, some (.ref p16), some v4, some (.int x22), some (.int x23), d24, d25, d26, d27] ∧ Grow S0 B0 H0 B21 H ∧ Same B0 B21 ∧ KL30 i33 (x22, x23)) ⟨B0, (0 : Int), (0 : Int), _, _, _, _, rfl, w14, (Same.refl _), hm⟩ (fun i33 σ H35 _ h => ?_) (fun i33 x34 σ H35 H36 hi h hy => ?_) (fun σ H37 h => ?_)
    · skip
      obtain ⟨B21, x22, x23, d24, d25, d26, d27, rfl, w28, e29, _⟩ := h
      exact (same_t w28.bh (same_t e29 hp18))
    · skip
      obtain ⟨B21, x22, x23, d24, d25, d26, d27, rfl, w28, e29, hm⟩ := h
      obtain ⟨rfl, q41⟩ := hy
      obtain ⟨a38, ha39, r40⟩ := RepL.getm rl19 q41
      obtain ⟨KB42, nb43, hm, hnx44⟩ := hst31 i33 _ _ ha39 hm
      try dsimp only at hm
      obtain ⟨p47, x48, ev, hp49, ⟨v52, _, rfl, r53, ⟨v50, _, rfl, r51, rfl⟩⟩⟩ := (r40.mono e29)
      subst ev
      refine ⟨p47, _, rfl, (same_t w28.bh hp49), rfl, _, _, rfl, _, _, rfl, rfl, ?_⟩
      refine ⟨_, rfl, _, rfl, ?_⟩
      obtain ⟨t54, h55, hm⟩ := bindK nb43 hm
      try dsimp only at hm
      refine rixT (em := D.int) r53 w28.bh h55 (fun v56 r57 => ?_)
      obtain rfl : v56 = (.int t54) := r57
      refine ⟨_, rfl, ?_⟩
      obtain ⟨p59, x60, ev63, hp61, rl62⟩ := id (rr1.mono (e13.trans e29))
      subst ev63
      refine ⟨p59, rfl, ⟨x60, (same_t w28.bh hp61)⟩, ?_⟩
      obtain ⟨KL71, hm, hst72, hdn73⟩ := forK nb43 hm
      refine for_it (walk_tup (K := K) (a := p59) (xs := x60)) (fun i74 σ H => ∃ (B64 : Hp) (x65 : Int) (x66 : Int) (d67 : Option V) (d68 : Option V), σ = [some (.ref p1), some (.ref p59), some v8, some (.ref p16), some v4, some (.int x65), some (.int x66), some v52, some v50, d67, d68] ∧ Grow S0 B0 H0 B64 H ∧ Same B21 B64 ∧ KL71 i74 (x65, x66)) ⟨B21, t54, x23, _, _, rfl, w28, (Same.refl _), hm⟩ (fun i74 σ H76 _ h => ?_) (fun i74 x75 σ H76 H77 hi h hy => ?_) (fun σ H78 h => ?_)
      · skip
        obtain ⟨B64, x65, x66, d67, d68, rfl, w69, e70, _⟩ := h
        exact (same_t w69.bh (same_t e70 hp61))
      · skip
        obtain ⟨B64, x65, x66, d67, d68, rfl, w69, e70, hm⟩ := h
        obtain ⟨rfl, q82⟩ := hy
        obtain ⟨a79, ha80, r81⟩ := RepL.getm rl62 q82
        obtain ⟨KB83, nb84, hm, hnx85⟩ := hst72 i74 _ _ ha80 hm
        try dsimp only at hm
        obtain rfl : x75 = (.str a79) := r81
        refine ⟨_, rfl, _, rfl, ?_⟩
        obtain ⟨t88, h89, hm⟩ := bindK nb84 hm
        try dsimp only at hm
        refine rixT (em := (fun (l : List (Int × Int)) => D.tup (l.map (fun (p : (Int × Int)) => D.tup [D.int p.1, D.int p.2])))) (r51.mono e70) w69.bh h89 (fun v90 r91 => ?_)
        refine ⟨_, rfl, ?_⟩
        obtain ⟨p92, x93, ob94, ev97, hp95, rl96⟩ := id (r9.mono (e13.trans (e29.trans e70)))
        subst ev97
        refine ⟨⟨p92, ob94, x93, rfl, w69.bh _ _ hp95.1, hp95.2⟩, _, rfl, ?_⟩
        have sq99 : SqT K H77 p92 x93 := .inl (.inr ⟨_, w69.bh _ _ hp95.1⟩)
        have q98 := rl96.asStrs
        subst q98
        obtain ⟨t100, h101, hm⟩ := bindK nb84 hm
        try dsimp only at hm
        obtain ⟨j102, rfl, h101a, h101b⟩ := indexS_ok h101
        refine ⟨p92, u0.1, _, j102, rfl, rfl, sq99, h101a, h101b, ?_⟩
        obtain ⟨t103, h104, hm⟩ := bindK nb84 hm
        try dsimp only at hm
        refine rixT (em := (fun (p : (Int × Int)) => D.tup [D.int p.1, D.int p.2])) r91 w69.bh h104 (fun v105 r106 => ?_)
        obtain ⟨p107, x108, ev, hp109, ⟨v112, _, rfl, r113, ⟨v110, _, rfl, r111, rfl⟩⟩⟩ := r106
        subst ev
        obtain rfl : v112 = (.int t103.1) := r113
        obtain rfl : v110 = (.int t103.2) := r111
        refine ⟨p107, _, rfl, (same_t w69.bh hp109), rfl, _, _, rfl, _, _, rfl, rfl, ?_⟩
        refine ⟨_, rfl, _, rfl, _, _, rfl, rfl, ?_⟩
        have hm := hnx85 _ hm
        exact ⟨B64, t103.1, (x66 + t103.2), _, _, rfl, w69, e70, hm⟩
      · skip
        obtain ⟨B64, x65, x66, d67, d68, rfl, w69, e70, hm⟩ := h
        have hm := hdn73 _ _ (Nat.le_of_eq (RepL.lenm rl62).symm) hm
        try dsimp only at hm
        have hm := hnx44 _ hm
        exact ⟨B64, x65, x66, _, _, _, _, rfl, w69, (e29.trans e70), hm⟩
    · skip
      obtain ⟨B21, x22, x23, d24, d25, d26, d27, rfl, w28, e29, hm⟩ := h
      have hm := hdn32 _ _ (Nat.le_of_eq (RepL.lenm rl19).symm) hm
      try dsimp only at hm
      refine ⟨_, rfl, _, rfl, ?_⟩
      obtain ⟨t114, h115, hm⟩ := bindK nb0 hm
      try dsimp only at hm
      refine rixT (em := (fun (p : (Str × Int)) => D.tup [D.str p.1, D.int p.2])) (r5.mono (e13.trans e29)) w28.bh h115 (fun v116 r117 => ?_)
      refine tc_go ?_
      refine rixF (i := (0 : Int)) (d := D.str t114.1) r117 w28.bh (by rfl) (fun v118 r119 => ?_)
      obtain rfl : v118 = (.str t114.1) := r119
      refine ⟨_, rfl, _, rfl, _, rfl, ?_⟩
      obtain ⟨t120, h121, hm⟩ := bindK nb0 hm
      try dsimp only at hm
      refine rixT (em := (fun (p : (Str × Int)) => D.tup [D.str p.1, D.int p.2])) (r5.mono (e13.trans e29)) w28.bh h121 (fun v122 r123 => ?_)
      refine tc_go ?_
      refine rixF (i := (1 : Int)) (d := D.int t120.2) r123 w28.bh (by rfl) (fun v124 r125 => ?_)
      obtain rfl : v124 = (.int t120.2) := r125
      refine ⟨_, _, rfl, rfl, ?_⟩
      refine ⟨by show 2 ≤ sizeLine; decide, fun p126 hp127 => ?_⟩
      have g128 := Grow.new (S := S0) (o := (.tup [(.str t114.1), (.int (x23 + t120.2))])) w28.bh hp127
      have r129 : Rep K (upd B21 p126 (.tup [(.str t114.1), (.int (x23 + t120.2))])) ((fun (p : (Str × Int)) => D.tup [D.str p.1, D.int p.2]) (t114.1, (x23 + t120.2))) (.ref p126) := ⟨p126, [(.str t114.1), (.int (x23 + t120.2))], rfl, SqT.of upd_same, (RepL.mono (same_upd (same_free w28.bh hp127)) (RepL.cons rfl (RepL.cons rfl RepL.nil)))⟩
      have w131 := w28.trans g128
      have e130 := g128.bb
      exact fin _ hm (.ref p126) (upd B21 p126 (.tup [(.str t114.1), (.int (x23 + t120.2))])) (upd H37 p126 (.tup [(.str t114.1), (.int (x23 + t120.2))])) w131 r129

theorem sc_need_order : FnScope ["program", "order", "index", "kind"] ["program", "order"] (defScope (top 20)) := ⟨rfl, rfl, rfl, by decide +kernel, rfl, by decide +kernel, by decide +kernel⟩
theorem ok_need_order (T : Txt K mg) : FnOk P w K mg base CX0 3 T.a_need_order T.f_need_order ["program", "order"] (sp_need_order K T.a_Program) := by
  refine T.d_need_order.ok sc_need_order (fun vs H Q E h => ?_) (fun cdv A outer s H0 vs Q E hr h => ?_)
  · obtain ⟨_, _, _, _, _, rfl, _⟩ := h
    rfl
  · obtain ⟨B0, u0, vv0, u1, vv1, rfl, bh0, rr0, rr1, hmp⟩ := h
    obtain ⟨K0, nb0, hm, fin⟩ := hmp.open_
    unfold m_need_order at hm
    try dsimp only at hm
    have w0 : Grow S0 B0 H0 B0 H0 := Grow.refl bh0
    refine ⟨_, PSs.nox ((pss_cons (ps_if (pt_not (pt_val (pe_callB (call_isiT' (K := K) (by rfl)) (by rfl) T.n_isinstance (by decide +kernel) (pa_cons (pv 1) (pa_cons (pe_tup (pa_cons (pe_bltn (v := .ty "list") (by rfl) T.n_list (by decide +kernel) rfl) (pa_cons (pe_bltn (v := .ty "tuple") (by rfl) T.n_tuple (by decide +kernel) rfl) pa_nil))) pa_nil))))) pss_never pss_nil)
      (pss_one (ps_for PassesOwn.never rfl (pi_enumT' (K := K) (by rfl) (by rfl) T.n_enumerate (pa_cons (pv 1) pa_nil)) (pg_tup' (K := K) (n := 2) (by rfl) rfl (pgs_cons (pg_name (i := 2) sc_need_order.nd rfl (Or.inl rfl)) (pgs_cons (pg_name (i := 3) sc_need_order.nd rfl (Or.inl rfl)) pgs_nil)))
      (pss_one (ps_if (PW.pt (pw_or (pt_not (pt_val (pe_callB (call_isi' (K := K) (by rfl)) (by rfl) T.n_isinstance (by decide +kernel) (pa_cons (pv 3) (pa_cons (pe_bltn (v := .ty "str") (by rfl) T.n_str (by decide +kernel) rfl) pa_nil))))) (pw_or1 (pt_cmpR (op_notIn_seq' (K := K) (by rfl)) (pv 3) (pe_prop (pv 0) T.cl_Program T.pr_kinds (getter_kinds T) (hr.mono (by decide)) T.b_Program_kinds .nil pass0 rfl) (by rfl))))) (pss_one ps_never) pss_nil)))))), ?_⟩
    refine ⟨_, rfl, ?_⟩
    obtain ⟨p1, x2, ev5, hp3, rl4⟩ := id rr1
    subst ev5
    refine ⟨by show 2 ≤ sizeLine; decide, fun tp6 hn8 => ?_⟩
    have g9 := Grow.newOwn (S := S0) (o := .tup [.ty "list", .ty "tuple"]) w0.bh hn8
    have w11 := w0.trans g9
    have e10 := g9.bb
    refine ⟨_, tp6, [.ty "list", .ty "tuple"], _, [.type "list", .type "tuple"], true, rfl, upd_same, (.cons (.ty _) (.cons (.ty _) Paired.nil)), (tyX_tuple (same_t w11.bh hp3)), (kitAny_cons (b := false) (kit_ty (by decide +kernel)) (fun _ => (kitAny_cons (b := true) (kit_ty (by decide +kernel)) (fun q => by cases q) (fun _ => rfl))) (fun q => by cases q)), ?_⟩
    refine ⟨_, rfl, ?_⟩
    show if (!true) = true then _ else _
    refine iteF ?_
    refine ⟨_, rfl, ?_⟩
    obtain ⟨p13, x14, ev17, hp15, rl16⟩ := id (rr1.mono e10)
    cases ev17
    refine ⟨p1, x14, rfl, (same_t w11.bh hp15), ?_⟩
    obtain ⟨KL23, hm, hst24, hdn25⟩ := forXK nb0 hm
    refine for_it (walk_enumT (K := K) (a := p1) (xs := x14)) (fun i26 σ H => ∃ (B18 : Hp) (d19 : Option V) (d20 : Option V), σ = [some vv0, some (.ref p1), d19, d20] ∧ Grow S0 B0 H0 B18 H ∧ Same B0 B18 ∧ KL23 i26 ()) ⟨B0, _, _, rfl, w11, (Same.refl _), hm⟩ (fun i26 σ H28 _ h => ?_) (fun i26 x27 σ H28 H29 hi h hy => ?_) (fun σ H30 h => ?_)
    · skip
      obtain ⟨B18, d19, d20, rfl, w21, e22, _⟩ := h
      exact (same_t w21.bh (same_t e22 hp15))
    · skip
      obtain ⟨B18, d19, d20, rfl, w21, e22, hm⟩ := h
      obtain ⟨T31, _, v32, rfl, hT33, rfl, hzz, hx34⟩ := hy
      cases hzz
      obtain ⟨a35, ha36, r37⟩ := RepL.getm rl16 hx34
      have g38 := Grow.newOwn (S := S0) (o := .tup [.int (i26 : Int), v32]) w21.bh hT33
      have w40 := w21.trans g38
      have e39 := g38.bb
      obtain ⟨KB41, nb42, hm, hnx43, hbk44, hrt45⟩ := hst24 i26 _ _ (enumL_at ha36) hm
      try dsimp only at hm
      obtain rfl : v32 = (.str a35) := r37
      refine ⟨T31, _, rfl, (SqT.of upd_same), rfl, _, _, rfl, _, _, rfl, rfl, ?_⟩
      refine ⟨_, rfl, _, _, _, _, true, rfl, .ty _, (.base (.str _)), kit_ty (by decide +kernel), ?_⟩
      refine ⟨_, rfl, ?_⟩
      show if (!true) = true then _ else _
      refine iteF ?_
      refine ⟨_, rfl, _, rfl, ?_⟩
      refine prog_kinds (rr0.mono (e10.trans (e22.trans e39))) w40.bh (fun v46 r47 => ?_)
      obtain ⟨p48, x49, ev52, hp50, rl51⟩ := id (Rep.k2t r47)
      subst ev52
      have hx53 := rl51.asStrs
      subst hx53
      refine rin_strs (l := u0.kinds) (.inr (same_t w40.bh hp50)) ?_
      refine ⟨_, rfl, ?_⟩
      refine ite_both hm (fun hc54 hm => ?_) (fun hc54 hm => ?_)
      · skip
        try dsimp only at hm
        exact (nb_bad nb42 hm).elim
      · skip
        try dsimp only at hm
        have hm := hnx43 _ hm
        exact ⟨B18, _, _, rfl, w40, (e22.trans e39), hm⟩
    · skip
      obtain ⟨B18, d19, d20, rfl, w21, e22, hm⟩ := h
      have hm := hdn25 _ _ (Nat.le_of_eq ((enumL_len _).trans (RepL.lenm rl16).symm)) hm
      try dsimp only at hm
      exact fin _ hm .non B18 H30 w21 rfl

theorem sc_told_behind : FnScope ["program", "legs", "total", "state", "begins", "rows", "gained", "label", "extra"] ["program", "legs"] (defScope (top 25)) := ⟨rfl, rfl, rfl, by decide +kernel, rfl, by decide +kernel, by decide +kernel⟩
theorem gv_told_behind {X : Cx} (T : Txt K mg) (hK : X.K = K) (hmg : X.mg = mg) (q : Str) (cdg : Value) : GivesP X 21 ["program", "legs", "total", "state", "begins", "rows", "gained", "label", "extra"] "told_behind" (defScope (top 25)) T.a_told_behind cdg (defBody (top 25)) "legs" q 2 (tt_told_behind K T.a_Program) := by
  subst hK
  subst hmg
  intro f_ c_ s H0 v1 Q tl hr act hc0 h
  · obtain ⟨B0, u0, vv0, u1, rfl, bh0, rr0, hl, hmp⟩ := h
    obtain ⟨K0, nb0, hm, fin⟩ := hmp.open_
    unfold m_told_behind at hm
    try dsimp only at hm
    have w0 : Grow S0 B0 H0 B0 H0 := Grow.refl bh0
    refine ⟨_, PSs.nox ((pss_cons (ps_asg (pe_tup (pa_cons pe_int (pa_cons pe_int pa_nil))) (pg_tup' (K := X.K) (n := 2) (by rfl) rfl (pgs_cons (pg_name (i := 2) sc_told_behind.nd rfl (Or.inl rfl)) (pgs_cons (pg_name (i := 3) sc_told_behind.nd rfl (Or.inl rfl)) pgs_nil))))
      (pss_cons (ps_for PassesOwn.never rfl (pi_tup' (K := X.K) (by rfl) (pe_prop (pv 0) T.cl_Program T.pr_passes (getter_passes T) (hr.mono (by decide)) T.b_Program_passes .nil pass0 rfl)) (pg_tup' (K := X.K) (n := 2) (by rfl) rfl (pgs_cons (pg_name (i := 4) sc_told_behind.nd rfl (Or.inl rfl)) (pgs_cons (pg_name (i := 5) sc_told_behind.nd rfl (Or.inl rfl)) pgs_nil)))
      (pss_cons (ps_asg (act _ _ _ _ _ (pa_cons (pv 5) (pa_cons (pe_ix (ix_tup' (K := X.K) (by rfl)) (pv 4) (pv 3) (fun _ _ => rfl)) pa_nil)) (by rfl) (by rfl)) (pg_tup' (K := X.K) (n := 2) (by rfl) rfl (pgs_cons (pg_name (i := 3) sc_told_behind.nd rfl (Or.inl rfl)) (pgs_cons (pg_name (i := 6) sc_told_behind.nd rfl (Or.inl rfl)) pgs_nil))))
      (pss_one (ps_aug (i := 2) sc_told_behind.nd rfl (Or.inl rfl) (pv 6) ip_add))))
      (pss_cons (ps_asg (pe_ix (ix_tup' (K := X.K) (by rfl)) (pe_prop (pv 0) T.cl_Program T.pr_tells (getter_tells T) (hr.mono (by decide)) T.b_Program_tells .nil pass0 rfl) (pv 3) (fun _ _ => rfl)) (pg_tup' (K := X.K) (n := 2) (by rfl) rfl (pgs_cons (pg_name (i := 7) sc_told_behind.nd rfl (Or.inl rfl)) (pgs_cons (pg_name (i := 8) sc_told_behind.nd rfl (Or.inl rfl)) pgs_nil))))
      (pss_one (ps_ret (pe_tup (pa_cons (pv 7) (pa_cons (pe_op op_add (pv 2) (pv 8)) pa_nil))))))))), ?_⟩
    refine ⟨by show 2 ≤ sizeLine; decide, fun T1 hT2 => ?_⟩
    have g3 := Grow.newOwn (S := S0) (o := .tup [(.int (0 : Int)), (.int (0 : Int))]) w0.bh hT2
    have w5 := w0.trans g3
    have e4 := g3.bb
    refine ⟨T1, _, rfl, (SqT.of upd_same), rfl, _, _, rfl, _, _, rfl, rfl, ?_⟩
    refine ⟨_, rfl, ?_⟩
    refine prog_passes (rr0.mono e4) w5.bh (fun v7 r8 => ?_)
    obtain ⟨p9, x10, ev13, hp11, rl12⟩ := id r8
    subst ev13
    refine ⟨p9, rfl, ⟨x10, (same_t w5.bh hp11)⟩, ?_⟩
    obtain ⟨KL24, hm, hst25, hdn26⟩ := forK nb0 hm
    refine for_it (walk_tup (K := X.K) (a := p9) (xs := x10)) (fun i27 σ H => ∃ (B14 : Hp) (x15 : Int) (x16 : Int) (d17 : Option V) (d18 : Option V) (d19 : Option V) (d20 : Option V) (d21 : Option V), σ = [some vv0, some (.ref f_), some (.int x16), some (.int x15), d17, d18, d19, d20, d21] ∧ Grow S0 B0 H0 B14 H ∧ Same B0 B14 ∧ KL24 i27 (x15, x16)) ⟨B0, (0 : Int), (0 : Int), _, _, _, _, _, rfl, w5, (Same.refl _), hm⟩ (fun i27 σ H29 _ h => ?_) (fun i27 x28 σ H29 H30 hi h hy => ?_) (fun σ H31 h => ?_)
    · skip
      obtain ⟨B14, x15, x16, d17, d18, d19, d20, d21, rfl, w22, e23, _⟩ := h
      exact (same_t w22.bh (same_t e23 hp11))
    · skip
      obtain ⟨B14, x15, x16, d17, d18, d19, d20, d21, rfl, w22, e23, hm⟩ := h
      obtain ⟨rfl, q35⟩ := hy
      obtain ⟨a32, ha33, r34⟩ := RepL.getm rl12 q35
      obtain ⟨KB36, nb37, hm, hnx38⟩ := hst25 i27 _ _ ha33 hm
      try dsimp only at hm
      obtain ⟨p41, x42, ev, hp43, ⟨v46, _, rfl, r47, ⟨v44, _, rfl, r45, rfl⟩⟩⟩ := (r34.mono e23)
      subst ev
      refine ⟨p41, _, rfl, (same_t w22.bh hp43), rfl, _, _, rfl, _, _, rfl, rfl, ?_⟩
      refine ⟨rfl, _, rfl, _, rfl, _, rfl, ?_⟩
      obtain ⟨t48, h49, hm⟩ := bindK nb37 hm
      try dsimp only at hm
      refine rixT (em := D.int) r47 w22.bh h49 (fun v50 r51 => ?_)
      obtain rfl : v50 = (.int t48) := r51
      obtain ⟨t52, h53, hm⟩ := bindK nb37 hm
      try dsimp only at hm
      refine ⟨w22.keep _ _ (fun z => z) rfl hc0, rfl, hl B14 H30 _ a32.2 v44 t48 (e4.trans e23) w22.bh r45 (Post.mk_ h53 fun v54 B55 H56 g57 r58 => ?_)⟩
      have w60 := w22.trans g57
      have e59 := g57.bb
      obtain ⟨p61, x62, ev, hp63, ⟨v66, _, rfl, r67, ⟨v64, _, rfl, r65, rfl⟩⟩⟩ := r58
      subst ev
      obtain rfl : v66 = (.int t52.1) := r67
      obtain rfl : v64 = (.int t52.2) := r65
      refine ⟨p61, _, rfl, (same_t w60.bh hp63), rfl, _, _, rfl, _, _, rfl, rfl, ?_⟩
      refine ⟨_, rfl, _, rfl, _, _, rfl, rfl, ?_⟩
      have hm := hnx38 _ hm
      exact ⟨B55, t52.1, (x16 + t52.2), _, _, _, _, _, rfl, w60, (e23.trans e59), hm⟩
    · skip
      obtain ⟨B14, x15, x16, d17, d18, d19, d20, d21, rfl, w22, e23, hm⟩ := h
      have hm := hdn26 _ _ (Nat.le_of_eq (RepL.lenm rl12).symm) hm
      try dsimp only at hm
      refine ⟨_, rfl, ?_⟩
      refine prog_tells (rr0.mono (e4.trans e23)) w22.bh (fun v68 r69 => ?_)
      refine ⟨_, rfl, ?_⟩
      obtain ⟨t70, h71, hm⟩ := bindK nb0 hm
      try dsimp only at hm
      refine rixT (em := (fun (p : (Str × Int)) => D.tup [D.str p.1, D.int p.2])) r69 w22.bh h71 (fun v72 r73 => ?_)
      obtain ⟨p74, x75, ev, hp76, ⟨v79, _, rfl, r80, ⟨v77, _, rfl, r78, rfl⟩⟩⟩ := r73
      subst ev
      obtain rfl : v79 = (.str t70.1) := r80
      obtain rfl : v77 = (.int t70.2) := r78
      refine ⟨p74, _, rfl, (same_t w22.bh hp76), rfl, _, _, rfl, _, _, rfl, rfl, ?_⟩
      refine ⟨_, rfl, _, rfl, _, rfl, _, _, rfl, rfl, ?_⟩
      refine ⟨by show 2 ≤ sizeLine; decide, fun p81 hp82 => ?_⟩
      have g83 := Grow.new (S := S0) (o := (.tup [(.str t70.1), (.int (x16 + t70.2))])) w22.bh hp82
      have r84 : Rep X.K (upd B14 p81 (.tup [(.str t70.1), (.int (x16 + t70.2))])) ((fun (p : (Str × Int)) => D.tup [D.str p.1, D.int p.2]) (t70.1, (x16 + t70.2))) (.ref p81) := ⟨p81, [(.str t70.1), (.int (x16 + t70.2))], rfl, SqT.of upd_same, (RepL.mono (same_upd (same_free w22.bh hp82)) (RepL.cons rfl (RepL.cons rfl RepL.nil)))⟩
      have w86 := w22.trans g83
      have e85 := g83.bb
      exact fin _ hm (.ref p81) (upd B14 p81 (.tup [(.str t70.1), (.int (x16 + t70.2))])) (upd H31 p81 (.tup [(.str t70.1), (.int (x16 + t70.2))])) w86 r84

theorem sc_table_of : FnScope ["rows", "places", "found", "first", "state", "gained", "place", "gain"] ["rows", "places"] (defScope (top 24)) := ⟨rfl, rfl, rfl, by decide +kernel, rfl, by decide +kernel, by decide +kernel⟩
theorem ok_table_of (T : Txt K mg) : FnOk P w K mg base CX0 1 T.a_table_of T.f_table_of ["rows", "places"] (sp_table_of K T.a_Program) := by
  refine T.d_table_of.ok sc_table_of (fun vs H Q E h => ?_) (fun cdv A outer s H0 vs Q E hr h => ?_)
  · obtain ⟨_, _, _, _, _, rfl, _⟩ := h
    rfl
  · obtain ⟨B0, u0, vv0, u1, vv1, rfl, bh0, rr0, rr1, hmp⟩ := h
    obtain ⟨K0, nb0, hm, fin⟩ := hmp.open_
    unfold m_table_of at hm
    try dsimp only at hm
    have w0 : Grow S0 B0 H0 B0 H0 := Grow.refl bh0
    refine ⟨_, PSs.nox ((pss_cons (ps_set (i := 2) sc_table_of.nd rfl (Or.inl rfl) (pe_lst pa_nil))
      (pss_cons (ps_for PassesOwn.never rfl (pi_range1 (by rfl) T.n_range (pa_cons (pe_callB (call_len_seq' (K := K) (by rfl)) (by rfl) T.n_len (by decide +kernel) (pa_cons (pv 0) pa_nil)) pa_nil)) (pg_name (i := 3) sc_table_of.nd rfl (Or.inl rfl))
      (pss_cons (ps_par (i := 4) (j := 5) (by rfl) sc_table_of.nd rfl rfl (by decide) rfl rfl (pa_cons (pv 3) (pa_cons pe_int pa_nil)) (by rfl))
      (pss_cons (ps_for PassesOwn.never rfl (pi_list' (K := K) (by rfl) (pv 1)) (pg_name (i := 6) sc_table_of.nd rfl (Or.inl rfl))
      (pss_cons (ps_asg (pe_ix (ix_tup' (K := K) (by rfl)) (pe_ix (ix_tup' (K := K) (by rfl)) (pv 0) (pv 4) (fun _ _ => rfl)) (pv 6) (fun _ _ => rfl)) (pg_tup' (K := K) (n := 2) (by rfl) rfl (pgs_cons (pg_name (i := 4) sc_table_of.nd rfl (Or.inl rfl)) (pgs_cons (pg_name (i := 7) sc_table_of.nd rfl (Or.inl rfl)) pgs_nil))))
      (pss_one (ps_aug (i := 5) sc_table_of.nd rfl (Or.inl rfl) (pv 7) ip_add))))
      (pss_one (ps_expr (pe_append' (K := K) (by rfl) (pv 2) (pa_cons (pe_tup (pa_cons (pv 4) (pa_cons (pv 5) pa_nil))) pa_nil)))))))
      (pss_one (ps_ret (pv 2)))))), ?_⟩
    refine ⟨by show 0 ≤ sizeLine; decide, fun p1 hp2 => ?_⟩
    have g3 := Grow.newOwn (S := S0) (o := .lst ([])) w0.bh hp2
    have o4 := Own.new (K := K) (ds := (([] : List (Int × Int))).map (fun (p : (Int × Int)) => D.tup [D.int p.1, D.int p.2])) w0 hp2 RepL.nil
    have w6 := w0.trans g3
    have e5 := g3.bb
    refine ⟨_, rfl, ?_⟩
    obtain ⟨p8, x9, ev12, hp10, rl11⟩ := id (rr0.mono e5)
    subst ev12
    refine ⟨p8, x9, rfl, (.inr (same_t w6.bh hp10)), ?_⟩
    rw [RepL.lenm rl11]
    obtain ⟨l13, h14, hm⟩ := bindK nb0 hm
    try dsimp only at hm
    obtain ⟨h14c, rfl⟩ := rangeR_ok h14
    refine ⟨_, rfl, h14c.2.2.1, h14c.2.2.2, ?_⟩
    obtain ⟨KL26, hm, hst27, hdn28⟩ := forK nb0 hm
    refine for_it (walk_range (lo := 0) (n := ((u0.length : Int)).toNat)) (fun i29 σ H => ∃ (B15 : Hp) (x16 : (List (Int × Int))) (xs17 : List V) (d18 : Option V) (d19 : Option V) (d20 : Option V) (d21 : Option V) (d22 : Option V), σ = [some (.ref p8), some vv1, some (.ref p1), d18, d19, d20, d21, d22] ∧ Grow S0 B0 H0 B15 H ∧ Same B0 B15 ∧ Own K H0 B15 H p1 xs17 ((x16).map (fun (p : (Int × Int)) => D.tup [D.int p.1, D.int p.2])) ∧ KL26 i29 x16) ⟨B0, ([] : List (Int × Int)), ([]), _, _, _, _, _, rfl, w6, (Same.refl _), o4, hm⟩ (fun i29 σ H31 _ h => ?_) (fun i29 x30 σ H31 H32 hi h hy => ?_) (fun σ H33 h => ?_)
    · skip
      obtain ⟨B15, x16, xs17, d18, d19, d20, d21, d22, rfl, w23, e24, o25, _⟩ := h
      exact trivial
    · skip
      obtain ⟨B15, x16, xs17, d18, d19, d20, d21, d22, rfl, w23, e24, o25, hm⟩ := h
      obtain ⟨rfl, rfl⟩ := hy
      have ha35 := rng_at1 (lo := (0 : Int)) (hi := (u0.length : Int)) hi
      obtain ⟨KB36, nb37, hm, hnx38⟩ := hst27 i29 _ _ ha35 hm
      try dsimp only at hm
      refine ⟨_, rfl, _, _, rfl, ?_⟩
      refine ⟨_, rfl, ?_⟩
      obtain ⟨p42, x43, ev46, hp44, rl45⟩ := id (rr1.mono (e5.trans e24))
      subst ev46
      refine ⟨p42, rfl, ⟨x43, SqL.of (w23.bh _ _ hp44)⟩, ?_⟩
      obtain ⟨KL55, hm, hst56, hdn57⟩ := forK nb37 hm
      refine for_it (walk_list (K := K) (a := p42) (xs := x43)) (fun i58 σ H => ∃ (B47 : Hp) (x48 : Int) (x49 : Int) (d50 : Option V) (d51 : Option V), σ = [some (.ref p8), some (.ref p42), some (.ref p1), some (.int ((0 : Int) + (i29 : Int))), some (.int x48), some (.int x49), d50, d51] ∧ Grow S0 B0 H0 B47 H ∧ Same B15 B47 ∧ Own K H0 B47 H p1 xs17 ((x16).map (fun (p : (Int × Int)) => D.tup [D.int p.1, D.int p.2])) ∧ KL55 i58 (x48, x49)) ⟨B15, ((0 : Int) + (i29 : Int)), (0 : Int), _, _, rfl, w23, (Same.refl _), o25, hm⟩ (fun i58 σ H60 _ h => ?_) (fun i58 x59 σ H60 H61 hi h hy => ?_) (fun σ H62 h => ?_)
      · skip
        obtain ⟨B47, x48, x49, d50, d51, rfl, w52, e53, o54, _⟩ := h
        exact (SqL.of (w52.bh _ _ (e53 _ _ hp44)))
      · skip
        obtain ⟨B47, x48, x49, d50, d51, rfl, w52, e53, o54, hm⟩ := h
        obtain ⟨rfl, q66⟩ := hy
        obtain ⟨a63, ha64, r65⟩ := RepL.getm rl45 q66
        obtain ⟨KB67, nb68, hm, hnx69⟩ := hst56 i58 _ _ ha64 hm
        try dsimp only at hm
        obtain rfl : x59 = (.int a63) := r65
        refine ⟨_, rfl, _, rfl, ?_⟩
        obtain ⟨t72, h73, hm⟩ := bindK nb68 hm
        try dsimp only at hm
        refine rixT (em := (fun (l : List (Int × Int)) => D.tup (l.map (fun (p : (Int × Int)) => D.tup [D.int p.1, D.int p.2])))) (rr0.mono (e5.trans (e24.trans e53))) w52.bh h73 (fun v74 r75 => ?_)
        refine ⟨_, rfl, ?_⟩
        obtain ⟨t76, h77, hm⟩ := bindK nb68 hm
        try dsimp only at hm
        refine rixT (em := (fun (p : (Int × Int)) => D.tup [D.int p.1, D.int p.2])) r75 w52.bh h77 (fun v78 r79 => ?_)
        obtain ⟨p80, x81, ev, hp82, ⟨v85, _, rfl, r86, ⟨v83, _, rfl, r84, rfl⟩⟩⟩ := r79
        subst ev
        obtain rfl : v85 = (.int t76.1) := r86
        obtain rfl : v83 = (.int t76.2) := r84
        refine ⟨p80, _, rfl, (same_t w52.bh hp82), rfl, _, _, rfl, _, _, rfl, rfl, ?_⟩
        refine ⟨_, rfl, _, rfl, _, _, rfl, rfl, ?_⟩
        have hm := hnx69 _ hm
        exact ⟨B47, t76.1, (x49 + t76.2), _, _, rfl, w52, e53, o54, hm⟩
      · skip
        obtain ⟨B47, x48, x49, d50, d51, rfl, w52, e53, o54, hm⟩ := h
        have hm := hdn57 _ _ (Nat.le_of_eq (RepL.lenm rl45).symm) hm
        try dsimp only at hm
        refine ⟨_, rfl, (.inl ⟨rfl, _, SqL.of o54.h⟩), _, rfl, _, rfl, ?_⟩
        refine ⟨by show 2 ≤ sizeLine; decide, fun p87 hp88 => ?_⟩
        have g89 := Grow.new (S := S0) (o := (.tup [(.int x48), (.int x49)])) w52.bh hp88
        have r90 : Rep K (upd B47 p87 (.tup [(.int x48), (.int x49)])) ((fun (p : (Int × Int)) => D.tup [D.int p.1, D.int p.2]) (x48, x49)) (.ref p87) := ⟨p87, [(.int x48), (.int x49)], rfl, SqT.of upd_same, (RepL.mono (same_upd (same_free w52.bh hp88)) (RepL.cons rfl (RepL.cons rfl RepL.nil)))⟩
        have w92 := w52.trans g89
        have e91 := g89.bb
        have o93 := o54.grow g89 (fun _ z => z.elim)
        obtain ⟨t94, h95, hm⟩ := bindK nb37 hm
        try dsimp only at hm
        refine ⟨p1, xs17, _, rfl, rfl, o93.h, (lt_line (own_lt o93 (lenG_ok h95))), ?_⟩
        have o96 := o93.put (es := ((x16 ++ [(x48, x49)])).map (fun (p : (Int × Int)) => D.tup [D.int p.1, D.int p.2])) (o93.r.snocm (a := (x48, x49)) r90)
        have w97 := w92.mut (o := (.lst (xs17 ++ [(.ref p87)]))) o93.n0 o93.b o93.h (by rfl)
        have hm := hnx38 _ hm
        exact ⟨(upd B47 p87 (.tup [(.int x48), (.int x49)])), (x16 ++ [(x48, x49)]), (xs17 ++ [(.ref p87)]), _, _, _, _, _, rfl, w97, (e24.trans (e53.trans e91)), o96, hm⟩
    · skip
      obtain ⟨B15, x16, xs17, d18, d19, d20, d21, d22, rfl, w23, e24, o25, hm⟩ := h
      have hm := hdn28 _ _ (rng_len1 (lo := (0 : Int)) (hi := (u0.length : Int))) hm
      try dsimp only at hm
      refine ⟨_, rfl, ?_⟩
      exact fin _ hm p1 xs17 B15 H33 o25.n0 w23 o25.b o25.h o25.r

theorem sc_leaped : FnScope ["table", "state", "times", "met", "line", "gained", "at", "round_gain", "rest", "turns", "turn", "gain"] ["table", "state", "times"] (defScope (top 23)) := ⟨rfl, rfl, rfl, by decide +kernel, rfl, by decide +kernel, by decide +kernel⟩
theorem ok_leaped (T : Txt K mg) : FnOk P w K mg base CX0 1 T.a_leaped T.f_leaped ["table", "state", "times"] (sp_leaped K T.a_Program) := by
  refine T.d_leaped.ok sc_leaped (fun vs H Q E h => ?_) (fun cdv A outer s H0 vs Q E hr h => ?_)
  · obtain ⟨_, _, _, _, _, rfl, _⟩ := h
    rfl
  · obtain ⟨B0, u0, vv0, u1, u2, rfl, bh0, rr0, hmp⟩ := h
    obtain ⟨K0, nb0, hm, fin⟩ := hmp.open_
    unfold m_leaped at hm
    try dsimp only at hm
    have w0 : Grow S0 B0 H0 B0 H0 := Grow.refl bh0
    refine ⟨_, PSs.nox ((pss_cons (ps_par3 (i := 3) (j := 4) (l := 5) (by rfl) sc_leaped.nd rfl rfl rfl (by decide) (by decide) (by decide) rfl rfl rfl (pa_cons pe_dnewK (pa_cons (pe_lst pa_nil) (pa_cons pe_int pa_nil))) (by rfl))
      (pss_cons (ps_while PassesOwn.never (pt_cmpR op_lt (pe_callB (call_len_seq' (K := K) (by rfl)) (by rfl) T.n_len (by decide +kernel) (pa_cons (pv 4) pa_nil)) (pv 2) (nomark _))
      (pss_cons (ps_if (pt_cmp (pc_din (hu_of hr) (pv 1) (pv 3)) rfl) (pss_cons (ps_set (i := 6) sc_leaped.nd rfl (Or.inl rfl) (pe_dget (hu_of hr) (pv 3) (pv 1) (fun _ _ => rfl)))
      (pss_cons (ps_set (i := 7) sc_leaped.nd rfl (Or.inl rfl) (pe_op op_sub (pv 5) (pe_ix (ix_list' (K := K) (by rfl)) (pv 4) (pv 6) (fun _ _ => rfl))))
      (pss_cons (ps_set (i := 8) sc_leaped.nd rfl (Or.inl rfl) (pe_op op_modN (pe_op op_sub (pv 2) (pe_callB (call_len_seq' (K := K) (by rfl)) (by rfl) T.n_len (by decide +kernel) (pa_cons (pv 4) pa_nil))) (pe_op op_sub (pe_callB (call_len_seq' (K := K) (by rfl)) (by rfl) T.n_len (by decide +kernel) (pa_cons (pv 4) pa_nil)) (pv 6))))
      (pss_cons (ps_set (i := 9) sc_leaped.nd rfl (Or.inl rfl) (pe_op op_fdivG (pe_op op_sub (pv 2) (pe_callB (call_len_seq' (K := K) (by rfl)) (by rfl) T.n_len (by decide +kernel) (pa_cons (pv 4) pa_nil))) (pe_op op_sub (pe_callB (call_len_seq' (K := K) (by rfl)) (by rfl) T.n_len (by decide +kernel) (pa_cons (pv 4) pa_nil)) (pv 6))))
      (pss_cons (ps_aug (i := 5) sc_leaped.nd rfl (Or.inl rfl) (pe_op op_mul (pv 7) (pv 9)) ip_add)
      (pss_cons (ps_for PassesOwn.never rfl (pi_range1 (by rfl) T.n_range (pa_cons (pv 8) pa_nil)) (pg_name (i := 10) sc_leaped.nd rfl (Or.inl rfl))
      (pss_cons (ps_asg (pe_ix (ix_list' (K := K) (by rfl)) (pv 0) (pv 1) (fun _ _ => rfl)) (pg_tup' (K := K) (n := 2) (by rfl) rfl (pgs_cons (pg_name (i := 1) sc_leaped.nd rfl (Or.inl rfl)) (pgs_cons (pg_name (i := 11) sc_leaped.nd rfl (Or.inl rfl)) pgs_nil))))
      (pss_one (ps_aug (i := 5) sc_leaped.nd rfl (Or.inl rfl) (pv 11) ip_add))))
      (pss_one (ps_ret (pe_tup (pa_cons (pv 1) (pa_cons (pv 5) pa_nil))))))))))) pss_nil)
      (pss_cons (ps_dput (hu_of hr) (pv 3) (pv 1) (pe_callB (call_len_seq' (K := K) (by rfl)) (by rfl) T.n_len (by decide +kernel) (pa_cons (pv 4) pa_nil)) rfl)
      (pss_cons (ps_expr (pe_append' (K := K) (by rfl) (pv 4) (pa_cons (pv 5) pa_nil)))
      (pss_cons (ps_asg (pe_ix (ix_list' (K := K) (by rfl)) (pv 0) (pv 1) (fun _ _ => rfl)) (pg_tup' (K := K) (n := 2) (by rfl) rfl (pgs_cons (pg_name (i := 1) sc_leaped.nd rfl (Or.inl rfl)) (pgs_cons (pg_name (i := 11) sc_leaped.nd rfl (Or.inl rfl)) pgs_nil))))
      (pss_one (ps_aug (i := 5) sc_leaped.nd rfl (Or.inl rfl) (pv 11) ip_add)))))))
      (pss_one (ps_ret (pe_tup (pa_cons (pv 1) (pa_cons (pv 5) pa_nil)))))))), ?_⟩
    intro l1 hn2
    have g3 := Grow.newOwn (S := S0) (o := .dK []) w0.bh hn2
    have o4 : OwnD HO.dK K H0 B0 (upd H0 l1 (.dK [])) l1 [] (dmap (fun (k : Int) => (Sum.inl k : Key)) D.int ([] : List (Int × Int)))   := OwnD.new w0 hn2 rfl (fun _ => rfl)
    have w6 := w0.trans g3
    have e5 := g3.bb
    refine ⟨by show 0 ≤ sizeLine; decide, fun p7 hp8 => ?_⟩
    have g9 := Grow.newOwn (S := S0) (o := .lst ([])) w6.bh hp8
    have o10 := Own.new (K := K) (ds := (([] : List Int)).map D.int) w6 hp8 RepL.nil
    have w12 := w6.trans g9
    have e11 := g9.bb
    have o13 := o4.grow g9 (fun _ z => z.elim)
    have n14 : l1 ≠ p7 := ne_of_none o4.h hp8
    refine ⟨_, _, _, rfl, ?_⟩
    obtain ⟨KL32, hm, hst33⟩ := whileXK nb0 hm
    refine ⟨fun m34 σ H => ∃ (B15 : Hp) (x16 : Int) (x17 : Int) (x18 : (List (Int × Int))) (xs19 : List (Key × V)) (x20 : (List Int)) (xs21 : List V) (d22 : Option V) (d23 : Option V) (d24 : Option V) (d25 : Option V) (d26 : Option V) (d27 : Option V), σ = [some vv0, some (.int x17), some (.int u2), some (.ref l1), some (.ref p7), some (.int x16), d22, d23, d24, d25, d26, d27] ∧ Grow S0 B0 H0 B15 H ∧ Same B0 B15 ∧ OwnD HO.dK K H0 B15 H l1 xs19 (dmap (fun (k : Int) => (Sum.inl k : Key)) D.int x18) ∧ Own K H0 B15 H p7 xs21 ((x20).map D.int) ∧ KL32 m34 (x18, x20, x16, x17), ⟨_, ⟨B0, (0 : Int), u1, ([] : List (Int × Int)), [], ([] : List Int), ([]), _, _, _, _, _, _, rfl, w12, (Same.refl _), o13, o10, hm⟩⟩, fun m34 σ H35 h => ?_⟩
    obtain ⟨B15, x16, x17, x18, xs19, x20, xs21, d22, d23, d24, d25, d26, d27, rfl, w28, e29, o30, o31, hm⟩ := h
    obtain ⟨KC36, nb37, hm, hF38, hT39⟩ := hst33 _ _ hm
    try dsimp only at hm
    refine ⟨_, rfl, p7, xs21, rfl, (.inl (SqL.of o31.h)), ?_⟩
    rw [RepL.lenm o31.r]
    refine ⟨_, rfl, _, _, rfl, rfl, _, rfl, ?_⟩
    refine wh_both hm (fun hm => ?_) (fun hm => ?_)
    · skip
      obtain ⟨KB40, nb41, hm, hnx42, hbk43, hrt44⟩ := hT39 hm
      try dsimp only at hm
      refine ⟨fun σ H => ∃ m2, m2 < m34 ∧ ∃ (B15 : Hp) (x16 : Int) (x17 : Int) (x18 : (List (Int × Int))) (xs19 : List (Key × V)) (x20 : (List Int)) (xs21 : List V) (d22 : Option V) (d23 : Option V) (d24 : Option V) (d25 : Option V) (d26 : Option V) (d27 : Option V), σ = [some vv0, some (.int x17), some (.int u2), some (.ref l1), some (.ref p7), some (.int x16), d22, d23, d24, d25, d26, d27] ∧ Grow S0 B0 H0 B15 H ∧ Same B0 B15 ∧ OwnD HO.dK K H0 B15 H l1 xs19 (dmap (fun (k : Int) => (Sum.inl k : Key)) D.int x18) ∧ Own K H0 B15 H p7 xs21 ((x20).map D.int) ∧ KL32 m2 (x18, x20, x16, x17), fun _ _ h => h, ?_⟩
      refine ⟨_, rfl, _, rfl, ?_⟩
      obtain ⟨r45, hg46, hq47⟩ := dk_has inl_inj o30 x17
      refine ⟨l1, r45, rfl, hg46, ?_⟩
      rw [hq47]
      refine ⟨_, rfl, ?_⟩
      refine ite_both hm (fun hc48 hm => ?_) (fun hc48 hm => ?_)
      · skip
        try dsimp only at hm
        refine ⟨_, rfl, _, rfl, ?_⟩
        obtain ⟨t49, h50, hm⟩ := bindK nb41 hm
        try dsimp only at hm
        obtain ⟨v51, hg52, r53⟩ := dk_get inl_inj o30 h50
        refine ⟨l1, v51, rfl, hg52, ?_⟩
        obtain rfl : v51 = (.int t49) := r53
        refine ⟨_, rfl, _, rfl, _, rfl, ?_⟩
        obtain ⟨t54, h55, hm⟩ := bindK nb41 hm
        try dsimp only at hm
        refine rixO (em := D.int) o31 h55 (fun v56 r57 => ?_)
        obtain rfl : v56 = (.int t54) := r57
        refine ⟨_, _, rfl, rfl, _, rfl, _, rfl, p7, xs21, rfl, (.inl (SqL.of o31.h)), ?_⟩
        rw [RepL.lenm o31.r]
        refine ⟨_, _, rfl, rfl, _, rfl, p7, xs21, rfl, (.inl (SqL.of o31.h)), ?_⟩
        rw [RepL.lenm o31.r]
        refine ⟨_, rfl, _, _, rfl, rfl, ?_⟩
        obtain ⟨t58, h59, hm⟩ := bindK nb41 hm
        try dsimp only at hm
        obtain ⟨h59c, rfl⟩ := fmodR_ok h59
        refine ⟨_, _, rfl, rfl, h59c, _, rfl, _, rfl, p7, xs21, rfl, (.inl (SqL.of o31.h)), ?_⟩
        rw [RepL.lenm o31.r]
        refine ⟨_, _, rfl, rfl, _, rfl, p7, xs21, rfl, (.inl (SqL.of o31.h)), ?_⟩
        rw [RepL.lenm o31.r]
        refine ⟨_, rfl, _, _, rfl, rfl, ?_⟩
        obtain ⟨t60, h61, hm⟩ := bindK nb41 hm
        try dsimp only at hm
        obtain ⟨h61c, rfl⟩ := fdivR_ok h61
        refine ⟨_, _, rfl, rfl, h61c, _, rfl, _, rfl, _, rfl, ?_⟩
        obtain ⟨t62, h63, hm⟩ := bindK nb41 hm
        try dsimp only at hm
        obtain ⟨h63c, rfl⟩ := mulR_ok h63
        refine ⟨_, _, rfl, rfl, h63c, _, _, rfl, rfl, _, rfl, ?_⟩
        obtain ⟨l65, h66, hm⟩ := bindK nb41 hm
        try dsimp only at hm
        obtain ⟨h66c, rfl⟩ := rangeR_ok h66
        refine ⟨_, rfl, h66c.2.2.1, h66c.2.2.2, ?_⟩
        obtain ⟨KL76, hm, hst77, hdn78⟩ := forK nb41 hm
        refine for_it (walk_range (lo := 0) (n := (((u2 - (x20.length : Int)).fmod ((x20.length : Int) - t49))).toNat)) (fun i79 σ H => ∃ (B67 : Hp) (x68 : Int) (x69 : Int) (d70 : Option V) (d71 : Option V), σ = [some vv0, some (.int x68), some (.int u2), some (.ref l1), some (.ref p7), some (.int x69), some (.int t49), some (.int (x16 - t54)), some (.int ((u2 - (x20.length : Int)).fmod ((x20.length : Int) - t49))), some (.int ((u2 - (x20.length : Int)).fdiv ((x20.length : Int) - t49))), d70, d71] ∧ Grow S0 B0 H0 B67 H ∧ Same B15 B67 ∧ OwnD HO.dK K H0 B67 H l1 xs19 (dmap (fun (k : Int) => (Sum.inl k : Key)) D.int x18) ∧ Own K H0 B67 H p7 xs21 ((x20).map D.int) ∧ KL76 i79 (x68, x69)) ⟨B15, x17, (x16 + ((x16 - t54) * ((u2 - (x20.length : Int)).fdiv ((x20.length : Int) - t49)))), _, _, rfl, w28, (Same.refl _), o30, o31, hm⟩ (fun i79 σ H81 _ h => ?_) (fun i79 x80 σ H81 H82 hi h hy => ?_) (fun σ H83 h => ?_)
        · skip
          obtain ⟨B67, x68, x69, d70, d71, rfl, w72, e73, o74, o75, _⟩ := h
          exact trivial
        · skip
          obtain ⟨B67, x68, x69, d70, d71, rfl, w72, e73, o74, o75, hm⟩ := h
          obtain ⟨rfl, rfl⟩ := hy
          have ha85 := rng_at1 (lo := (0 : Int)) (hi := ((u2 - (x20.length : Int)).fmod ((x20.length : Int) - t49))) hi
          obtain ⟨KB86, nb87, hm, hnx88⟩ := hst77 i79 _ _ ha85 hm
          try dsimp only at hm
          refine ⟨_, rfl, _, rfl, ?_⟩
          obtain ⟨t91, h92, hm⟩ := bindK nb87 hm
          try dsimp only at hm
          refine rixL (em := (fun (p : (Int × Int)) => D.tup [D.int p.1, D.int p.2])) (rr0.mono (e5.trans (e11.trans (e29.trans e73)))) w72.bh h92 (fun v93 r94 => ?_)
          obtain ⟨p95, x96, ev, hp97, ⟨v100, _, rfl, r101, ⟨v98, _, rfl, r99, rfl⟩⟩⟩ := r94
          subst ev
          obtain rfl : v100 = (.int t91.1) := r101
          obtain rfl : v98 = (.int t91.2) := r99
          refine ⟨p95, _, rfl, (same_t w72.bh hp97), rfl, _, _, rfl, _, _, rfl, rfl, ?_⟩
          refine ⟨_, rfl, _, rfl, _, _, rfl, rfl, ?_⟩
          have hm := hnx88 _ hm
          exact ⟨B67, t91.1, (x69 + t91.2), _, _, rfl, w72, e73, o74, o75, hm⟩
        · skip
          obtain ⟨B67, x68, x69, d70, d71, rfl, w72, e73, o74, o75, hm⟩ := h
          have hm := hdn78 _ _ (rng_len1 (lo := (0 : Int)) (hi := ((u2 - (x20.length : Int)).fmod ((x20.length : Int) - t49)))) hm
          try dsimp only at hm
          refine ⟨_, rfl, _, rfl, ?_⟩
          refine ⟨by show 2 ≤ sizeLine; decide, fun p102 hp103 => ?_⟩
          have g104 := Grow.new (S := S0) (o := (.tup [(.int x68), (.int x69)])) w72.bh hp103
          have r105 : Rep K (upd B67 p102 (.tup [(.int x68), (.int x69)])) ((fun (p : (Int × Int)) => D.tup [D.int p.1, D.int p.2]) (x68, x69)) (.ref p102) := ⟨p102, [(.int x68), (.int x69)], rfl, SqT.of upd_same, (RepL.mono (same_upd (same_free w72.bh hp103)) (RepL.cons rfl (RepL.cons rfl RepL.nil)))⟩
          have w107 := w72.trans g104
          have e106 := g104.bb
          have o108 := o74.grow g104 (fun _ z => z.elim)
          have o109 := o75.grow g104 (fun _ z => z.elim)
          have hm := hrt44 _ hm
          exact fin _ hm (.ref p102) (upd B67 p102 (.tup [(.int x68), (.int x69)])) (upd H83 p102 (.tup [(.int x68), (.int x69)])) w107 r105
      · skip
        try dsimp only at hm
        refine ⟨_, rfl, p7, xs21, rfl, (.inl (SqL.of o31.h)), ?_⟩
        rw [RepL.lenm o31.r]
        refine ⟨_, rfl, _, rfl, ?_⟩
        obtain ⟨t111, h112, hm⟩ := bindK nb41 hm
        try dsimp only at hm
        refine ⟨l1, _, rfl, (DPut.k (k := (fun (k : Int) => (Sum.inl k : Key)) x17) o30.h (ownd_lt o30 (lenG_ok h112))), ?_⟩
        have o113 := o30.put (es := dmap (fun (k : Int) => (Sum.inl k : Key)) D.int (dput x18 x17 (x20.length : Int))) (dk_put inl_inj o30 (k := x17) (b := (x20.length : Int)) rfl)
        have w114 := w28.mut (o := (.dK (putK xs19 ((fun (k : Int) => (Sum.inl k : Key)) x17) (.int (x20.length : Int))))) o30.n0 o30.b o30.h (by rfl)
        have o115 := o31.other (u := (.dK (putK xs19 ((fun (k : Int) => (Sum.inl k : Key)) x17) (.int (x20.length : Int))))) (Ne.symm n14)
        refine ⟨_, rfl, (.inl ⟨rfl, _, SqL.of o115.h⟩), _, rfl, ?_⟩
        obtain ⟨t116, h117, hm⟩ := bindK nb41 hm
        try dsimp only at hm
        refine ⟨p7, xs21, _, rfl, rfl, o115.h, (lt_line (own_lt o115 (lenG_ok h117))), ?_⟩
        have o118 := o115.put (es := ((x20 ++ [x16])).map D.int) (o115.r.snocm (a := x16) rfl)
        have w119 := w114.mut (o := (.lst (xs21 ++ [(.int x16)]))) o115.n0 o115.b o115.h (by rfl)
        have o120 := o113.other (u := (.lst (xs21 ++ [(.int x16)]))) n14
        refine ⟨_, rfl, _, rfl, ?_⟩
        obtain ⟨t121, h122, hm⟩ := bindK nb41 hm
        try dsimp only at hm
        refine rixL (em := (fun (p : (Int × Int)) => D.tup [D.int p.1, D.int p.2])) (rr0.mono (e5.trans (e11.trans e29))) w119.bh h122 (fun v123 r124 => ?_)
        obtain ⟨p125, x126, ev, hp127, ⟨v130, _, rfl, r131, ⟨v128, _, rfl, r129, rfl⟩⟩⟩ := r124
        subst ev
        obtain rfl : v130 = (.int t121.1) := r131
        obtain rfl : v128 = (.int t121.2) := r129
        refine ⟨p125, _, rfl, (same_t w119.bh hp127), rfl, _, _, rfl, _, _, rfl, rfl, ?_⟩
        refine ⟨_, rfl, _, rfl, _, _, rfl, rfl, ?_⟩
        obtain ⟨m2, lt2, hm⟩ := hnx42 _ hm
        exact ⟨m2, lt2, ⟨B15, (x16 + t121.2), t121.1, (dput x18 x17 (x20.length : Int)), (putK xs19 ((fun (k : Int) => (Sum.inl k : Key)) x17) (.int (x20.length : Int))), (x20 ++ [x16]), (xs21 ++ [(.int x16)]), _, _, _, _, _, _, rfl, w119, e29, o120, o118, hm⟩⟩
    · skip
      have hm := hF38 hm
      try dsimp only at hm
      refine ⟨_, rfl, _, rfl, ?_⟩
      refine ⟨by show 2 ≤ sizeLine; decide, fun p132 hp133 => ?_⟩
      have g134 := Grow.new (S := S0) (o := (.tup [(.int x17), (.int x16)])) w28.bh hp133
      have r135 : Rep K (upd B15 p132 (.tup [(.int x17), (.int x16)])) ((fun (p : (Int × Int)) => D.tup [D.int p.1, D.int p.2]) (x17, x16)) (.ref p132) := ⟨p132, [(.int x17), (.int x16)], rfl, SqT.of upd_same, (RepL.mono (same_upd (same_free w28.bh hp133)) (RepL.cons rfl (RepL.cons rfl RepL.nil)))⟩
      have w137 := w28.trans g134
      have e136 := g134.bb
      have o138 := o30.grow g134 (fun _ z => z.elim)
      have o139 := o31.grow g134 (fun _ z => z.elim)
      exact fin _ hm (.ref p132) (upd B15 p132 (.tup [(.int x17), (.int x16)])) (upd H35 p132 (.tup [(.int x17), (.int x16)])) w137 r135

theorem sc_repeated_outcome : FnScope ["program", "order", "times", "places", "kind"] ["program", "order", "times"] (defScope (top 26)) := ⟨rfl, rfl, rfl, by decide +kernel, rfl, by decide +kernel, by decide +kernel⟩
theorem ok_repeated_outcome (T : Txt K mg) (TB : LamX.TabB base mg T.cc_ T.P_) : FnOk P w K mg base CX0 24 T.a_repeated_outcome T.f_repeated_outcome ["program", "order", "times"] (sp_repeated_outcome K T.a_Program T.P_) := by
  refine funD_okC T.d_repeated_outcome T.cd_repeated_outcome sc_repeated_outcome (fun vs H Q E h => ?_) (fun A outer s H0 vs Q E hr h => ?_)
  · obtain ⟨_, _, _, _, _, _, rfl, _⟩ := h
    rfl
  · obtain ⟨B0, u0, vv0, u1, vv1, u2, rfl, bh0, rr0, rr1, tb0, bp0, hmp⟩ := h
    obtain ⟨K0, nb0, hm, fin⟩ := hmp.open_
    unfold m_repeated_outcome at hm
    try dsimp only at hm
    have w0 : Grow S0 B0 H0 B0 H0 := Grow.refl bh0
    refine ⟨_, PSs.nox ((pss_cons (ps_expr (pe_call (ok_need_order T) (hr.mono (by decide)) (by rfl) T.g_need_order T.d_need_order.kp T.b_need_order .nil pass0 (pa_cons (pv 0) (pa_cons (pv 1) pa_nil))))
      (pss_cons (ps_if (PW.pt (pw_or (pt_not (pt_val (pe_call (ok_is_integer T) (hr.mono (by decide)) (by rfl) T.g_is_integer T.d_is_integer.kp T.b_is_integer .nil pass0 (pa_cons (pv 2) pa_nil)))) (pw_or1 (pt_not (pt_chain op_le op_le pe_int (pv 2) (pe_glob (v := .int 1000000000000) (by rfl) T.c_MOST_TIMES.choose_spec ⟨_, rfl⟩)))))) (pss_one ps_never) pss_nil)
      (pss_cons (ps_set (i := 3) sc_repeated_outcome.nd rfl (Or.inr rfl) (pe_lc (own := [("kind", 4)]) rfl sc_repeated_outcome.nd (pi_tup' (K := K) (by rfl) (pv 1)) (blkOk_by (own := [("kind", 4)]) (N := ["program", "order", "times", "places", "kind"]) (sc := defScope (top 26)) (by decide +kernel)) (fun _ _ _ _ _ => (pg_name (i := 4) sc_repeated_outcome.nd rfl (Or.inl rfl))) (fun _ _ _ _ _ => pts_nil) (fun _ _ _ _ _ => (pe_tindex' (K := K) (by rfl) (pe_prop (pv 0) T.cl_Program T.pr_kinds (getter_kinds T) (hr.mono (by decide)) T.b_Program_kinds .nil pass0 rfl) (pv 4)))))
      (pss_one (ps_ret (pe_lamcallP (k := 20) (ps := ["rows", "state"]) (by rfl) T.g_told_behind T.d_told_behind T.b_told_behind sc_told_behind (by rfl) (Or.inl rfl) (fun cdg => gv_told_behind T rfl rfl _ cdg) TB (by rfl) (by rfl) (hr.mono (by decide)) (show LamP (defScope (top 26)) _ ["program", "order", "times", "places", "kind"] ["rows", "state"] from lamP_by (by decide +kernel)) (by rfl) (fun _ _ _ _ _ us hl => match us, hl with | [_, _], _ => rfl) (pv 0) (by rfl) (fun A_ outer_ s_ H_ f_ c_ hr => (pe_call (ok_leaped T) (hr.mono (by decide)) (by rfl) T.g_leaped T.d_leaped.kp T.b_leaped .nil pass0 (pa_cons (pe_call (ok_table_of T) (hr.mono (by decide)) (by rfl) T.g_table_of T.d_table_of.kp T.b_table_of .nil pass0 (pa_cons (pv 5) (pa_cons (pv 3) pa_nil))) (pa_cons (pv 6) (pa_cons (pv 2) pa_nil)))))))))))), ?_⟩
    refine ⟨_, rfl, _, rfl, ?_⟩
    obtain ⟨t1, h2, hm⟩ := bindK nb0 hm
    try dsimp only at hm
    refine ⟨B0, u0, vv0, u1, vv1, rfl, w0.bh, rr0, rr1, (Post.mk_ h2 fun v3 B4 H5 g6 r7 => ?_)⟩
    have w9 := w0.trans g6
    have e8 := g6.bb
    obtain rfl : v3 = .non := r7
    refine ⟨_, rfl, ?_⟩
    obtain ⟨t10, h11, hm⟩ := bindK nb0 hm
    try dsimp only at hm
    refine ⟨B4, u2, rfl, w9.bh, (Post.mk_ h11 fun v12 B13 H14 g15 r16 => ?_)⟩
    have w18 := w9.trans g15
    have e17 := g15.bb
    obtain rfl : v12 = (.bl t10) := r16
    refine ⟨_, rfl, ?_⟩
    refine ite_both hm (fun hc19 hm => ?_) (fun hc19 hm => ?_)
    · skip
      try dsimp only at hm
      refine iteT ?_
      exact (nb_bad nb0 hm).elim
    · skip
      try dsimp only at hm
      refine ⟨_, rfl, _, _, rfl, rfl, _, rfl, ?_⟩
      refine ite_both hm (fun hc20 hm => ?_) (fun hc20 hm => ?_)
      · skip
        try dsimp only at hm
        refine ⟨_, _, rfl, rfl, _, rfl, ?_⟩
        refine ite_both hm (fun hc21 hm => ?_) (fun hc21 hm => ?_)
        · skip
          try dsimp only at hm
          exact (nb_bad nb0 hm).elim
        · skip
          try dsimp only at hm
          refine ⟨_, rfl, ?_⟩
          obtain ⟨p22, x23, ev26, hp24, rl25⟩ := id (rr1.mono (e8.trans e17))
          subst ev26
          refine ⟨p22, rfl, ⟨x23, (same_t w18.bh hp24)⟩, ?_⟩
          intro D27 hD28
          have g29 := Grow.newOwn (S := S0) (o := .lst []) w18.bh hD28
          have o33 := Own.new (K := K) (ds := []) w18 hD28 rfl
          have w35 := w18.trans g29
          have e34 := g29.bb
          obtain ⟨KL30, hm, hst31, hdn32⟩ := compK nb0 hm
          refine lc_it (walk_tup (K := K) (a := p22) (xs := x23)) (fun i42 H => ∃ (B36 : Hp) (x37 : (List Int)) (xs38 : List V), Grow S0 B0 H0 B36 H ∧ Same B13 B36 ∧ Own K H0 B36 H D27 xs38 ((x37).map D.int) ∧ KL30 i42 () x37) ⟨B13, ([] : List Int), [], w35, (Same.refl _), o33, hm⟩ (fun i42 H44 _ h => ?_) (fun i42 x43 H44 H45 hi h hy => ?_) (fun H46 h => ?_)
          · skip
            obtain ⟨B36, x37, xs38, w39, e40, o41, _⟩ := h
            exact (same_t w39.bh (same_t (e34.trans e40) hp24))
          · skip
            obtain ⟨B36, x37, xs38, w39, e40, o41, hm⟩ := h
            obtain ⟨rfl, q50⟩ := hy
            obtain ⟨a47, ha48, r49⟩ := RepL.getm rl25 q50
            obtain ⟨hlt55, KB51, nb52, hm, hnx53, hno54⟩ := hst31 i42 _ _ _ ha48 hm
            try dsimp only at hm
            obtain rfl : x43 = (.str a47) := r49
            refine ⟨rfl, ?_⟩
            refine tyes_go ?_
            refine ⟨_, rfl, ?_⟩
            refine prog_kinds (rr0.mono (e8.trans (e17.trans (e34.trans e40)))) w39.bh (fun v56 r57 => ?_)
            obtain ⟨p58, x59, ob60, ev63, hp61, rl62⟩ := id r57
            subst ev63
            refine ⟨⟨p58, ob60, x59, rfl, w39.bh _ _ hp61.1, hp61.2⟩, _, rfl, ?_⟩
            have sq65 : SqT K H45 p58 x59 := .inl (.inr ⟨_, w39.bh _ _ hp61.1⟩)
            have q64 := rl62.asStrs
            subst q64
            obtain ⟨t66, h67, hm⟩ := bindK nb52 hm
            try dsimp only at hm
            obtain ⟨j68, rfl, h67a, h67b⟩ := indexS_ok h67
            refine ⟨p58, u0.kinds, _, j68, rfl, rfl, sq65, h67a, h67b, ?_⟩
            refine ⟨xs38, o41.h, (lt_line (own_lt o41 hlt55)), ?_⟩
            have o69 := o41.put (es := ((x37 ++ [(j68 : Int)])).map D.int) (o41.r.snocm (a := (j68 : Int)) rfl)
            have w70 := w39.mut (o := (.lst (xs38 ++ [(.int (j68 : Int))]))) o41.n0 o41.b o41.h (by rfl)
            have hm := hnx53 _ _ hm
            exact ⟨B36, (x37 ++ [(j68 : Int)]), (xs38 ++ [(.int (j68 : Int))]), w70, e40, o69, hm⟩
          · skip
            obtain ⟨B36, x37, xs38, w39, e40, o41, hm⟩ := h
            have hm := hdn32 _ _ _ (Nat.le_of_eq (RepL.lenm rl25).symm) hm
            try dsimp only at hm
            obtain ⟨B71, w72, e73, r74, q75⟩ := freezeL w39 o41
            refine ⟨_, rfl, ?_⟩
            refine ⟨w72.tab _ tb0, fun H76 mk77 t78 => ?_⟩
            have g79 := MadeAt.grow mk77 w72.bh (w72.own _ (tab_ne tb0) bp0) (fun _ => t78) (fun P1 t1 n1 => mk77.un t1 n1)
            have w81 := w72.trans g79
            have e80 := g79.bb
            obtain ⟨t82, h83, hm⟩ := bindK nb0 hm
            try dsimp only at hm
            refine ⟨B71, u0, vv0, _, rfl, w81.bh, (rr0.mono (e8.trans (e17.trans (e34.trans (e40.trans (e73.trans e80)))))), ?_, Post.mk_ h83 fun v84 B85 H86 g87 r88 => ?_⟩
            · skip
              intro B89 H90 Q91 y98 z99 y101 e92 e93 r100 hm
              obtain ⟨K95, nb96, hm, fin97⟩ := hm.open_
              try dsimp only at hm
              have w94 : Grow S0 B89 H90 B89 H90 := Grow.refl e93
              refine ⟨_, rfl, _, rfl, ?_⟩
              obtain ⟨t102, h103, hm⟩ := bindK nb96 hm
              try dsimp only at hm
              refine ⟨B89, y98, z99, x37, (.ref D27), rfl, w94.bh, r100, (r74.mono (e80.trans e92)), (PostL.mk_ w94 h103 fun l109 xs110 B105 H106 hn111 g107 o112 => ?_)⟩
              have w114 := w94.trans g107
              have e113 := g107.bb
              refine ⟨_, rfl, _, rfl, ?_⟩
              obtain ⟨B115, w116, e117, r118, q119⟩ := freezeL w114 o112
              obtain ⟨t120, h121, hm⟩ := bindK nb96 hm
              try dsimp only at hm
              refine ⟨B115, t102, (.ref l109), y101, u2, rfl, w116.bh, r118, (Post.mk_ h121 fun v122 B123 H124 g125 r126 => ?_)⟩
              have w128 := w116.trans g125
              have e127 := g125.bb
              exact fin97 _ hm v122 B123 H124 w128 r126
            · skip
              have w130 := w81.trans g87
              have e129 := g87.bb
              exact fin _ hm v84 B85 H86 w130 r88
      · skip
        try dsimp only at hm
        refine ⟨_, rfl, ?_⟩
        show if (!false) = true then _ else _
        refine iteT ?_
        exact (nb_bad nb0 hm).elim

theorem kb_repeated_outcome_0 (T : Txt K mg) : KBinds K T.f_repeated_outcome ["program", "order", "times"] ["times", "order", "program"] (pick 0 3 [2, 1, 0]) (pick 0 3 [2, 1, 0]) := by
  obtain ⟨oc, od, dV, kV, doc, pm, an, cdv, ct, osl, e, _, _, hD, _⟩ := T.d_repeated_outcome.ex
  have hD2 : dV = .none := hD.elim (fun z => z.2) (fun z => absurd rfl z.1)
  subst hD2
  refine ⟨fun s us ws X hl => ?_, fun r rz => pick_rel r rz⟩
  have hl2 := pick_len hl
  rw [e]
  match us, ws, hl2 with
  | [], [_, _, _], _ => exact .of_eq rfl
theorem sc_l_word_power : FnScope ["_law_parts", "_law_word", "_law_number", "_law_often", "_law_rows", "_law_power", "_law_kind", "_law_k", "_law_found", "_law_state", "_law_gain"] ["_law_parts", "_law_word", "_law_number", "_law_often"] (defScope (top 37)) := ⟨rfl, rfl, rfl, by decide +kernel, rfl, by decide +kernel, by decide +kernel⟩
theorem ok_l_word_power (T : Txt K mg) : FnOk P w K mg base CX0 1 T.a_l_word_power T.f_l_word_power ["_law_parts", "_law_word", "_law_number", "_law_often"] (sp_l_word_power K T.a_Program) := by
  refine T.d_l_word_power.ok sc_l_word_power (fun vs H Q E h => ?_) (fun cdv A outer s H0 vs Q E hr h => ?_)
  · obtain ⟨_, _, _, _, _, _, _, rfl, _⟩ := h
    rfl
  · obtain ⟨B0, u0, vv0, u1, vv1, u2, u3, rfl, bh0, rr0, rr1, hmp⟩ := h
    obtain ⟨K0, nb0, hm, fin⟩ := hmp.open_
    unfold m_l_word_power at hm
    try dsimp only at hm
    have w0 : Grow S0 B0 H0 B0 H0 := Grow.refl bh0
    refine ⟨_, PSs.nox ((pss_cons (ps_set (i := 4) sc_l_word_power.nd rfl (Or.inr rfl) (pe_ix (ix_tup' (K := K) (by rfl)) (pe_ix (ix_tup' (K := K) (by rfl)) (pe_ix (ix_tup' (K := K) (by rfl)) (pv 0) pe_int (fun _ _ => rfl)) (pv 2) (fun _ _ => rfl)) pe_int (fun _ _ => rfl)))
      (pss_cons (ps_set (i := 5) sc_l_word_power.nd rfl (Or.inr rfl) (pe_lc (own := [("_law_state", 9)]) rfl sc_l_word_power.nd (pi_range1 (by rfl) T.n_range (pa_cons (pe_callB (call_len_seq' (K := K) (by rfl)) (by rfl) T.n_len (by decide +kernel) (pa_cons (pv 4) pa_nil)) pa_nil)) (blkOk_by (own := [("_law_state", 9)]) (N := ["_law_parts", "_law_word", "_law_number", "_law_often", "_law_rows", "_law_power", "_law_kind", "_law_k", "_law_found", "_law_state", "_law_gain"]) (sc := defScope (top 37)) (by decide +kernel)) (fun _ _ _ _ _ => (pg_name (i := 9) sc_l_word_power.nd rfl (Or.inl rfl))) (fun _ _ _ _ _ => pts_nil) (fun _ _ _ _ _ => (pe_tup (pa_cons (pv 9) (pa_cons pe_int pa_nil))))))
      (pss_cons (ps_for PassesOwn.never rfl (pi_tup' (K := K) (by rfl) (pv 1)) (pg_name (i := 6) sc_l_word_power.nd rfl (Or.inl rfl))
      (pss_cons (ps_set (i := 7) sc_l_word_power.nd rfl (Or.inr rfl) (pe_tindex' (K := K) (by rfl) (pe_ix (ix_tup' (K := K) (by rfl)) (pv 0) pe_int (fun _ _ => rfl)) (pv 6)))
      (pss_one (ps_set (i := 5) sc_l_word_power.nd rfl (Or.inr rfl) (pe_lc (own := [("_law_state", 9), ("_law_gain", 10)]) rfl sc_l_word_power.nd (pi_list' (K := K) (by rfl) (pv 5)) (blkOk_by (own := [("_law_state", 9), ("_law_gain", 10)]) (N := ["_law_parts", "_law_word", "_law_number", "_law_often", "_law_rows", "_law_power", "_law_kind", "_law_k", "_law_found", "_law_state", "_law_gain"]) (sc := defScope (top 37)) (by decide +kernel)) (fun _ _ _ _ _ => (pg_tup' (K := K) (n := 2) (by rfl) rfl (pgs_cons (pg_name (i := 9) sc_l_word_power.nd rfl (Or.inl rfl)) (pgs_cons (pg_name (i := 10) sc_l_word_power.nd rfl (Or.inl rfl)) pgs_nil)))) (fun _ _ _ _ _ => pts_nil) (fun _ _ _ _ _ => (pe_tup (pa_cons (pe_ix (ix_tup' (K := K) (by rfl)) (pe_ix (ix_tup' (K := K) (by rfl)) (pe_ix (ix_tup' (K := K) (by rfl)) (pv 4) (pv 9) (fun _ _ => rfl)) (pv 7) (fun _ _ => rfl)) pe_int (fun _ _ => rfl)) (pa_cons (pe_op op_add (pv 10) (pe_ix (ix_tup' (K := K) (by rfl)) (pe_ix (ix_tup' (K := K) (by rfl)) (pe_ix (ix_tup' (K := K) (by rfl)) (pv 4) (pv 9) (fun _ _ => rfl)) (pv 7) (fun _ _ => rfl)) pe_int (fun _ _ => rfl))) pa_nil)))))))))
      (pss_cons (ps_setLc (i := 8) (own := [("_law_state", 9)]) rfl sc_l_word_power.nd rfl rfl (sw_true rfl rfl rfl (by decide +kernel)) (pi_range1 (by rfl) T.n_range (pa_cons (pe_callB (call_len_seq' (K := K) (by rfl)) (by rfl) T.n_len (by decide +kernel) (pa_cons (pv 4) pa_nil)) pa_nil)) (blkOk_by (own := [("_law_state", 9)]) (N := ["_law_parts", "_law_word", "_law_number", "_law_often", "_law_rows", "_law_power", "_law_kind", "_law_k", "_law_found", "_law_state", "_law_gain"]) (sc := defScope (top 37)) (by decide +kernel)) (fun _ _ _ _ _ => (pg_name (i := 9) sc_l_word_power.nd rfl (Or.inl rfl))) (fun _ _ _ _ _ => pts_nil) (fun _ _ _ _ _ => (pe_tup (pa_cons (pv 9) (pa_cons pe_int pa_nil)))))
      (pss_cons (ps_while PassesOwn.never (pt_cmpR op_gt (pv 3) pe_int (nomark _))
      (Evl.pss_cut (ps_if (pt_cmpR op_eqI (pe_op op_mod (pe_callTy call_int1 (by rfl) T.n_int (by decide +kernel) (pa_cons (pv 3) pa_nil)) pe_int) pe_int (nomark _)) (pss_one (ps_setLc (i := 8) (own := [("_law_state", 9), ("_law_gain", 10)]) rfl sc_l_word_power.nd rfl rfl (sw_true rfl rfl rfl (by decide +kernel)) (pi_list' (K := K) (by rfl) (pv 8)) (blkOk_by (own := [("_law_state", 9), ("_law_gain", 10)]) (N := ["_law_parts", "_law_word", "_law_number", "_law_often", "_law_rows", "_law_power", "_law_kind", "_law_k", "_law_found", "_law_state", "_law_gain"]) (sc := defScope (top 37)) (by decide +kernel)) (fun _ _ _ _ _ => (pg_tup' (K := K) (n := 2) (by rfl) rfl (pgs_cons (pg_name (i := 9) sc_l_word_power.nd rfl (Or.inl rfl)) (pgs_cons (pg_name (i := 10) sc_l_word_power.nd rfl (Or.inl rfl)) pgs_nil)))) (fun _ _ _ _ _ => pts_nil) (fun _ _ _ _ _ => (pe_tup (pa_cons (pe_ix (ix_tup' (K := K) (by rfl)) (pe_ix (ix_list' (K := K) (by rfl)) (pv 5) (pv 9) (fun _ _ => rfl)) pe_int (fun _ _ => rfl)) (pa_cons (pe_op op_add (pv 10) (pe_ix (ix_tup' (K := K) (by rfl)) (pe_ix (ix_list' (K := K) (by rfl)) (pv 5) (pv 9) (fun _ _ => rfl)) pe_int (fun _ _ => rfl))) pa_nil)))))) pss_nil)
      (pss_cons (ps_set (i := 5) sc_l_word_power.nd rfl (Or.inr rfl) (pe_lc (own := [("_law_state", 9), ("_law_gain", 10)]) rfl sc_l_word_power.nd (pi_list' (K := K) (by rfl) (pv 5)) (blkOk_by (own := [("_law_state", 9), ("_law_gain", 10)]) (N := ["_law_parts", "_law_word", "_law_number", "_law_often", "_law_rows", "_law_power", "_law_kind", "_law_k", "_law_found", "_law_state", "_law_gain"]) (sc := defScope (top 37)) (by decide +kernel)) (fun _ _ _ _ _ => (pg_tup' (K := K) (n := 2) (by rfl) rfl (pgs_cons (pg_name (i := 9) sc_l_word_power.nd rfl (Or.inl rfl)) (pgs_cons (pg_name (i := 10) sc_l_word_power.nd rfl (Or.inl rfl)) pgs_nil)))) (fun _ _ _ _ _ => pts_nil) (fun _ _ _ _ _ => (pe_tup (pa_cons (pe_ix (ix_tup' (K := K) (by rfl)) (pe_ix (ix_list' (K := K) (by rfl)) (pv 5) (pv 9) (fun _ _ => rfl)) pe_int (fun _ _ => rfl)) (pa_cons (pe_op op_add (pv 10) (pe_ix (ix_tup' (K := K) (by rfl)) (pe_ix (ix_list' (K := K) (by rfl)) (pv 5) (pv 9) (fun _ _ => rfl)) pe_int (fun _ _ => rfl))) pa_nil))))))
      (pss_one (ps_set (i := 3) sc_l_word_power.nd rfl (Or.inl rfl) (pe_op op_fdiv (pv 3) pe_int))))))
      (pss_one (ps_ret (pv 8))))))))), ?_⟩
    refine ⟨_, rfl, ?_⟩
    refine tc_go ?_
    refine rixF (i := (1 : Int)) (d := (fun (l : List ((List Int) × (List (List (Int × Int))))) => D.tup (l.map (fun (p : ((List Int) × (List (List (Int × Int))))) => D.tup [(fun (l : List Int) => D.tup (l.map D.int)) p.1, (fun (l : List (List (Int × Int))) => D.tup (l.map (fun (l : List (Int × Int)) => D.tup (l.map (fun (p : (Int × Int)) => D.tup [D.int p.1, D.int p.2]))))) p.2]))) u0.2.1) rr0 w0.bh (by rfl) (fun v1 r2 => ?_)
    refine ⟨_, rfl, ?_⟩
    obtain ⟨t3, h4, hm⟩ := bindK nb0 hm
    try dsimp only at hm
    refine rixT (em := (fun (p : ((List Int) × (List (List (Int × Int))))) => D.tup [(fun (l : List Int) => D.tup (l.map D.int)) p.1, (fun (l : List (List (Int × Int))) => D.tup (l.map (fun (l : List (Int × Int)) => D.tup (l.map (fun (p : (Int × Int)) => D.tup [D.int p.1, D.int p.2]))))) p.2])) r2 w0.bh h4 (fun v5 r6 => ?_)
    refine tc_go ?_
    refine rixF (i := (1 : Int)) (d := (fun (l : List (List (Int × Int))) => D.tup (l.map (fun (l : List (Int × Int)) => D.tup (l.map (fun (p : (Int × Int)) => D.tup [D.int p.1, D.int p.2]))))) t3.2) r6 w0.bh (by rfl) (fun v7 r8 => ?_)
    refine ⟨_, rfl, ?_⟩
    obtain ⟨p9, x10, ev13, hp11, rl12⟩ := id r8
    subst ev13
    refine ⟨p9, x10, rfl, (.inr (same_t w0.bh hp11)), ?_⟩
    rw [RepL.lenm rl12]
    obtain ⟨l14, h15, hm⟩ := bindK nb0 hm
    try dsimp only at hm
    obtain ⟨h15c, rfl⟩ := rangeR_ok h15
    refine ⟨_, rfl, h15c.2.2.1, h15c.2.2.2, ?_⟩
    intro D16 hD17
    have g18 := Grow.newOwn (S := S0) (o := .lst []) w0.bh hD17
    have o22 := Own.new (K := K) (ds := []) w0 hD17 rfl
    have w24 := w0.trans g18
    have e23 := g18.bb
    obtain ⟨KL19, hm, hst20, hdn21⟩ := compK nb0 hm
    refine lc_it (walk_range (lo := 0) (n := ((t3.2.length : Int)).toNat)) (fun i31 H => ∃ (B25 : Hp) (x26 : (List (Int × Int))) (xs27 : List V), Grow S0 B0 H0 B25 H ∧ Same B0 B25 ∧ Own K H0 B25 H D16 xs27 ((x26).map (fun (p : (Int × Int)) => D.tup [D.int p.1, D.int p.2])) ∧ KL19 i31 () x26) ⟨B0, ([] : List (Int × Int)), [], w24, (Same.refl _), o22, hm⟩ (fun i31 H33 _ h => ?_) (fun i31 x32 H33 H34 hi h hy => ?_) (fun H35 h => ?_)
    · skip
      obtain ⟨B25, x26, xs27, w28, e29, o30, _⟩ := h
      exact trivial
    · skip
      obtain ⟨B25, x26, xs27, w28, e29, o30, hm⟩ := h
      obtain ⟨rfl, rfl⟩ := hy
      have ha37 := rng_at1 (lo := (0 : Int)) (hi := (t3.2.length : Int)) hi
      obtain ⟨hlt42, KB38, nb39, hm, hnx40, hno41⟩ := hst20 i31 _ _ _ ha37 hm
      try dsimp only at hm
      refine ⟨rfl, ?_⟩
      refine tyes_go ?_
      refine ⟨_, rfl, ?_⟩
      refine ⟨by show 2 ≤ sizeLine; decide, fun p43 hp44 => ?_⟩
      have g45 := Grow.new (S := S0) (o := (.tup [(.int ((0 : Int) + (i31 : Int))), (.int (0 : Int))])) w28.bh hp44
      have r46 : Rep K (upd B25 p43 (.tup [(.int ((0 : Int) + (i31 : Int))), (.int (0 : Int))])) ((fun (p : (Int × Int)) => D.tup [D.int p.1, D.int p.2]) (((0 : Int) + (i31 : Int)), (0 : Int))) (.ref p43) := ⟨p43, [(.int ((0 : Int) + (i31 : Int))), (.int (0 : Int))], rfl, SqT.of upd_same, (RepL.mono (same_upd (same_free w28.bh hp44)) (RepL.cons rfl (RepL.cons rfl RepL.nil)))⟩
      have w48 := w28.trans g45
      have e47 := g45.bb
      have o49 := o30.grow g45 (fun _ z => z.elim)
      refine ⟨xs27, o49.h, (lt_line (own_lt o49 hlt42)), ?_⟩
      have o50 := o49.put (es := ((x26 ++ [(((0 : Int) + (i31 : Int)), (0 : Int))])).map (fun (p : (Int × Int)) => D.tup [D.int p.1, D.int p.2])) (o49.r.snocm (a := (((0 : Int) + (i31 : Int)), (0 : Int))) r46)
      have w51 := w48.mut (o := (.lst (xs27 ++ [(.ref p43)]))) o49.n0 o49.b o49.h (by rfl)
      have hm := hnx40 _ _ hm
      exact ⟨(upd B25 p43 (.tup [(.int ((0 : Int) + (i31 : Int))), (.int (0 : Int))])), (x26 ++ [(((0 : Int) + (i31 : Int)), (0 : Int))]), (xs27 ++ [(.ref p43)]), w51, (e29.trans e47), o50, hm⟩
    · skip
      obtain ⟨B25, x26, xs27, w28, e29, o30, hm⟩ := h
      have hm := hdn21 _ _ _ (rng_len1 (lo := (0 : Int)) (hi := (t3.2.length : Int))) hm
      try dsimp only at hm
      obtain ⟨B52, w53, e54, r55, q56⟩ := freezeL w28 o30
      refine ⟨_, rfl, ?_⟩
      obtain ⟨p58, x59, ev62, hp60, rl61⟩ := id (rr1.mono (e23.trans (e29.trans e54)))
      subst ev62
      refine ⟨p58, rfl, ⟨x59, (same_t w53.bh hp60)⟩, ?_⟩
      obtain ⟨KL74, hm, hst75, hdn76⟩ := forK nb0 hm
      refine for_it (walk_tup (K := K) (a := p58) (xs := x59)) (fun i77 σ H => ∃ (B63 : Hp) (x64 : (List (Int × Int))) (v65 : V) (d66 : Option V) (d67 : Option V) (d68 : Option V) (d69 : Option V) (d70 : Option V), σ = [some vv0, some (.ref p58), some (.int u2), some (.int u3), some (.ref p9), some v65, d66, d67, d68, d69, d70] ∧ Grow S0 B0 H0 B63 H ∧ Same B52 B63 ∧ Rep K B63 ((fun (l : List (Int × Int)) => D.lst (l.map (fun (p : (Int × Int)) => D.tup [D.int p.1, D.int p.2]))) x64) v65 ∧ KL74 i77 x64) ⟨B52, x26, (.ref D16), _, _, _, _, _, rfl, w53, (Same.refl _), r55, hm⟩ (fun i77 σ H79 _ h => ?_) (fun i77 x78 σ H79 H80 hi h hy => ?_) (fun σ H81 h => ?_)
      · skip
        obtain ⟨B63, x64, v65, d66, d67, d68, d69, d70, rfl, w71, e72, r73, _⟩ := h
        exact (same_t w71.bh (same_t e72 hp60))
      · skip
        obtain ⟨B63, x64, v65, d66, d67, d68, d69, d70, rfl, w71, e72, r73, hm⟩ := h
        obtain ⟨rfl, q85⟩ := hy
        obtain ⟨a82, ha83, r84⟩ := RepL.getm rl61 q85
        obtain ⟨KB86, nb87, hm, hnx88⟩ := hst75 i77 _ _ ha83 hm
        try dsimp only at hm
        obtain rfl : x78 = (.str a82) := r84
        refine ⟨_, rfl, ?_⟩
        refine tc_go ?_
        refine rixF (i := (0 : Int)) (d := (fun (l : List Str) => D.ktup (l.map D.str)) u0.1) (rr0.mono (e23.trans (e29.trans (e54.trans e72)))) w71.bh (by rfl) (fun v91 r92 => ?_)
        obtain ⟨p93, x94, ob95, ev98, hp96, rl97⟩ := id r92
        subst ev98
        refine ⟨⟨p93, ob95, x94, rfl, w71.bh _ _ hp96.1, hp96.2⟩, _, rfl, ?_⟩
        have sq100 : SqT K H80 p93 x94 := .inl (.inr ⟨_, w71.bh _ _ hp96.1⟩)
        have q99 := rl97.asStrs
        subst q99
        obtain ⟨t101, h102, hm⟩ := bindK nb87 hm
        try dsimp only at hm
        obtain ⟨j103, rfl, h102a, h102b⟩ := indexS_ok h102
        refine ⟨p93, u0.1, _, j103, rfl, rfl, sq100, h102a, h102b, _, rfl, ?_⟩
        obtain ⟨p104, x105, ev108, hp106, rl107⟩ := id r73
        subst ev108
        refine ⟨p104, rfl, ⟨x105, SqL.of (w71.bh _ _ hp106)⟩, ?_⟩
        intro D109 hD110
        have g111 := Grow.newOwn (S := S0) (o := .lst []) w71.bh hD110
        have o115 := Own.new (K := K) (ds := []) w71 hD110 rfl
        have w117 := w71.trans g111
        have e116 := g111.bb
        obtain ⟨KL112, hm, hst113, hdn114⟩ := compK nb87 hm
        refine lc_it (walk_list (K := K) (a := p104) (xs := x105)) (fun i124 H => ∃ (B118 : Hp) (x119 : (List (Int × Int))) (xs120 : List V), Grow S0 B0 H0 B118 H ∧ Same B63 B118 ∧ Own K H0 B118 H D109 xs120 ((x119).map (fun (p : (Int × Int)) => D.tup [D.int p.1, D.int p.2])) ∧ KL112 i124 () x119) ⟨B63, ([] : List (Int × Int)), [], w117, (Same.refl _), o115, hm⟩ (fun i124 H126 _ h => ?_) (fun i124 x125 H126 H127 hi h hy => ?_) (fun H128 h => ?_)
        · skip
          obtain ⟨B118, x119, xs120, w121, e122, o123, _⟩ := h
          exact (SqL.of (w121.bh _ _ ((e116.trans e122) _ _ hp106)))
        · skip
          obtain ⟨B118, x119, xs120, w121, e122, o123, hm⟩ := h
          obtain ⟨rfl, q132⟩ := hy
          obtain ⟨a129, ha130, r131⟩ := RepL.getm rl107 q132
          obtain ⟨hlt137, KB133, nb134, hm, hnx135, hno136⟩ := hst113 i124 _ _ _ ha130 hm
          try dsimp only at hm
          obtain ⟨p138, x139, ev, hp140, ⟨v143, _, rfl, r144, ⟨v141, _, rfl, r142, rfl⟩⟩⟩ := (r131.mono (e116.trans e122))
          subst ev
          obtain rfl : v143 = (.int a129.1) := r144
          obtain rfl : v141 = (.int a129.2) := r142
          refine ⟨p138, _, rfl, (same_t w121.bh hp140), rfl, _, _, rfl, _, _, rfl, rfl, ?_⟩
          refine ⟨rfl, ?_⟩
          refine tyes_go ?_
          refine ⟨_, rfl, _, rfl, ?_⟩
          obtain ⟨t145, h146, hm⟩ := bindK nb134 hm
          try dsimp only at hm
          refine rixT (em := (fun (l : List (Int × Int)) => D.tup (l.map (fun (p : (Int × Int)) => D.tup [D.int p.1, D.int p.2])))) (r8.mono (e23.trans (e29.trans (e54.trans (e72.trans (e116.trans e122)))))) w121.bh h146 (fun v147 r148 => ?_)
          refine ⟨_, rfl, ?_⟩
          obtain ⟨t149, h150, hm⟩ := bindK nb134 hm
          try dsimp only at hm
          refine rixT (em := (fun (p : (Int × Int)) => D.tup [D.int p.1, D.int p.2])) r148 w121.bh h150 (fun v151 r152 => ?_)
          refine tc_go ?_
          refine rixF (i := (0 : Int)) (d := D.int t149.1) r152 w121.bh (by rfl) (fun v153 r154 => ?_)
          obtain rfl : v153 = (.int t149.1) := r154
          refine ⟨_, rfl, _, rfl, _, rfl, ?_⟩
          obtain ⟨t155, h156, hm⟩ := bindK nb134 hm
          try dsimp only at hm
          refine rixT (em := (fun (l : List (Int × Int)) => D.tup (l.map (fun (p : (Int × Int)) => D.tup [D.int p.1, D.int p.2])))) (r8.mono (e23.trans (e29.trans (e54.trans (e72.trans (e116.trans e122)))))) w121.bh h156 (fun v157 r158 => ?_)
          refine ⟨_, rfl, ?_⟩
          obtain ⟨t159, h160, hm⟩ := bindK nb134 hm
          try dsimp only at hm
          refine rixT (em := (fun (p : (Int × Int)) => D.tup [D.int p.1, D.int p.2])) r158 w121.bh h160 (fun v161 r162 => ?_)
          refine tc_go ?_
          refine rixF (i := (1 : Int)) (d := D.int t159.2) r162 w121.bh (by rfl) (fun v163 r164 => ?_)
          obtain rfl : v163 = (.int t159.2) := r164
          refine ⟨_, _, rfl, rfl, ?_⟩
          refine ⟨by show 2 ≤ sizeLine; decide, fun p165 hp166 => ?_⟩
          have g167 := Grow.new (S := S0) (o := (.tup [(.int t149.1), (.int (a129.2 + t159.2))])) w121.bh hp166
          have r168 : Rep K (upd B118 p165 (.tup [(.int t149.1), (.int (a129.2 + t159.2))])) ((fun (p : (Int × Int)) => D.tup [D.int p.1, D.int p.2]) (t149.1, (a129.2 + t159.2))) (.ref p165) := ⟨p165, [(.int t149.1), (.int (a129.2 + t159.2))], rfl, SqT.of upd_same, (RepL.mono (same_upd (same_free w121.bh hp166)) (RepL.cons rfl (RepL.cons rfl RepL.nil)))⟩
          have w170 := w121.trans g167
          have e169 := g167.bb
          have o171 := o123.grow g167 (fun _ z => z.elim)
          refine ⟨xs120, o171.h, (lt_line (own_lt o171 hlt137)), ?_⟩
          have o172 := o171.put (es := ((x119 ++ [(t149.1, (a129.2 + t159.2))])).map (fun (p : (Int × Int)) => D.tup [D.int p.1, D.int p.2])) (o171.r.snocm (a := (t149.1, (a129.2 + t159.2))) r168)
          have w173 := w170.mut (o := (.lst (xs120 ++ [(.ref p165)]))) o171.n0 o171.b o171.h (by rfl)
          have hm := hnx135 _ _ hm
          exact ⟨(upd B118 p165 (.tup [(.int t149.1), (.int (a129.2 + t159.2))])), (x119 ++ [(t149.1, (a129.2 + t159.2))]), (xs120 ++ [(.ref p165)]), w173, (e122.trans e169), o172, hm⟩
        · skip
          obtain ⟨B118, x119, xs120, w121, e122, o123, hm⟩ := h
          have hm := hdn114 _ _ _ (Nat.le_of_eq (RepL.lenm rl107).symm) hm
          try dsimp only at hm
          obtain ⟨B174, w175, e176, r177, q178⟩ := freezeL w121 o123
          have hm := hnx88 _ hm
          exact ⟨B174, x119, (.ref D109), _, _, _, _, _, rfl, w175, (e72.trans (e116.trans (e122.trans e176))), r177, hm⟩
      · skip
        obtain ⟨B63, x64, v65, d66, d67, d68, d69, d70, rfl, w71, e72, r73, hm⟩ := h
        have hm := hdn76 _ _ (Nat.le_of_eq (RepL.lenm rl61).symm) hm
        try dsimp only at hm
        refine ⟨_, rfl, ?_⟩
        obtain ⟨p179, x180, ev183, hp181, rl182⟩ := id (r8.mono (e23.trans (e29.trans (e54.trans e72))))
        cases ev183
        refine ⟨p9, x180, rfl, (.inr (same_t w71.bh hp181)), ?_⟩
        rw [RepL.lenm rl182]
        obtain ⟨l184, h185, hm⟩ := bindK nb0 hm
        try dsimp only at hm
        obtain ⟨h185c, rfl⟩ := rangeR_ok h185
        refine ⟨_, rfl, h185c.2.2.1, h185c.2.2.2, ?_⟩
        intro D186 hD187
        have g188 := Grow.newOwn (S := S0) (o := .lst []) w71.bh hD187
        have o192 := Own.new (K := K) (ds := []) w71 hD187 rfl
        have w194 := w71.trans g188
        have e193 := g188.bb
        obtain ⟨KL189, hm, hst190, hdn191⟩ := compK nb0 hm
        refine lc_it (walk_range (lo := 0) (n := ((t3.2.length : Int)).toNat)) (fun i201 H => ∃ (B195 : Hp) (x196 : (List (Int × Int))) (xs197 : List V), Grow S0 B0 H0 B195 H ∧ Same B63 B195 ∧ Own K H0 B195 H D186 xs197 ((x196).map (fun (p : (Int × Int)) => D.tup [D.int p.1, D.int p.2])) ∧ KL189 i201 () x196) ⟨B63, ([] : List (Int × Int)), [], w194, (Same.refl _), o192, hm⟩ (fun i201 H203 _ h => ?_) (fun i201 x202 H203 H204 hi h hy => ?_) (fun H205 h => ?_)
        · skip
          obtain ⟨B195, x196, xs197, w198, e199, o200, _⟩ := h
          exact trivial
        · skip
          obtain ⟨B195, x196, xs197, w198, e199, o200, hm⟩ := h
          obtain ⟨rfl, rfl⟩ := hy
          have ha207 := rng_at1 (lo := (0 : Int)) (hi := (t3.2.length : Int)) hi
          obtain ⟨hlt212, KB208, nb209, hm, hnx210, hno211⟩ := hst190 i201 _ _ _ ha207 hm
          try dsimp only at hm
          refine ⟨rfl, ?_⟩
          refine tyes_go ?_
          refine ⟨_, rfl, ?_⟩
          refine ⟨by show 2 ≤ sizeLine; decide, fun p213 hp214 => ?_⟩
          have g215 := Grow.new (S := S0) (o := (.tup [(.int ((0 : Int) + (i201 : Int))), (.int (0 : Int))])) w198.bh hp214
          have r216 : Rep K (upd B195 p213 (.tup [(.int ((0 : Int) + (i201 : Int))), (.int (0 : Int))])) ((fun (p : (Int × Int)) => D.tup [D.int p.1, D.int p.2]) (((0 : Int) + (i201 : Int)), (0 : Int))) (.ref p213) := ⟨p213, [(.int ((0 : Int) + (i201 : Int))), (.int (0 : Int))], rfl, SqT.of upd_same, (RepL.mono (same_upd (same_free w198.bh hp214)) (RepL.cons rfl (RepL.cons rfl RepL.nil)))⟩
          have w218 := w198.trans g215
          have e217 := g215.bb
          have o219 := o200.grow g215 (fun _ z => z.elim)
          refine ⟨xs197, o219.h, (lt_line (own_lt o219 hlt212)), ?_⟩
          have o220 := o219.put (es := ((x196 ++ [(((0 : Int) + (i201 : Int)), (0 : Int))])).map (fun (p : (Int × Int)) => D.tup [D.int p.1, D.int p.2])) (o219.r.snocm (a := (((0 : Int) + (i201 : Int)), (0 : Int))) r216)
          have w221 := w218.mut (o := (.lst (xs197 ++ [(.ref p213)]))) o219.n0 o219.b o219.h (by rfl)
          have hm := hnx210 _ _ hm
          exact ⟨(upd B195 p213 (.tup [(.int ((0 : Int) + (i201 : Int))), (.int (0 : Int))])), (x196 ++ [(((0 : Int) + (i201 : Int)), (0 : Int))]), (xs197 ++ [(.ref p213)]), w221, (e199.trans e217), o220, hm⟩
        · skip
          obtain ⟨B195, x196, xs197, w198, e199, o200, hm⟩ := h
          have hm := hdn191 _ _ _ (rng_len1 (lo := (0 : Int)) (hi := (t3.2.length : Int))) hm
          try dsimp only at hm
          obtain ⟨B222, w223, e224, r225, q226⟩ := freezeL w198 o200
          obtain ⟨KL241, hm, hst242⟩ := whileXK nb0 hm
          refine ⟨fun m243 σ H => ∃ (B227 : Hp) (x228 : (List (Int × Int))) (v229 : V) (x230 : (List (Int × Int))) (v231 : V) (x232 : Int) (d233 : Option V) (d234 : Option V) (d235 : Option V) (d236 : Option V), σ = [some vv0, some (.ref p58), some (.int u2), some (.int x232), some (.ref p9), some v231, d233, d234, some v229, d235, d236] ∧ Grow S0 B0 H0 B227 H ∧ Same B222 B227 ∧ Rep K B227 ((fun (l : List (Int × Int)) => D.lst (l.map (fun (p : (Int × Int)) => D.tup [D.int p.1, D.int p.2]))) x228) v229 ∧ Rep K B227 ((fun (l : List (Int × Int)) => D.lst (l.map (fun (p : (Int × Int)) => D.tup [D.int p.1, D.int p.2]))) x230) v231 ∧ KL241 m243 (x228, x230, x232), ⟨_, ⟨B222, x196, (.ref D186), x64, v65, u3, _, _, _, _, rfl, w223, (Same.refl _), r225, (r73.mono (e193.trans (e199.trans e224))), hm⟩⟩, fun m243 σ H244 h => ?_⟩
          obtain ⟨B227, x228, v229, x230, v231, x232, d233, d234, d235, d236, rfl, w237, e238, r239, r240, hm⟩ := h
          obtain ⟨KC245, nb246, hm, hF247, hT248⟩ := hst242 _ _ hm
          try dsimp only at hm
          refine ⟨_, rfl, _, _, rfl, rfl, _, rfl, ?_⟩
          refine wh_both hm (fun hm => ?_) (fun hm => ?_)
          · skip
            obtain ⟨KB249, nb250, hm, hnx251, hbk252, hrt253⟩ := hT248 hm
            try dsimp only at hm
            refine ⟨fun σ H => ∃ m2, m2 < m243 ∧ ∃ (B227 : Hp) (x228 : (List (Int × Int))) (v229 : V) (x230 : (List (Int × Int))) (v231 : V) (x232 : Int) (d233 : Option V) (d234 : Option V) (d235 : Option V) (d236 : Option V), σ = [some vv0, some (.ref p58), some (.int u2), some (.int x232), some (.ref p9), some v231, d233, d234, some v229, d235, d236] ∧ Grow S0 B0 H0 B227 H ∧ Same B222 B227 ∧ Rep K B227 ((fun (l : List (Int × Int)) => D.lst (l.map (fun (p : (Int × Int)) => D.tup [D.int p.1, D.int p.2]))) x228) v229 ∧ Rep K B227 ((fun (l : List (Int × Int)) => D.lst (l.map (fun (p : (Int × Int)) => D.tup [D.int p.1, D.int p.2]))) x230) v231 ∧ KL241 m2 (x228, x230, x232), fun _ _ h => h, ?_⟩
            obtain ⟨K254, nb255, hm, hk256⟩ := partK nb250 hm
            refine ⟨fun σ H => ∃ (B257 : Hp) (x258 : (List (Int × Int))) (v259 : V) (d260 : Option V) (d261 : Option V) (d262 : Option V) (d263 : Option V), σ = [some vv0, some (.ref p58), some (.int u2), some (.int x232), some (.ref p9), some v231, d260, d261, some v259, d262, d263] ∧ Grow S0 B0 H0 B257 H ∧ Same B227 B257 ∧ Rep K B257 ((fun (l : List (Int × Int)) => D.lst (l.map (fun (p : (Int × Int)) => D.tup [D.int p.1, D.int p.2]))) x258) v259 ∧ K254 (.ok x258), ?_, fun σ H267 h => ?_⟩
            · skip
              refine ⟨_, rfl, ?_⟩
              refine .inl ⟨_, rfl, ?_⟩
              refine ⟨_, _, rfl, rfl, by show (0 : Int) < _; decide, _, _, rfl, rfl, _, rfl, ?_⟩
              refine ite_both hm (fun hc268 hm => ?_) (fun hc268 hm => ?_)
              · skip
                try dsimp only at hm
                refine ⟨_, rfl, ?_⟩
                obtain ⟨p269, x270, ev273, hp271, rl272⟩ := id r239
                subst ev273
                refine ⟨p269, rfl, ⟨x270, SqL.of (w237.bh _ _ hp271)⟩, ?_⟩
                intro D274 hD275
                have g276 := Grow.newOwn (S := S0) (o := .lst []) w237.bh hD275
                have o280 := Own.new (K := K) (ds := []) w237 hD275 rfl
                have w282 := w237.trans g276
                have e281 := g276.bb
                obtain ⟨KL277, hm, hst278, hdn279⟩ := compK nb255 hm
                refine lc_it (walk_list (K := K) (a := p269) (xs := x270)) (fun i289 H => ∃ (B283 : Hp) (x284 : (List (Int × Int))) (xs285 : List V), Grow S0 B0 H0 B283 H ∧ Same B227 B283 ∧ Own K H0 B283 H D274 xs285 ((x284).map (fun (p : (Int × Int)) => D.tup [D.int p.1, D.int p.2])) ∧ KL277 i289 () x284) ⟨B227, ([] : List (Int × Int)), [], w282, (Same.refl _), o280, hm⟩ (fun i289 H291 _ h => ?_) (fun i289 x290 H291 H292 hi h hy => ?_) (fun H293 h => ?_)
                · skip
                  obtain ⟨B283, x284, xs285, w286, e287, o288, _⟩ := h
                  exact (SqL.of (w286.bh _ _ ((e281.trans e287) _ _ hp271)))
                · skip
                  obtain ⟨B283, x284, xs285, w286, e287, o288, hm⟩ := h
                  obtain ⟨rfl, q297⟩ := hy
                  obtain ⟨a294, ha295, r296⟩ := RepL.getm rl272 q297
                  obtain ⟨hlt302, KB298, nb299, hm, hnx300, hno301⟩ := hst278 i289 _ _ _ ha295 hm
                  try dsimp only at hm
                  obtain ⟨p303, x304, ev, hp305, ⟨v308, _, rfl, r309, ⟨v306, _, rfl, r307, rfl⟩⟩⟩ := (r296.mono (e281.trans e287))
                  subst ev
                  obtain rfl : v308 = (.int a294.1) := r309
                  obtain rfl : v306 = (.int a294.2) := r307
                  refine ⟨p303, _, rfl, (same_t w286.bh hp305), rfl, _, _, rfl, _, _, rfl, rfl, ?_⟩
                  refine ⟨rfl, ?_⟩
                  refine tyes_go ?_
                  refine ⟨_, rfl, _, rfl, ?_⟩
                  obtain ⟨t310, h311, hm⟩ := bindK nb299 hm
                  try dsimp only at hm
                  refine rixL (em := (fun (p : (Int × Int)) => D.tup [D.int p.1, D.int p.2])) (r240.mono (e281.trans e287)) w286.bh h311 (fun v312 r313 => ?_)
                  refine tc_go ?_
                  refine rixF (i := (0 : Int)) (d := D.int t310.1) r313 w286.bh (by rfl) (fun v314 r315 => ?_)
                  obtain rfl : v314 = (.int t310.1) := r315
                  refine ⟨_, rfl, _, rfl, _, rfl, ?_⟩
                  obtain ⟨t316, h317, hm⟩ := bindK nb299 hm
                  try dsimp only at hm
                  refine rixL (em := (fun (p : (Int × Int)) => D.tup [D.int p.1, D.int p.2])) (r240.mono (e281.trans e287)) w286.bh h317 (fun v318 r319 => ?_)
                  refine tc_go ?_
                  refine rixF (i := (1 : Int)) (d := D.int t316.2) r319 w286.bh (by rfl) (fun v320 r321 => ?_)
                  obtain rfl : v320 = (.int t316.2) := r321
                  refine ⟨_, _, rfl, rfl, ?_⟩
                  refine ⟨by show 2 ≤ sizeLine; decide, fun p322 hp323 => ?_⟩
                  have g324 := Grow.new (S := S0) (o := (.tup [(.int t310.1), (.int (a294.2 + t316.2))])) w286.bh hp323
                  have r325 : Rep K (upd B283 p322 (.tup [(.int t310.1), (.int (a294.2 + t316.2))])) ((fun (p : (Int × Int)) => D.tup [D.int p.1, D.int p.2]) (t310.1, (a294.2 + t316.2))) (.ref p322) := ⟨p322, [(.int t310.1), (.int (a294.2 + t316.2))], rfl, SqT.of upd_same, (RepL.mono (same_upd (same_free w286.bh hp323)) (RepL.cons rfl (RepL.cons rfl RepL.nil)))⟩
                  have w327 := w286.trans g324
                  have e326 := g324.bb
                  have o328 := o288.grow g324 (fun _ z => z.elim)
                  refine ⟨xs285, o328.h, (lt_line (own_lt o328 hlt302)), ?_⟩
                  have o329 := o328.put (es := ((x284 ++ [(t310.1, (a294.2 + t316.2))])).map (fun (p : (Int × Int)) => D.tup [D.int p.1, D.int p.2])) (o328.r.snocm (a := (t310.1, (a294.2 + t316.2))) r325)
                  have w330 := w327.mut (o := (.lst (xs285 ++ [(.ref p322)]))) o328.n0 o328.b o328.h (by rfl)
                  have hm := hnx300 _ _ hm
                  exact ⟨(upd B283 p322 (.tup [(.int t310.1), (.int (a294.2 + t316.2))])), (x284 ++ [(t310.1, (a294.2 + t316.2))]), (xs285 ++ [(.ref p322)]), w330, (e287.trans e326), o329, hm⟩
                · skip
                  obtain ⟨B283, x284, xs285, w286, e287, o288, hm⟩ := h
                  have hm := hdn279 _ _ _ (Nat.le_of_eq (RepL.lenm rl272).symm) hm
                  try dsimp only at hm
                  obtain ⟨B331, w332, e333, r334, q335⟩ := freezeL w286 o288
                  exact ⟨B331, x284, (.ref D274), _, _, _, _, rfl, w332, (e281.trans (e287.trans e333)), r334, hm⟩
              · skip
                try dsimp only at hm
                exact ⟨B227, x228, v229, _, _, _, _, rfl, w237, (Same.refl _), r239, hm⟩
            · skip
              obtain ⟨B257, x258, v259, d260, d261, d262, d263, rfl, w264, e265, r266, hm⟩ := h
              have hm := hk256 _ hm
              try dsimp only at hm
              refine ⟨_, rfl, ?_⟩
              obtain ⟨p336, x337, ev340, hp338, rl339⟩ := id (r240.mono e265)
              subst ev340
              refine ⟨p336, rfl, ⟨x337, SqL.of (w264.bh _ _ hp338)⟩, ?_⟩
              intro D341 hD342
              have g343 := Grow.newOwn (S := S0) (o := .lst []) w264.bh hD342
              have o347 := Own.new (K := K) (ds := []) w264 hD342 rfl
              have w349 := w264.trans g343
              have e348 := g343.bb
              obtain ⟨KL344, hm, hst345, hdn346⟩ := compK nb250 hm
              refine lc_it (walk_list (K := K) (a := p336) (xs := x337)) (fun i356 H => ∃ (B350 : Hp) (x351 : (List (Int × Int))) (xs352 : List V), Grow S0 B0 H0 B350 H ∧ Same B257 B350 ∧ Own K H0 B350 H D341 xs352 ((x351).map (fun (p : (Int × Int)) => D.tup [D.int p.1, D.int p.2])) ∧ KL344 i356 () x351) ⟨B257, ([] : List (Int × Int)), [], w349, (Same.refl _), o347, hm⟩ (fun i356 H358 _ h => ?_) (fun i356 x357 H358 H359 hi h hy => ?_) (fun H360 h => ?_)
              · skip
                obtain ⟨B350, x351, xs352, w353, e354, o355, _⟩ := h
                exact (SqL.of (w353.bh _ _ ((e348.trans e354) _ _ hp338)))
              · skip
                obtain ⟨B350, x351, xs352, w353, e354, o355, hm⟩ := h
                obtain ⟨rfl, q364⟩ := hy
                obtain ⟨a361, ha362, r363⟩ := RepL.getm rl339 q364
                obtain ⟨hlt369, KB365, nb366, hm, hnx367, hno368⟩ := hst345 i356 _ _ _ ha362 hm
                try dsimp only at hm
                obtain ⟨p370, x371, ev, hp372, ⟨v375, _, rfl, r376, ⟨v373, _, rfl, r374, rfl⟩⟩⟩ := (r363.mono (e348.trans e354))
                subst ev
                obtain rfl : v375 = (.int a361.1) := r376
                obtain rfl : v373 = (.int a361.2) := r374
                refine ⟨p370, _, rfl, (same_t w353.bh hp372), rfl, _, _, rfl, _, _, rfl, rfl, ?_⟩
                refine ⟨rfl, ?_⟩
                refine tyes_go ?_
                refine ⟨_, rfl, _, rfl, ?_⟩
                obtain ⟨t377, h378, hm⟩ := bindK nb366 hm
                try dsimp only at hm
                refine rixL (em := (fun (p : (Int × Int)) => D.tup [D.int p.1, D.int p.2])) (r240.mono (e265.trans (e348.trans e354))) w353.bh h378 (fun v379 r380 => ?_)
                refine tc_go ?_
                refine rixF (i := (0 : Int)) (d := D.int t377.1) r380 w353.bh (by rfl) (fun v381 r382 => ?_)
                obtain rfl : v381 = (.int t377.1) := r382
                refine ⟨_, rfl, _, rfl, _, rfl, ?_⟩
                obtain ⟨t383, h384, hm⟩ := bindK nb366 hm
                try dsimp only at hm
                refine rixL (em := (fun (p : (Int × Int)) => D.tup [D.int p.1, D.int p.2])) (r240.mono (e265.trans (e348.trans e354))) w353.bh h384 (fun v385 r386 => ?_)
                refine tc_go ?_
                refine rixF (i := (1 : Int)) (d := D.int t383.2) r386 w353.bh (by rfl) (fun v387 r388 => ?_)
                obtain rfl : v387 = (.int t383.2) := r388
                refine ⟨_, _, rfl, rfl, ?_⟩
                refine ⟨by show 2 ≤ sizeLine; decide, fun p389 hp390 => ?_⟩
                have g391 := Grow.new (S := S0) (o := (.tup [(.int t377.1), (.int (a361.2 + t383.2))])) w353.bh hp390
                have r392 : Rep K (upd B350 p389 (.tup [(.int t377.1), (.int (a361.2 + t383.2))])) ((fun (p : (Int × Int)) => D.tup [D.int p.1, D.int p.2]) (t377.1, (a361.2 + t383.2))) (.ref p389) := ⟨p389, [(.int t377.1), (.int (a361.2 + t383.2))], rfl, SqT.of upd_same, (RepL.mono (same_upd (same_free w353.bh hp390)) (RepL.cons rfl (RepL.cons rfl RepL.nil)))⟩
                have w394 := w353.trans g391
                have e393 := g391.bb
                have o395 := o355.grow g391 (fun _ z => z.elim)
                refine ⟨xs352, o395.h, (lt_line (own_lt o395 hlt369)), ?_⟩
                have o396 := o395.put (es := ((x351 ++ [(t377.1, (a361.2 + t383.2))])).map (fun (p : (Int × Int)) => D.tup [D.int p.1, D.int p.2])) (o395.r.snocm (a := (t377.1, (a361.2 + t383.2))) r392)
                have w397 := w394.mut (o := (.lst (xs352 ++ [(.ref p389)]))) o395.n0 o395.b o395.h (by rfl)
                have hm := hnx367 _ _ hm
                exact ⟨(upd B350 p389 (.tup [(.int t377.1), (.int (a361.2 + t383.2))])), (x351 ++ [(t377.1, (a361.2 + t383.2))]), (xs352 ++ [(.ref p389)]), w397, (e354.trans e393), o396, hm⟩
              · skip
                obtain ⟨B350, x351, xs352, w353, e354, o355, hm⟩ := h
                have hm := hdn346 _ _ _ (Nat.le_of_eq (RepL.lenm rl339).symm) hm
                try dsimp only at hm
                obtain ⟨B398, w399, e400, r401, q402⟩ := freezeL w353 o355
                refine ⟨_, rfl, _, _, rfl, rfl, ⟨by decide, by decide⟩, ?_⟩
                obtain ⟨m2, lt2, hm⟩ := hnx251 _ hm
                exact ⟨m2, lt2, ⟨B398, x258, v259, x351, (.ref D341), (x232 / (2 : Int)), _, _, _, _, rfl, w399, (e238.trans (e265.trans (e348.trans (e354.trans e400)))), (r266.mono (e348.trans (e354.trans e400))), r401, hm⟩⟩
          · skip
            have hm := hF247 hm
            try dsimp only at hm
            refine ⟨_, rfl, ?_⟩
            exact fin _ hm v229 B227 H244 w237 r239

theorem sc_l_powered : FnScope ["_law_parts", "_law_word", "_law_often", "_law_state", "_law_total", "_law_number", "_law_begins", "_law_rows", "_law_gain"] ["_law_parts", "_law_word", "_law_often"] (defScope (top 38)) := ⟨rfl, rfl, rfl, by decide +kernel, rfl, by decide +kernel, by decide +kernel⟩
theorem ok_l_powered (T : Txt K mg) : FnOk P w K mg base CX0 2 T.a_l_powered T.f_l_powered ["_law_parts", "_law_word", "_law_often"] (sp_l_powered K T.a_Program) := by
  refine T.d_l_powered.ok sc_l_powered (fun vs H Q E h => ?_) (fun cdv A outer s H0 vs Q E hr h => ?_)
  · obtain ⟨_, _, _, _, _, _, rfl, _⟩ := h
    rfl
  · obtain ⟨B0, u0, vv0, u1, vv1, u2, rfl, bh0, rr0, rr1, hmp⟩ := h
    obtain ⟨K0, nb0, hm, fin⟩ := hmp.open_
    unfold m_l_powered at hm
    try dsimp only at hm
    have w0 : Grow S0 B0 H0 B0 H0 := Grow.refl bh0
    refine ⟨_, PSs.nox ((pss_cons (ps_asg (pe_tup (pa_cons pe_int (pa_cons pe_int pa_nil))) (pg_tup' (K := K) (n := 2) (by rfl) rfl (pgs_cons (pg_name (i := 3) sc_l_powered.nd rfl (Or.inl rfl)) (pgs_cons (pg_name (i := 4) sc_l_powered.nd rfl (Or.inl rfl)) pgs_nil))))
      (pss_cons (ps_for PassesOwn.never rfl (pi_enumT' (K := K) (by rfl) (by rfl) T.n_enumerate (pa_cons (pe_ix (ix_tup' (K := K) (by rfl)) (pv 0) pe_int (fun _ _ => rfl)) pa_nil)) (pg_tup' (K := K) (n := 2) (by rfl) rfl (pgs_cons (pg_name (i := 5) sc_l_powered.nd rfl (Or.inl rfl)) (pgs_cons (pg_tup' (K := K) (n := 2) (by rfl) rfl (pgs_cons (pg_name (i := 6) sc_l_powered.nd rfl (Or.inl rfl)) (pgs_cons (pg_name (i := 7) sc_l_powered.nd rfl (Or.inl rfl)) pgs_nil))) pgs_nil)))
      (pss_cons (ps_asg (pe_ix (ix_list' (K := K) (by rfl)) (pe_call (ok_l_word_power T) (hr.mono (by decide)) (by rfl) T.g_l_word_power T.d_l_word_power.kp T.b_l_word_power .nil pass0 (pa_cons (pv 0) (pa_cons (pv 1) (pa_cons (pv 5) (pa_cons (pv 2) pa_nil))))) (pe_ix (ix_tup' (K := K) (by rfl)) (pv 6) (pv 3) (fun _ _ => rfl)) (fun _ _ => rfl)) (pg_tup' (K := K) (n := 2) (by rfl) rfl (pgs_cons (pg_name (i := 3) sc_l_powered.nd rfl (Or.inl rfl)) (pgs_cons (pg_name (i := 8) sc_l_powered.nd rfl (Or.inl rfl)) pgs_nil))))
      (pss_one (ps_set (i := 4) sc_l_powered.nd rfl (Or.inl rfl) (pe_op op_add (pv 4) (pv 8))))))
      (pss_one (ps_ret (pe_tup (pa_cons (pe_ix (ix_tup' (K := K) (by rfl)) (pe_ix (ix_tup' (K := K) (by rfl)) (pe_ix (ix_tup' (K := K) (by rfl)) (pv 0) pe_int (fun _ _ => rfl)) (pv 3) (fun _ _ => rfl)) pe_int (fun _ _ => rfl)) (pa_cons (pe_op op_add (pv 4) (pe_ix (ix_tup' (K := K) (by rfl)) (pe_ix (ix_tup' (K := K) (by rfl)) (pe_ix (ix_tup' (K := K) (by rfl)) (pv 0) pe_int (fun _ _ => rfl)) (pv 3) (fun _ _ => rfl)) pe_int (fun _ _ => rfl))) pa_nil)))))))), ?_⟩
    refine ⟨by show 2 ≤ sizeLine; decide, fun T1 hT2 => ?_⟩
    have g3 := Grow.newOwn (S := S0) (o := .tup [(.int (0 : Int)), (.int (0 : Int))]) w0.bh hT2
    have w5 := w0.trans g3
    have e4 := g3.bb
    refine ⟨T1, _, rfl, (SqT.of upd_same), rfl, _, _, rfl, _, _, rfl, rfl, ?_⟩
    refine ⟨_, rfl, ?_⟩
    refine tc_go ?_
    refine rixF (i := (1 : Int)) (d := (fun (l : List ((List Int) × (List (List (Int × Int))))) => D.tup (l.map (fun (p : ((List Int) × (List (List (Int × Int))))) => D.tup [(fun (l : List Int) => D.tup (l.map D.int)) p.1, (fun (l : List (List (Int × Int))) => D.tup (l.map (fun (l : List (Int × Int)) => D.tup (l.map (fun (p : (Int × Int)) => D.tup [D.int p.1, D.int p.2]))))) p.2]))) u0.2.1) (rr0.mono e4) w5.bh (by rfl) (fun v7 r8 => ?_)
    obtain ⟨p9, x10, ev13, hp11, rl12⟩ := id r8
    subst ev13
    refine ⟨p9, x10, rfl, (same_t w5.bh hp11), ?_⟩
    obtain ⟨KL23, hm, hst24, hdn25⟩ := forK nb0 hm
    refine for_it (walk_enumT (K := K) (a := p9) (xs := x10)) (fun i26 σ H => ∃ (B14 : Hp) (x15 : Int) (x16 : Int) (d17 : Option V) (d18 : Option V) (d19 : Option V) (d20 : Option V), σ = [some vv0, some vv1, some (.int u2), some (.int x15), some (.int x16), d17, d18, d19, d20] ∧ Grow S0 B0 H0 B14 H ∧ Same B0 B14 ∧ KL23 i26 (x15, x16)) ⟨B0, (0 : Int), (0 : Int), _, _, _, _, rfl, w5, (Same.refl _), hm⟩ (fun i26 σ H28 _ h => ?_) (fun i26 x27 σ H28 H29 hi h hy => ?_) (fun σ H30 h => ?_)
    · skip
      obtain ⟨B14, x15, x16, d17, d18, d19, d20, rfl, w21, e22, _⟩ := h
      exact (same_t w21.bh (same_t e22 hp11))
    · skip
      obtain ⟨B14, x15, x16, d17, d18, d19, d20, rfl, w21, e22, hm⟩ := h
      obtain ⟨T31, _, v32, rfl, hT33, rfl, hzz, hx34⟩ := hy
      cases hzz
      obtain ⟨a35, ha36, r37⟩ := RepL.getm rl12 hx34
      have g38 := Grow.newOwn (S := S0) (o := .tup [.int (i26 : Int), v32]) w21.bh hT33
      have w40 := w21.trans g38
      have e39 := g38.bb
      obtain ⟨KB41, nb42, hm, hnx43⟩ := hst24 i26 _ _ (enumL_at ha36) hm
      try dsimp only at hm
      refine ⟨T31, _, rfl, (SqT.of upd_same), rfl, _, _, rfl, _, _, rfl, ?_⟩
      obtain ⟨p46, x47, ev, hp48, ⟨v51, _, rfl, r52, ⟨v49, _, rfl, r50, rfl⟩⟩⟩ := (r37.mono (e22.trans e39))
      subst ev
      refine ⟨p46, _, rfl, (same_t w40.bh hp48), rfl, _, _, rfl, _, _, rfl, rfl, ?_⟩
      refine ⟨rfl, ?_⟩
      refine ⟨_, rfl, _, rfl, _, rfl, _, rfl, ?_⟩
      obtain ⟨t53, h54, hm⟩ := bindK nb42 hm
      try dsimp only at hm
      refine ⟨B14, u0, vv0, u1, vv1, (i26 : Int), u2, rfl, w40.bh, (rr0.mono (e4.trans (e22.trans e39))), (rr1.mono (e4.trans (e22.trans e39))), (Post.mk_ h54 fun v55 B56 H57 g58 r59 => ?_)⟩
      have w61 := w40.trans g58
      have e60 := g58.bb
      refine ⟨_, rfl, _, rfl, ?_⟩
      obtain ⟨t62, h63, hm⟩ := bindK nb42 hm
      try dsimp only at hm
      refine rixT (em := D.int) (r52.mono e60) w61.bh h63 (fun v64 r65 => ?_)
      obtain rfl : v64 = (.int t62) := r65
      obtain ⟨t66, h67, hm⟩ := bindK nb42 hm
      try dsimp only at hm
      refine rixL (em := (fun (p : (Int × Int)) => D.tup [D.int p.1, D.int p.2])) r59 w61.bh h67 (fun v68 r69 => ?_)
      obtain ⟨p70, x71, ev, hp72, ⟨v75, _, rfl, r76, ⟨v73, _, rfl, r74, rfl⟩⟩⟩ := r69
      subst ev
      obtain rfl : v75 = (.int t66.1) := r76
      obtain rfl : v73 = (.int t66.2) := r74
      refine ⟨p70, _, rfl, (same_t w61.bh hp72), rfl, _, _, rfl, _, _, rfl, rfl, ?_⟩
      refine ⟨_, rfl, _, rfl, _, _, rfl, rfl, ?_⟩
      have hm := hnx43 _ hm
      exact ⟨B56, t66.1, (x16 + t66.2), _, _, _, _, rfl, w61, (e22.trans (e39.trans e60)), hm⟩
    · skip
      obtain ⟨B14, x15, x16, d17, d18, d19, d20, rfl, w21, e22, hm⟩ := h
      have hm := hdn25 _ _ (Nat.le_of_eq ((enumL_len _).trans (RepL.lenm rl12).symm)) hm
      try dsimp only at hm
      refine ⟨_, rfl, ?_⟩
      refine tc_go ?_
      refine rixF (i := (2 : Int)) (d := (fun (l : List (Str × Int)) => D.tup (l.map (fun (p : (Str × Int)) => D.tup [D.str p.1, D.int p.2]))) u0.2.2) (rr0.mono (e4.trans e22)) w21.bh (by rfl) (fun v77 r78 => ?_)
      refine ⟨_, rfl, ?_⟩
      obtain ⟨t79, h80, hm⟩ := bindK nb0 hm
      try dsimp only at hm
      refine rixT (em := (fun (p : (Str × Int)) => D.tup [D.str p.1, D.int p.2])) r78 w21.bh h80 (fun v81 r82 => ?_)
      refine tc_go ?_
      refine rixF (i := (0 : Int)) (d := D.str t79.1) r82 w21.bh (by rfl) (fun v83 r84 => ?_)
      obtain rfl : v83 = (.str t79.1) := r84
      refine ⟨_, rfl, _, rfl, ?_⟩
      refine tc_go ?_
      refine rixF (i := (2 : Int)) (d := (fun (l : List (Str × Int)) => D.tup (l.map (fun (p : (Str × Int)) => D.tup [D.str p.1, D.int p.2]))) u0.2.2) (rr0.mono (e4.trans e22)) w21.bh (by rfl) (fun v85 r86 => ?_)
      refine ⟨_, rfl, ?_⟩
      obtain ⟨t87, h88, hm⟩ := bindK nb0 hm
      try dsimp only at hm
      refine rixT (em := (fun (p : (Str × Int)) => D.tup [D.str p.1, D.int p.2])) r86 w21.bh h88 (fun v89 r90 => ?_)
      refine tc_go ?_
      refine rixF (i := (1 : Int)) (d := D.int t87.2) r90 w21.bh (by rfl) (fun v91 r92 => ?_)
      obtain rfl : v91 = (.int t87.2) := r92
      refine ⟨_, _, rfl, rfl, ?_⟩
      refine ⟨by show 2 ≤ sizeLine; decide, fun p93 hp94 => ?_⟩
      have g95 := Grow.new (S := S0) (o := (.tup [(.str t79.1), (.int (x16 + t87.2))])) w21.bh hp94
      have r96 : Rep K (upd B14 p93 (.tup [(.str t79.1), (.int (x16 + t87.2))])) ((fun (p : (Str × Int)) => D.tup [D.str p.1, D.int p.2]) (t79.1, (x16 + t87.2))) (.ref p93) := ⟨p93, [(.str t79.1), (.int (x16 + t87.2))], rfl, SqT.of upd_same, (RepL.mono (same_upd (same_free w21.bh hp94)) (RepL.cons rfl (RepL.cons rfl RepL.nil)))⟩
      have w98 := w21.trans g95
      have e97 := g95.bb
      exact fin _ hm (.ref p93) (upd B14 p93 (.tup [(.str t79.1), (.int (x16 + t87.2))])) (upd H30 p93 (.tup [(.str t79.1), (.int (x16 + t87.2))])) w98 r96

theorem sc_need_order_1 : FnScope ["program", "order", "index", "kind"] ["program", "order"] (defScope (top 20)) := ⟨rfl, rfl, rfl, by decide +kernel, rfl, by decide +kernel, by decide +kernel⟩
theorem ok_need_order_1 (T : Txt K mg) : FnOk P w K mg base CX0 3 T.a_need_order T.f_need_order ["program", "order"] (sp_need_order_1 K T.a_Program) := by
  refine T.d_need_order.ok sc_need_order_1 (fun vs H Q E h => ?_) (fun cdv A outer s H0 vs Q E hr h => ?_)
  · obtain ⟨_, _, _, _, _, rfl, _⟩ := h
    rfl
  · obtain ⟨B0, u0, vv0, u1, vv1, rfl, bh0, rr0, rr1, hmp⟩ := h
    obtain ⟨K0, nb0, hm, fin⟩ := hmp.open_
    unfold m_need_order_1 at hm
    try dsimp only at hm
    have w0 : Grow S0 B0 H0 B0 H0 := Grow.refl bh0
    refine ⟨_, PSs.nox ((pss_cons (ps_if (pt_not (pt_val (pe_callB (call_isiT' (K := K) (by rfl)) (by rfl) T.n_isinstance (by decide +kernel) (pa_cons (pv 1) (pa_cons (pe_tup (pa_cons (pe_bltn (v := .ty "list") (by rfl) T.n_list (by decide +kernel) rfl) (pa_cons (pe_bltn (v := .ty "tuple") (by rfl) T.n_tuple (by decide +kernel) rfl) pa_nil))) pa_nil))))) pss_never pss_nil)
      (pss_one (ps_for PassesOwn.never rfl (pi_enum' (K := K) (by rfl) (by rfl) T.n_enumerate (pa_cons (pv 1) pa_nil)) (pg_tup' (K := K) (n := 2) (by rfl) rfl (pgs_cons (pg_name (i := 2) sc_need_order_1.nd rfl (Or.inl rfl)) (pgs_cons (pg_name (i := 3) sc_need_order_1.nd rfl (Or.inl rfl)) pgs_nil)))
      (pss_one (ps_if (PW.pt (pw_or (pt_not (pt_val (pe_callB (call_isi' (K := K) (by rfl)) (by rfl) T.n_isinstance (by decide +kernel) (pa_cons (pv 3) (pa_cons (pe_bltn (v := .ty "str") (by rfl) T.n_str (by decide +kernel) rfl) pa_nil))))) (pw_or1 (pt_cmpR (op_notIn_seq' (K := K) (by rfl)) (pv 3) (pe_prop (pv 0) T.cl_Program T.pr_kinds (getter_kinds T) (hr.mono (by decide)) T.b_Program_kinds .nil pass0 rfl) (by rfl))))) (pss_one ps_never) pss_nil)))))), ?_⟩
    refine ⟨_, rfl, ?_⟩
    obtain ⟨p1, x2, ev5, hp3, rl4⟩ := id rr1
    subst ev5
    refine ⟨by show 2 ≤ sizeLine; decide, fun tp6 hn8 => ?_⟩
    have g9 := Grow.newOwn (S := S0) (o := .tup [.ty "list", .ty "tuple"]) w0.bh hn8
    have w11 := w0.trans g9
    have e10 := g9.bb
    refine ⟨_, tp6, [.ty "list", .ty "tuple"], _, [.type "list", .type "tuple"], true, rfl, upd_same, (.cons (.ty _) (.cons (.ty _) Paired.nil)), (tyX_list (w11.bh _ _ hp3)), (kitAny_cons (b := true) (kit_ty (by decide +kernel)) (fun q => by cases q) (fun _ => rfl)), ?_⟩
    refine ⟨_, rfl, ?_⟩
    show if (!true) = true then _ else _
    refine iteF ?_
    refine ⟨_, rfl, ?_⟩
    obtain ⟨p13, x14, ev17, hp15, rl16⟩ := id (rr1.mono e10)
    cases ev17
    refine ⟨p1, x14, rfl, (SqL.of (w11.bh _ _ hp15)), ?_⟩
    obtain ⟨KL23, hm, hst24, hdn25⟩ := forXK nb0 hm
    refine for_it (walk_enum (K := K) (a := p1) (xs := x14)) (fun i26 σ H => ∃ (B18 : Hp) (d19 : Option V) (d20 : Option V), σ = [some vv0, some (.ref p1), d19, d20] ∧ Grow S0 B0 H0 B18 H ∧ Same B0 B18 ∧ KL23 i26 ()) ⟨B0, _, _, rfl, w11, (Same.refl _), hm⟩ (fun i26 σ H28 _ h => ?_) (fun i26 x27 σ H28 H29 hi h hy => ?_) (fun σ H30 h => ?_)
    · skip
      obtain ⟨B18, d19, d20, rfl, w21, e22, _⟩ := h
      exact (SqL.of (w21.bh _ _ (e22 _ _ hp15)))
    · skip
      obtain ⟨B18, d19, d20, rfl, w21, e22, hm⟩ := h
      obtain ⟨T31, _, v32, rfl, hT33, rfl, hzz, hx34⟩ := hy
      cases hzz
      obtain ⟨a35, ha36, r37⟩ := RepL.getm rl16 hx34
      have g38 := Grow.newOwn (S := S0) (o := .tup [.int (i26 : Int), v32]) w21.bh hT33
      have w40 := w21.trans g38
      have e39 := g38.bb
      obtain ⟨KB41, nb42, hm, hnx43, hbk44, hrt45⟩ := hst24 i26 _ _ (enumL_at ha36) hm
      try dsimp only at hm
      obtain rfl : v32 = (.str a35) := r37
      refine ⟨T31, _, rfl, (SqT.of upd_same), rfl, _, _, rfl, _, _, rfl, rfl, ?_⟩
      refine ⟨_, rfl, _, _, _, _, true, rfl, .ty _, (.base (.str _)), kit_ty (by decide +kernel), ?_⟩
      refine ⟨_, rfl, ?_⟩
      show if (!true) = true then _ else _
      refine iteF ?_
      refine ⟨_, rfl, _, rfl, ?_⟩
      refine prog_kinds (rr0.mono (e10.trans (e22.trans e39))) w40.bh (fun v46 r47 => ?_)
      obtain ⟨p48, x49, ev52, hp50, rl51⟩ := id (Rep.k2t r47)
      subst ev52
      have hx53 := rl51.asStrs
      subst hx53
      refine rin_strs (l := u0.kinds) (.inr (same_t w40.bh hp50)) ?_
      refine ⟨_, rfl, ?_⟩
      refine ite_both hm (fun hc54 hm => ?_) (fun hc54 hm => ?_)
      · skip
        try dsimp only at hm
        exact (nb_bad nb42 hm).elim
      · skip
        try dsimp only at hm
        have hm := hnx43 _ hm
        exact ⟨B18, _, _, rfl, w40, (e22.trans e39), hm⟩
    · skip
      obtain ⟨B18, d19, d20, rfl, w21, e22, hm⟩ := h
      have hm := hdn25 _ _ (Nat.le_of_eq ((enumL_len _).trans (RepL.lenm rl16).symm)) hm
      try dsimp only at hm
      exact fin _ hm .non B18 H30 w21 rfl

theorem sc_repeated_outcome_1 : FnScope ["program", "order", "times", "places", "kind"] ["program", "order", "times"] (defScope (top 26)) := ⟨rfl, rfl, rfl, by decide +kernel, rfl, by decide +kernel, by decide +kernel⟩
theorem ok_repeated_outcome_1 (T : Txt K mg) (TB : LamX.TabB base mg T.cc_ T.P_) : FnOk P w K mg base CX0 24 T.a_repeated_outcome T.f_repeated_outcome ["program", "order", "times"] (sp_repeated_outcome_1 K T.a_Program T.P_) := by
  refine funD_okC T.d_repeated_outcome T.cd_repeated_outcome sc_repeated_outcome_1 (fun vs H Q E h => ?_) (fun A outer s H0 vs Q E hr h => ?_)
  · obtain ⟨_, _, _, _, _, _, rfl, _⟩ := h
    rfl
  · obtain ⟨B0, u0, vv0, u1, vv1, u2, rfl, bh0, rr0, rr1, tb0, bp0, hmp⟩ := h
    obtain ⟨K0, nb0, hm, fin⟩ := hmp.open_
    unfold m_repeated_outcome_1 at hm
    try dsimp only at hm
    have w0 : Grow S0 B0 H0 B0 H0 := Grow.refl bh0
    refine ⟨_, PSs.nox ((pss_cons (ps_expr (pe_call (ok_need_order_1 T) (hr.mono (by decide)) (by rfl) T.g_need_order T.d_need_order.kp T.b_need_order .nil pass0 (pa_cons (pv 0) (pa_cons (pv 1) pa_nil))))
      (pss_cons (ps_if (PW.pt (pw_or (pt_not (pt_val (pe_call (ok_is_integer T) (hr.mono (by decide)) (by rfl) T.g_is_integer T.d_is_integer.kp T.b_is_integer .nil pass0 (pa_cons (pv 2) pa_nil)))) (pw_or1 (pt_not (pt_chain op_le op_le pe_int (pv 2) (pe_glob (v := .int 1000000000000) (by rfl) T.c_MOST_TIMES.choose_spec ⟨_, rfl⟩)))))) (pss_one ps_never) pss_nil)
      (pss_cons (ps_set (i := 3) sc_repeated_outcome_1.nd rfl (Or.inr rfl) (pe_lc (own := [("kind", 4)]) rfl sc_repeated_outcome_1.nd (pi_list' (K := K) (by rfl) (pv 1)) (blkOk_by (own := [("kind", 4)]) (N := ["program", "order", "times", "places", "kind"]) (sc := defScope (top 26)) (by decide +kernel)) (fun _ _ _ _ _ => (pg_name (i := 4) sc_repeated_outcome_1.nd rfl (Or.inl rfl))) (fun _ _ _ _ _ => pts_nil) (fun _ _ _ _ _ => (pe_tindex' (K := K) (by rfl) (pe_prop (pv 0) T.cl_Program T.pr_kinds (getter_kinds T) (hr.mono (by decide)) T.b_Program_kinds .nil pass0 rfl) (pv 4)))))
      (pss_one (ps_ret (pe_lamcallP (k := 20) (ps := ["rows", "state"]) (by rfl) T.g_told_behind T.d_told_behind T.b_told_behind sc_told_behind (by rfl) (Or.inl rfl) (fun cdg => gv_told_behind T rfl rfl _ cdg) TB (by rfl) (by rfl) (hr.mono (by decide)) (show LamP (defScope (top 26)) _ ["program", "order", "times", "places", "kind"] ["rows", "state"] from lamP_by (by decide +kernel)) (by rfl) (fun _ _ _ _ _ us hl => match us, hl with | [_, _], _ => rfl) (pv 0) (by rfl) (fun A_ outer_ s_ H_ f_ c_ hr => (pe_call (ok_leaped T) (hr.mono (by decide)) (by rfl) T.g_leaped T.d_leaped.kp T.b_leaped .nil pass0 (pa_cons (pe_call (ok_table_of T) (hr.mono (by decide)) (by rfl) T.g_table_of T.d_table_of.kp T.b_table_of .nil pass0 (pa_cons (pv 5) (pa_cons (pv 3) pa_nil))) (pa_cons (pv 6) (pa_cons (pv 2) pa_nil)))))))))))), ?_⟩
    refine ⟨_, rfl, _, rfl, ?_⟩
    obtain ⟨t1, h2, hm⟩ := bindK nb0 hm
    try dsimp only at hm
    refine ⟨B0, u0, vv0, u1, vv1, rfl, w0.bh, rr0, rr1, (Post.mk_ h2 fun v3 B4 H5 g6 r7 => ?_)⟩
    have w9 := w0.trans g6
    have e8 := g6.bb
    obtain rfl : v3 = .non := r7
    refine ⟨_, rfl, ?_⟩
    obtain ⟨t10, h11, hm⟩ := bindK nb0 hm
    try dsimp only at hm
    refine ⟨B4, u2, rfl, w9.bh, (Post.mk_ h11 fun v12 B13 H14 g15 r16 => ?_)⟩
    have w18 := w9.trans g15
    have e17 := g15.bb
    obtain rfl : v12 = (.bl t10) := r16
    refine ⟨_, rfl, ?_⟩
    refine ite_both hm (fun hc19 hm => ?_) (fun hc19 hm => ?_)
    · skip
      try dsimp only at hm
      refine iteT ?_
      exact (nb_bad nb0 hm).elim
    · skip
      try dsimp only at hm
      refine ⟨_, rfl, _, _, rfl, rfl, _, rfl, ?_⟩
      refine ite_both hm (fun hc20 hm => ?_) (fun hc20 hm => ?_)
      · skip
        try dsimp only at hm
        refine ⟨_, _, rfl, rfl, _, rfl, ?_⟩
        refine ite_both hm (fun hc21 hm => ?_) (fun hc21 hm => ?_)
        · skip
          try dsimp only at hm
          exact (nb_bad nb0 hm).elim
        · skip
          try dsimp only at hm
          refine ⟨_, rfl, ?_⟩
          obtain ⟨p22, x23, ev26, hp24, rl25⟩ := id (rr1.mono (e8.trans e17))
          subst ev26
          refine ⟨p22, rfl, ⟨x23, SqL.of (w18.bh _ _ hp24)⟩, ?_⟩
          intro D27 hD28
          have g29 := Grow.newOwn (S := S0) (o := .lst []) w18.bh hD28
          have o33 := Own.new (K := K) (ds := []) w18 hD28 rfl
          have w35 := w18.trans g29
          have e34 := g29.bb
          obtain ⟨KL30, hm, hst31, hdn32⟩ := compK nb0 hm
          refine lc_it (walk_list (K := K) (a := p22) (xs := x23)) (fun i42 H => ∃ (B36 : Hp) (x37 : (List Int)) (xs38 : List V), Grow S0 B0 H0 B36 H ∧ Same B13 B36 ∧ Own K H0 B36 H D27 xs38 ((x37).map D.int) ∧ KL30 i42 () x37) ⟨B13, ([] : List Int), [], w35, (Same.refl _), o33, hm⟩ (fun i42 H44 _ h => ?_) (fun i42 x43 H44 H45 hi h hy => ?_) (fun H46 h => ?_)
          · skip
            obtain ⟨B36, x37, xs38, w39, e40, o41, _⟩ := h
            exact (SqL.of (w39.bh _ _ ((e34.trans e40) _ _ hp24)))
          · skip
            obtain ⟨B36, x37, xs38, w39, e40, o41, hm⟩ := h
            obtain ⟨rfl, q50⟩ := hy
            obtain ⟨a47, ha48, r49⟩ := RepL.getm rl25 q50
            obtain ⟨hlt55, KB51, nb52, hm, hnx53, hno54⟩ := hst31 i42 _ _ _ ha48 hm
            try dsimp only at hm
            obtain rfl : x43 = (.str a47) := r49
            refine ⟨rfl, ?_⟩
            refine tyes_go ?_
            refine ⟨_, rfl, ?_⟩
            refine prog_kinds (rr0.mono (e8.trans (e17.trans (e34.trans e40)))) w39.bh (fun v56 r57 => ?_)
            obtain ⟨p58, x59, ob60, ev63, hp61, rl62⟩ := id r57
            subst ev63
            refine ⟨⟨p58, ob60, x59, rfl, w39.bh _ _ hp61.1, hp61.2⟩, _, rfl, ?_⟩
            have sq65 : SqT K H45 p58 x59 := .inl (.inr ⟨_, w39.bh _ _ hp61.1⟩)
            have q64 := rl62.asStrs
            subst q64
            obtain ⟨t66, h67, hm⟩ := bindK nb52 hm
            try dsimp only at hm
            obtain ⟨j68, rfl, h67a, h67b⟩ := indexS_ok h67
            refine ⟨p58, u0.kinds, _, j68, rfl, rfl, sq65, h67a, h67b, ?_⟩
            refine ⟨xs38, o41.h, (lt_line (own_lt o41 hlt55)), ?_⟩
            have o69 := o41.put (es := ((x37 ++ [(j68 : Int)])).map D.int) (o41.r.snocm (a := (j68 : Int)) rfl)
            have w70 := w39.mut (o := (.lst (xs38 ++ [(.int (j68 : Int))]))) o41.n0 o41.b o41.h (by rfl)
            have hm := hnx53 _ _ hm
            exact ⟨B36, (x37 ++ [(j68 : Int)]), (xs38 ++ [(.int (j68 : Int))]), w70, e40, o69, hm⟩
          · skip
            obtain ⟨B36, x37, xs38, w39, e40, o41, hm⟩ := h
            have hm := hdn32 _ _ _ (Nat.le_of_eq (RepL.lenm rl25).symm) hm
            try dsimp only at hm
            obtain ⟨B71, w72, e73, r74, q75⟩ := freezeL w39 o41
            refine ⟨_, rfl, ?_⟩
            refine ⟨w72.tab _ tb0, fun H76 mk77 t78 => ?_⟩
            have g79 := MadeAt.grow mk77 w72.bh (w72.own _ (tab_ne tb0) bp0) (fun _ => t78) (fun P1 t1 n1 => mk77.un t1 n1)
            have w81 := w72.trans g79
            have e80 := g79.bb
            obtain ⟨t82, h83, hm⟩ := bindK nb0 hm
            try dsimp only at hm
            refine ⟨B71, u0, vv0, _, rfl, w81.bh, (rr0.mono (e8.trans (e17.trans (e34.trans (e40.trans (e73.trans e80)))))), ?_, Post.mk_ h83 fun v84 B85 H86 g87 r88 => ?_⟩
            · skip
              intro B89 H90 Q91 y98 z99 y101 e92 e93 r100 hm
              obtain ⟨K95, nb96, hm, fin97⟩ := hm.open_
              try dsimp only at hm
              have w94 : Grow S0 B89 H90 B89 H90 := Grow.refl e93
              refine ⟨_, rfl, _, rfl, ?_⟩
              obtain ⟨t102, h103, hm⟩ := bindK nb96 hm
              try dsimp only at hm
              refine ⟨B89, y98, z99, x37, (.ref D27), rfl, w94.bh, r100, (r74.mono (e80.trans e92)), (PostL.mk_ w94 h103 fun l109 xs110 B105 H106 hn111 g107 o112 => ?_)⟩
              have w114 := w94.trans g107
              have e113 := g107.bb
              refine ⟨_, rfl, _, rfl, ?_⟩
              obtain ⟨B115, w116, e117, r118, q119⟩ := freezeL w114 o112
              obtain ⟨t120, h121, hm⟩ := bindK nb96 hm
              try dsimp only at hm
              refine ⟨B115, t102, (.ref l109), y101, u2, rfl, w116.bh, r118, (Post.mk_ h121 fun v122 B123 H124 g125 r126 => ?_)⟩
              have w128 := w116.trans g125
              have e127 := g125.bb
              exact fin97 _ hm v122 B123 H124 w128 r126
            · skip
              have w130 := w81.trans g87
              have e129 := g87.bb
              exact fin _ hm v84 B85 H86 w130 r88
      · skip
        try dsimp only at hm
        refine ⟨_, rfl, ?_⟩
        show if (!false) = true then _ else _
        refine iteT ?_
        exact (nb_bad nb0 hm).elim

theorem sc_law : FnScope ["_law_script", "_law_draw", "_law_turn", "_law_parts", "_law_made", "_law_lap", "_law_word", "_law_few", "_law_due", "_law_often", "_law_told"] ["_law_script"] (defScope (top 39)) := ⟨rfl, rfl, rfl, by decide +kernel, rfl, by decide +kernel, by decide +kernel⟩
theorem ok_law (T : Txt K mg) (TB : LamX.TabB base mg T.cc_ T.P_) : FnOk P w K mg base CX0 25 T.a_law T.f_law ["_law_script"] (sp_law K T.a_Program T.P_) := by
  refine T.d_law.ok sc_law (fun vs H Q E h => ?_) (fun cdv A outer s H0 vs Q E hr h => ?_)
  · obtain ⟨_, _, _, rfl, _⟩ := h
    rfl
  · obtain ⟨B0, p_, u0, rfl, bh0, sq0, tb0, bp0, hmp⟩ := h
    obtain ⟨K0, nb0, hm, fin⟩ := hmp.open_
    unfold m_law at hm
    try dsimp only at hm
    have w0 : Grow S0 B0 H0 B0 H0 := Grow.refl bh0
    refine ⟨_, PSs.nox ((pss_cons (ps_set (i := 1) sc_law.nd rfl (Or.inl rfl) (pe_call (ok_l_begun T) (hr.mono (by decide)) (by rfl) T.g_l_begun T.d_l_begun.kp T.b_l_begun .nil pass0 (pa_cons (pv 0) pa_nil)))
      (pss_cons (ps_for PassesOwn.never rfl (pi_range1 (by rfl) T.n_range (pa_cons pe_int pa_nil)) (pg_name (i := 2) sc_law.nd rfl (Or.inl rfl))
      (pss_cons (ps_set (i := 3) sc_law.nd rfl (Or.inl rfl) (pe_call (ok_l_story T) (hr.mono (by decide)) (by rfl) T.g_l_story T.d_l_story.kp T.b_l_story .nil pass0 (pa_cons (pv 1) (pa_cons pe_int pa_nil))))
      (pss_cons (ps_set (i := 4) sc_law.nd rfl (Or.inl rfl) (pe_make T.mk_Program (ok_Program___init__ T) (hr.mono (by decide)) (by rfl) T.gc_Program T.b_Program___init__ .nil pass0 (pa_cons (pe_ix (ix_tup' (K := K) (by rfl)) (pv 3) pe_int (fun _ _ => rfl)) (pa_cons (pe_ix (ix_tup' (K := K) (by rfl)) (pv 3) pe_int (fun _ _ => rfl)) (pa_cons (pe_ix (ix_tup' (K := K) (by rfl)) (pv 3) pe_int (fun _ _ => rfl)) pa_nil)))))
      (pss_one (ps_for PassesOwn.never rfl (pi_range1 (by rfl) T.n_range (pa_cons pe_int pa_nil)) (pg_name (i := 5) sc_law.nd rfl (Or.inl rfl))
      (pss_cons (ps_par (i := 6) (j := 7) (by rfl) sc_law.nd rfl rfl (by decide) rfl rfl (pa_cons (pe_call (ok_l_any_order T) (hr.mono (by decide)) (by rfl) T.g_l_any_order T.d_l_any_order.kp T.b_l_any_order .nil pass0 (pa_cons (pv 1) (pa_cons (pe_ix (ix_tup' (K := K) (by rfl)) (pv 3) pe_int (fun _ _ => rfl)) (pa_cons pe_int pa_nil)))) (pa_cons (pe_call (ok_l_take T) (hr.mono (by decide)) (by rfl) T.g_l_take T.d_l_take.kp T.b_l_take .nil pass0 (pa_cons (pv 1) (pa_cons pe_int pa_nil))) pa_nil)) (by rfl))
      (pss_cons (ps_set (i := 8) sc_law.nd rfl (Or.inl rfl) (pe_call (ok_l_ran T) (hr.mono (by decide)) (by rfl) T.g_l_ran T.d_l_ran.kp T.b_l_ran .nil pass0 (pa_cons (pv 3) (pa_cons (pe_op (op_repA' (K := K) (by rfl)) (pv 6) (pv 7)) pa_nil))))
      (pss_cons (ps_if (PW.pt (pw_or (pt_cmpR (op_neD' (K := K) (by rfl) hr.units) (pe_call (ok_repeated_outcome T TB) (hr.mono (by decide)) (by rfl) T.g_repeated_outcome T.d_repeated_outcome.kp T.b_repeated_outcome .nil pass0 (pa_cons (pv 4) (pa_cons (pv 6) (pa_cons (pv 7) pa_nil)))) (pv 8) (nomark _)) (pw_or1 (pt_cmpR (op_neD' (K := K) (by rfl) hr.units) (pe_call (ok_l_powered T) (hr.mono (by decide)) (by rfl) T.g_l_powered T.d_l_powered.kp T.b_l_powered .nil pass0 (pa_cons (pv 3) (pa_cons (pv 6) (pa_cons (pv 7) pa_nil)))) (pv 8) (nomark _))))) (pss_one (ps_ret pe_bl)) pss_nil)
      (pss_cons (ps_set (i := 9) sc_law.nd rfl (Or.inl rfl) (pe_call (ok_l_pick T) (hr.mono (by decide)) (by rfl) T.g_l_pick T.d_l_pick.kp T.b_l_pick .nil pass0 (pa_cons (pv 1) (pa_cons (pe_lst (pa_cons (pe_call (ok_l_take T) (hr.mono (by decide)) (by rfl) T.g_l_take T.d_l_take.kp T.b_l_take .nil pass0 (pa_cons (pv 1) (pa_cons (pe_op op_add (pe_op op_pow pe_int pe_int) pe_int) pa_nil))) (pa_cons (pe_op op_pow pe_int pe_int) (pa_cons (pe_op op_sub (pe_op op_pow pe_int pe_int) pe_int) (pa_cons (pe_call (ok_l_take T) (hr.mono (by decide)) (by rfl) T.g_l_take T.d_l_take.kp T.b_l_take .nil pass0 (pa_cons (pv 1) (pa_cons pe_int pa_nil))) pa_nil))))) pa_nil))))
      (pss_cons (ps_set (i := 8) sc_law.nd rfl (Or.inl rfl) (pe_call (ok_l_powered T) (hr.mono (by decide)) (by rfl) T.g_l_powered T.d_l_powered.kp T.b_l_powered .nil pass0 (pa_cons (pv 3) (pa_cons (pv 6) (pa_cons (pv 9) pa_nil)))))
      (pss_cons (ps_set (i := 10) sc_law.nd rfl (Or.inl rfl) (pe_lst (pa_cons (pe_call (ok_repeated_outcome_1 T TB) (hr.mono (by decide)) (by rfl) T.g_repeated_outcome T.d_repeated_outcome.kp T.b_repeated_outcome .nil pass0 (pa_cons (pv 4) (pa_cons (pe_callTy (call_list_of' (K := K) (by rfl)) (by rfl) T.n_list (by decide +kernel) (pa_cons (pv 6) pa_nil)) (pa_cons (pv 9) pa_nil)))) pa_nil)))
      (pss_cons (ps_expr (pe_append' (K := K) (by rfl) (pv 10) (pa_cons (pe_callK0 (ok_repeated_outcome T TB) (hr.mono (by decide)) (by rfl) T.g_repeated_outcome T.d_repeated_outcome.kp (kb_repeated_outcome_0 T) pass0 (pk_cons (pv 9) (pk_cons (pv 6) (pk_cons (pv 4) pk_nil)))) pa_nil)))
      (pss_one (ps_if (pt_cmpR (op_neD' (K := K) (by rfl) hr.units) (pv 10) (pe_lst (pa_cons (pv 8) (pa_cons (pv 8) pa_nil))) (nomark _)) (pss_one (ps_ret pe_bl)) pss_nil))))))))))))))
      (pss_one (ps_ret pe_bl))))), ?_⟩
    refine ⟨_, rfl, ?_⟩
    obtain ⟨t1, h2, hm⟩ := bindK nb0 hm
    try dsimp only at hm
    refine ⟨B0, p_, u0, rfl, w0.bh, sq0, PostB0.mk_ h2 fun a c B3 H4 g5 hs6 => ?_⟩
    have w7 : Grow (Sx a c) B3 H4 B3 H4 := Grow.refl g5.bh
    have hsd := hs6.there
    try have tb1 := g5.tab _ tb0
    try have bp1 := g5.own _ (tab_ne tb0) bp0
    obtain ⟨l9, h10, hm⟩ := bindK nb0 hm
    try dsimp only at hm
    obtain ⟨h10c, rfl⟩ := rangeR_ok h10
    refine ⟨_, rfl, h10c.2.2.1, h10c.2.2.2, ?_⟩
    obtain ⟨KL25, hm, hst26, hdn27⟩ := forXK nb0 hm
    refine for_it (walk_range (lo := 0) (n := ((5 : Int)).toNat)) (fun i28 σ H => ∃ (B11 : Hp) (s12 : Src) (d13 : Option V) (d14 : Option V) (d15 : Option V) (d16 : Option V) (d17 : Option V) (d18 : Option V) (d19 : Option V) (d20 : Option V) (d21 : Option V), σ = [some (.ref p_), some (.ref a), d13, d14, d15, d16, d17, d18, d19, d20, d21] ∧ Grow (Sx a c) B3 H4 B11 H ∧ Same B3 B11 ∧ SrcAt a c B11 H s12 ∧ KL25 i28 s12) ⟨B3, t1, _, _, _, _, _, _, _, _, _, rfl, w7, (Same.refl _), hs6, hm⟩ (fun i28 σ H30 _ h => ?_) (fun i28 x29 σ H30 H31 hi h hy => ?_) (fun σ H32 h => ?_)
    · skip
      obtain ⟨B11, s12, d13, d14, d15, d16, d17, d18, d19, d20, d21, rfl, w22, e23, hs24, _⟩ := h
      exact trivial
    · skip
      obtain ⟨B11, s12, d13, d14, d15, d16, d17, d18, d19, d20, d21, rfl, w22, e23, hs24, hm⟩ := h
      obtain ⟨rfl, rfl⟩ := hy
      have ha34 := rng_at1 (lo := (0 : Int)) (hi := (5 : Int)) hi
      obtain ⟨KB35, nb36, hm, hnx37, hbk38, hrt39⟩ := hst26 i28 _ _ ha34 hm
      try dsimp only at hm
      refine ⟨_, rfl, ?_⟩
      obtain ⟨t40, h41, hm⟩ := bindK nb36 hm
      try dsimp only at hm
      refine ⟨a, c, s12, B11, (6 : Int), rfl, w22.bh, hs24, (PostS.mk_ h41 fun v42 B43 H44 g45 hs47 r46 => ?_)⟩
      have w49 := w22.trans g45
      have e48 := g45.bb
      refine ⟨_, rfl, ?_⟩
      refine tc_go ?_
      refine rixF (i := (0 : Int)) (d := (fun (l : List Str) => D.ktup (l.map D.str)) t40.2.1) r46 w49.bh (by rfl) (fun v50 r51 => ?_)
      refine ⟨_, rfl, ?_⟩
      refine tc_go ?_
      refine rixF (i := (1 : Int)) (d := (fun (l : List ((List Int) × (List (List (Int × Int))))) => D.tup (l.map (fun (p : ((List Int) × (List (List (Int × Int))))) => D.tup [(fun (l : List Int) => D.tup (l.map D.int)) p.1, (fun (l : List (List (Int × Int))) => D.tup (l.map (fun (l : List (Int × Int)) => D.tup (l.map (fun (p : (Int × Int)) => D.tup [D.int p.1, D.int p.2]))))) p.2]))) t40.2.2.1) r46 w49.bh (by rfl) (fun v52 r53 => ?_)
      refine ⟨_, rfl, ?_⟩
      refine tc_go ?_
      refine rixF (i := (2 : Int)) (d := (fun (l : List (Str × Int)) => D.tup (l.map (fun (p : (Str × Int)) => D.tup [D.str p.1, D.int p.2]))) t40.2.2.2) r46 w49.bh (by rfl) (fun v54 r55 => ?_)
      obtain ⟨t56, h57, hm⟩ := bindK nb36 hm
      try dsimp only at hm
      intro x58 dx59 nx60 nd61 ne62
      refine ⟨x58, dx59, B43, t40.2.1, v50, t40.2.2.1, v52, t40.2.2.2, v54, rfl, (made_same w49.bh nx60 nd61), (made_self (C := T.a_Program) w49.bh nx60 nd61), r51, r53, r55, PostN.mk_ h57 fun B63 H64 g65 sf66 => ⟨rfl, ?_⟩⟩
      have g68 := Grow.made w49.bh nx60 nd61 ne62 g65 sf66
      have r67 : Rep K (upd B63 x58 (.ins T.a_Program dx59 (putF "p_tells" v54 (putF "p_passes" v52 (putF "p_kinds" v50 []))))) ((Prog.em T.a_Program) (Prog.mk t40.2.1 t40.2.2.1 t40.2.2.2)) (.ref x58) := prog_rep (u := (Prog.mk t40.2.1 t40.2.2.1 t40.2.2.2)) upd_same (r51.mono g68.bb) (r53.mono g68.bb) (r55.mono g68.bb)
      have w70 := w49.trans g68.of0
      have e69 := g68.bb
      have hs71 := hs47.grow0 g68
      obtain ⟨l73, h74, hm⟩ := bindK nb36 hm
      try dsimp only at hm
      obtain ⟨h74c, rfl⟩ := rangeR_ok h74
      refine ⟨_, rfl, h74c.2.2.1, h74c.2.2.2, ?_⟩
      obtain ⟨KL86, hm, hst87, hdn88⟩ := forXK nb36 hm
      refine for_it (walk_range (lo := 0) (n := ((5 : Int)).toNat)) (fun i89 σ H => ∃ (B75 : Hp) (s76 : Src) (d77 : Option V) (d78 : Option V) (d79 : Option V) (d80 : Option V) (d81 : Option V) (d82 : Option V), σ = [some (.ref p_), some (.ref a), some (.int ((0 : Int) + (i28 : Int))), some v42, some (.ref x58), d77, d78, d79, d80, d81, d82] ∧ Grow (Sx a c) B3 H4 B75 H ∧ Same (upd B63 x58 (.ins T.a_Program dx59 (putF "p_tells" v54 (putF "p_passes" v52 (putF "p_kinds" v50 []))))) B75 ∧ SrcAt a c B75 H s76 ∧ KL86 i89 s76) ⟨(upd B63 x58 (.ins T.a_Program dx59 (putF "p_tells" v54 (putF "p_passes" v52 (putF "p_kinds" v50 []))))), t40.1, _, _, _, _, _, _, rfl, w70, (Same.refl _), hs71, hm⟩ (fun i89 σ H91 _ h => ?_) (fun i89 x90 σ H91 H92 hi h hy => ?_) (fun σ H93 h => ?_)
      · skip
        obtain ⟨B75, s76, d77, d78, d79, d80, d81, d82, rfl, w83, e84, hs85, _⟩ := h
        exact trivial
      · skip
        obtain ⟨B75, s76, d77, d78, d79, d80, d81, d82, rfl, w83, e84, hs85, hm⟩ := h
        obtain ⟨rfl, rfl⟩ := hy
        have ha95 := rng_at1 (lo := (0 : Int)) (hi := (5 : Int)) hi
        obtain ⟨KB96, nb97, hm, hnx98, hbk99, hrt100⟩ := hst87 i89 _ _ ha95 hm
        try dsimp only at hm
        refine ⟨_, rfl, _, rfl, ?_⟩
        refine tc_go ?_
        refine rixF (i := (0 : Int)) (d := (fun (l : List Str) => D.ktup (l.map D.str)) t40.2.1) (r46.mono (e69.trans e84)) w83.bh (by rfl) (fun v101 r102 => ?_)
        obtain ⟨t103, h104, hm⟩ := bindK nb97 hm
        try dsimp only at hm
        refine ⟨a, c, s76, B75, t40.2.1, v101, (10 : Int), rfl, w83.bh, r102, hs85, (PostS.mk_ h104 fun v105 B106 H107 g108 hs110 r109 => ?_)⟩
        have w112 := w83.trans g108
        have e111 := g108.bb
        refine ⟨_, rfl, ?_⟩
        obtain ⟨t113, h114, hm⟩ := bindK nb97 hm
        try dsimp only at hm
        refine ⟨a, c, t103.1, B106, (13 : Int), rfl, w112.bh, hs110, (PostS.mk_ h114 fun v115 B116 H117 g118 hs120 r119 => ?_)⟩
        have w122 := w112.trans g118
        have e121 := g118.bb
        obtain rfl : v115 = (.int t113.2) := r119
        refine ⟨_, _, rfl, ?_⟩
        refine ⟨_, rfl, _, rfl, _, rfl, ?_⟩
        obtain ⟨t123, h124, hm⟩ := bindK nb97 hm
        try dsimp only at hm
        refine rmulT (em := D.str) w122.bh (r109.mono e121) h124 (fun v125 B126 H127 g128 r129 => ?_)
        have w131 := w122.trans g128.of0
        have e130 := g128.bb
        have hs132 := hs120.grow0 g128
        obtain ⟨t133, h134, hm⟩ := bindK nb97 hm
        try dsimp only at hm
        refine ⟨B126, t40.2, v42, t123, v125, rfl, w131.bh, (r46.mono (e69.trans (e84.trans (e111.trans (e121.trans e130))))), r129, (Post.mk_ h134 fun v135 B136 H137 g138 r139 => ?_)⟩
        have w141 := w131.trans g138.of0
        have e140 := g138.bb
        have hs142 := hs132.grow0 g138
        refine ⟨_, rfl, _, rfl, _, rfl, ?_⟩
        obtain ⟨t143, h144, hm⟩ := bindK nb97 hm
        try dsimp only at hm
        refine ⟨B136, (Prog.mk t40.2.1 t40.2.2.1 t40.2.2.2), (.ref x58), t103.2, v105, t113.2, rfl, w141.bh, (r67.mono (e84.trans (e111.trans (e121.trans (e130.trans e140))))), (r109.mono (e121.trans (e130.trans e140))), (w141.tab _ tb1), (w141.own _ (tab_ne tb1) bp1), (Post.mk_ h144 fun v145 B146 H147 g148 r149 => ?_)⟩
        have w151 := w141.trans g148.of0
        have e150 := g148.bb
        have hs152 := hs142.grow0 g148
        refine ⟨_, rfl, ?_⟩
        obtain ⟨b153, h154, hm⟩ := bindK nb97 hm
        try dsimp only at hm
        refine rneD (r149.mono w151.bh) ((r139.mono e150).mono w151.bh) (Same.refl _) h154 ?_
        refine ⟨_, rfl, ?_⟩
        refine ite_both hm (fun hc155 hm => ?_) (fun hc155 hm => ?_)
        · skip
          try dsimp only at hm
          refine iteT ?_
          have hm := hrt100 _ hm
          have hm := hrt39 _ hm
          exact fin _ hm H147
        · skip
          try dsimp only at hm
          refine ⟨_, rfl, _, rfl, _, rfl, ?_⟩
          obtain ⟨t156, h157, hm⟩ := bindK nb97 hm
          try dsimp only at hm
          refine ⟨B146, t40.2, v42, t103.2, v105, t113.2, rfl, w151.bh, (r46.mono (e69.trans (e84.trans (e111.trans (e121.trans (e130.trans (e140.trans e150))))))), (r109.mono (e121.trans (e130.trans (e140.trans e150)))), (Post.mk_ h157 fun v158 B159 H160 g161 r162 => ?_)⟩
          have w164 := w151.trans g161.of0
          have e163 := g161.bb
          have hs165 := hs152.grow0 g161
          refine ⟨_, rfl, ?_⟩
          obtain ⟨b166, h167, hm⟩ := bindK nb97 hm
          try dsimp only at hm
          refine rneD (r162.mono w164.bh) ((r139.mono (e150.trans e163)).mono w164.bh) (Same.refl _) h167 ?_
          refine ⟨_, rfl, ?_⟩
          refine ite_both hm (fun hc168 hm => ?_) (fun hc168 hm => ?_)
          · skip
            try dsimp only at hm
            have hm := hrt100 _ hm
            have hm := hrt39 _ hm
            exact fin _ hm H160
          · skip
            try dsimp only at hm
            refine ⟨_, rfl, _, rfl, _, _, rfl, rfl, ⟨by decide, by decide, by decide⟩, _, _, rfl, rfl, ?_⟩
            obtain ⟨t169, h170, hm⟩ := bindK nb97 hm
            try dsimp only at hm
            refine ⟨a, c, t113.1, B159, (((10 : Int) ^ ((12 : Int)).toNat) + (1 : Int)), rfl, w164.bh, hs165, (PostS.mk_ h170 fun v171 B172 H173 g174 hs176 r175 => ?_)⟩
            have w178 := w164.trans g174
            have e177 := g174.bb
            obtain rfl : v171 = (.int t169.2) := r175
            refine ⟨_, _, rfl, rfl, ⟨by decide, by decide, by decide⟩, _, _, rfl, rfl, ⟨by decide, by decide, by decide⟩, _, _, rfl, rfl, _, rfl, ?_⟩
            obtain ⟨t179, h180, hm⟩ := bindK nb97 hm
            try dsimp only at hm
            refine ⟨a, c, t169.1, B172, (60 : Int), rfl, w178.bh, hs176, (PostS.mk_ h180 fun v181 B182 H183 g184 hs186 r185 => ?_)⟩
            have w188 := w178.trans g184
            have e187 := g184.bb
            obtain rfl : v181 = (.int t179.2) := r185
            refine ⟨by show 4 ≤ sizeLine; decide, fun p189 hp190 => ?_⟩
            have g191 := Grow.newOwn (S := S0) (o := .lst ([(.int t169.2), (.int ((10 : Int) ^ ((12 : Int)).toNat)), (.int (((10 : Int) ^ ((12 : Int)).toNat) - (1 : Int))), (.int t179.2)])) w188.bh hp190
            have o192 := Own.new (K := K) (ds := (([t169.2, ((10 : Int) ^ ((12 : Int)).toNat), (((10 : Int) ^ ((12 : Int)).toNat) - (1 : Int)), t179.2] : List Int)).map D.int) w188 hp190 (RepL.cons rfl (RepL.cons rfl (RepL.cons rfl (RepL.cons rfl RepL.nil))))
            have w194 := w188.trans g191.of0
            have e193 := g191.bb
            have hs195 := hs186.grow0 g191
            obtain ⟨B196, w197, e198, r199, q200⟩ := freezeL w194 o192
            have hs201 := hs195.fz o192.n0 q200 hsd
            obtain ⟨t202, h203, hm⟩ := bindK nb97 hm
            try dsimp only at hm
            refine ⟨a, c, t179.1, B196, ([t169.2, ((10 : Int) ^ ((12 : Int)).toNat), (((10 : Int) ^ ((12 : Int)).toNat) - (1 : Int)), t179.2] : List Int), (.ref p189), rfl, w197.bh, r199, hs201, (PostS.mk_ h203 fun v204 B205 H206 g207 hs209 r208 => ?_)⟩
            have w211 := w197.trans g207
            have e210 := g207.bb
            obtain rfl : v204 = (.int t202.2) := r208
            refine ⟨_, rfl, _, rfl, _, rfl, ?_⟩
            obtain ⟨t212, h213, hm⟩ := bindK nb97 hm
            try dsimp only at hm
            refine ⟨B205, t40.2, v42, t103.2, v105, t202.2, rfl, w211.bh, (r46.mono (e69.trans (e84.trans (e111.trans (e121.trans (e130.trans (e140.trans (e150.trans (e163.trans (e177.trans (e187.trans (e193.trans (e198.trans e210))))))))))))), (r109.mono (e121.trans (e130.trans (e140.trans (e150.trans (e163.trans (e177.trans (e187.trans (e193.trans (e198.trans e210)))))))))), (Post.mk_ h213 fun v214 B215 H216 g217 r218 => ?_)⟩
            have w220 := w211.trans g217.of0
            have e219 := g217.bb
            have hs221 := hs209.grow0 g217
            refine ⟨_, rfl, _, rfl, ?_⟩
            obtain ⟨p222, x223, ev226, hp224, rl225⟩ := id (r109.mono (e121.trans (e130.trans (e140.trans (e150.trans (e163.trans (e177.trans (e187.trans (e193.trans (e198.trans (e210.trans e219)))))))))))
            subst ev226
            refine ⟨p222, x223, rfl, (.inr (same_t w220.bh hp224)), ?_⟩
            intro l227 hn228
            have g229 := Grow.newOwn (S := S0) (o := .lst x223) w220.bh hn228
            have o230 := Own.new (K := K) (ds := (t103.2).map D.str) w220 hn228 rl225
            have w232 := w220.trans g229.of0
            have e231 := g229.bb
            have hs233 := hs221.grow0 g229
            refine ⟨_, rfl, ?_⟩
            obtain ⟨B234, w235, e236, r237, q238⟩ := freezeL w232 o230
            have hs239 := hs233.fz o230.n0 q238 hsd
            obtain ⟨t240, h241, hm⟩ := bindK nb97 hm
            try dsimp only at hm
            refine ⟨B234, (Prog.mk t40.2.1 t40.2.2.1 t40.2.2.2), (.ref x58), t103.2, (.ref l227), t202.2, rfl, w235.bh, (r67.mono (e84.trans (e111.trans (e121.trans (e130.trans (e140.trans (e150.trans (e163.trans (e177.trans (e187.trans (e193.trans (e198.trans (e210.trans (e219.trans (e231.trans e236))))))))))))))), r237, (w235.tab _ tb1), (w235.own _ (tab_ne tb1) bp1), (Post.mk_ h241 fun v242 B243 H244 g245 r246 => ?_)⟩
            have w248 := w235.trans g245.of0
            have e247 := g245.bb
            have hs249 := hs239.grow0 g245
            refine ⟨by show 1 ≤ sizeLine; decide, fun p250 hp251 => ?_⟩
            have g252 := Grow.newOwn (S := S0) (o := .lst ([v242])) w248.bh hp251
            have o253 := Own.new (K := K) (ds := (([t240] : List (Str × Int))).map (fun (p : (Str × Int)) => D.tup [D.str p.1, D.int p.2])) w248 hp251 (RepL.cons r246 RepL.nil)
            have w255 := w248.trans g252.of0
            have e254 := g252.bb
            have hs256 := hs249.grow0 g252
            refine ⟨_, rfl, (.inl ⟨rfl, _, SqL.of o253.h⟩), _, rfl, _, rfl, _, rfl, ?_⟩
            obtain ⟨t257, h258, hm⟩ := bindK nb97 hm
            try dsimp only at hm
            refine ⟨B243, (Prog.mk t40.2.1 t40.2.2.1 t40.2.2.2), (.ref x58), t103.2, (.ref p222), t202.2, rfl, w255.bh, (r67.mono (e84.trans (e111.trans (e121.trans (e130.trans (e140.trans (e150.trans (e163.trans (e177.trans (e187.trans (e193.trans (e198.trans (e210.trans (e219.trans (e231.trans (e236.trans (e247.trans e254))))))))))))))))), (r109.mono (e121.trans (e130.trans (e140.trans (e150.trans (e163.trans (e177.trans (e187.trans (e193.trans (e198.trans (e210.trans (e219.trans (e231.trans (e236.trans (e247.trans e254))))))))))))))), (w255.tab _ tb1), (w255.own _ (tab_ne tb1) bp1), (Post.mk_ h258 fun v259 B260 H261 g262 r263 => ?_)⟩
            have w265 := w255.trans g262.of0
            have e264 := g262.bb
            have o266 := o253.grow g262 (fun _ z => z.elim)
            have hs267 := hs256.grow0 g262
            obtain ⟨t268, h269, hm⟩ := bindK nb97 hm
            try dsimp only at hm
            refine ⟨p250, ([v242]), _, rfl, rfl, o266.h, (lt_line (own_lt o266 (lenG_ok h269))), ?_⟩
            have o270 := o266.put (es := ((([t240] : List (Str × Int)) ++ [t257])).map (fun (p : (Str × Int)) => D.tup [D.str p.1, D.int p.2])) (o266.r.snocm (a := t257) r263)
            have w271 := w265.mut (o := (.lst (([v242]) ++ [v259]))) o266.n0 o266.b o266.h (by rfl)
            have hs272 := hs267.mut (u := (.lst (([v242]) ++ [v259]))) o266 hsd
            refine ⟨_, rfl, _, rfl, _, rfl, ?_⟩
            refine ⟨by show 2 ≤ sizeLine; decide, fun p273 hp274 => ?_⟩
            have g275 := Grow.newOwn (S := S0) (o := .lst ([v214, v214])) w271.bh hp274
            have o276 := Own.new (K := K) (ds := (([t212, t212] : List (Str × Int))).map (fun (p : (Str × Int)) => D.tup [D.str p.1, D.int p.2])) w271 hp274 (RepL.cons (r218.mono (e231.trans (e236.trans (e247.trans (e254.trans e264))))) (RepL.cons (r218.mono (e231.trans (e236.trans (e247.trans (e254.trans e264))))) RepL.nil))
            have w278 := w271.trans g275.of0
            have e277 := g275.bb
            have o279 := o270.grow g275 (fun _ z => z.elim)
            have hs280 := hs272.grow0 g275
            have n281 : p250 ≠ p273 := ne_of_none o270.h hp274
            obtain ⟨b282, h283, hm⟩ := bindK nb97 hm
            try dsimp only at hm
            refine rneD (o279.rep w278.bh) (o276.rep w278.bh) (Same.refl _) h283 ?_
            refine ⟨_, rfl, ?_⟩
            refine ite_both hm (fun hc284 hm => ?_) (fun hc284 hm => ?_)
            · skip
              try dsimp only at hm
              have hm := hrt100 _ hm
              have hm := hrt39 _ hm
              exact fin _ hm (upd (upd H261 p250 (.lst (([v242]) ++ [v259]))) p273 (.lst ([v214, v214])))
            · skip
              try dsimp only at hm
              have hm := hnx98 _ hm
              exact ⟨B260, t202.1, _, _, _, _, _, _, rfl, w278, (e84.trans (e111.trans (e121.trans (e130.trans (e140.trans (e150.trans (e163.trans (e177.trans (e187.trans (e193.trans (e198.trans (e210.trans (e219.trans (e231.trans (e236.trans (e247.trans (e254.trans (e264.trans e277)))))))))))))))))), hs280, hm⟩
      · skip
        obtain ⟨B75, s76, d77, d78, d79, d80, d81, d82, rfl, w83, e84, hs85, hm⟩ := h
        have hm := hdn88 _ _ (rng_len1 (lo := (0 : Int)) (hi := (5 : Int))) hm
        try dsimp only at hm
        have hm := hnx37 _ hm
        exact ⟨B75, s76, _, _, _, _, _, _, _, _, _, rfl, w83, (e23.trans (e48.trans (e69.trans e84))), hs85, hm⟩
    · skip
      obtain ⟨B11, s12, d13, d14, d15, d16, d17, d18, d19, d20, d21, rfl, w22, e23, hs24, hm⟩ := h
      have hm := hdn27 _ _ (rng_len1 (lo := (0 : Int)) (hi := (5 : Int))) hm
      try dsimp only at hm
      exact fin _ hm H32

end
end G
set_option maxRecDepth 100000
set_option maxHeartbeats 4000000
namespace G
open PySem PySem.Spec PyProof.Rows L2
/-! what the top has left: defs by address, tables of code objects, properties -/
def pAd (K : PySem.W.Frag) (C f : Str) : Addr := match PySem.W.findIn K (.ref (He.ga K C)) f with
  | some (some (.ref p)) => p
  | _ => 0
def gAd (K : PySem.W.Frag) (C f : Str) : Addr := match PySem.W.recIn K (pAd K C f) "property" with
  | some (.ref g :: _) => g
  | _ => 0
def propB (K : PySem.W.Frag) (C f : Str) : Bool := decide (PySem.W.findIn K (.ref (He.ga K C)) f = some (some (.ref (pAd K C f)))) && (decide (PySem.W.specialIn K (.ref (pAd K C f)) "__get__" = some (some (.builtin "property.__get__"))) &&
  (decide (PySem.W.takesIn K (.ref (pAd K C f)) = some true) && (match PySem.W.recIn K (pAd K C f) "property" with
    | some (.ref _ :: _) => true
    | _ => false)))
theorem propB_ok {K : PySem.W.Frag} {C f : Str} (h : propB K C f = true) : PropOf K (He.ga K C) f (pAd K C f) (gAd K C f) := by
  unfold propB at h
  simp only [Bool.and_eq_true, decide_eq_true_eq] at h
  obtain ⟨h1, h2, h3, h4⟩ := h
  refine ⟨h1, h2, h3, ?_⟩
  unfold gAd
  cases q : PySem.W.recIn K (pAd K C f) "property" with
  | none => rw [q] at h4; cases h4
  | some l =>
    rw [q] at h4
    cases l with
    | nil => cases h4
    | cons a r =>
      cases a with
      | ref g => exact ⟨r, rfl⟩
      | _ => cases h4
abbrev AlY : Type := He.AlD × Bool
def obsY (n : Nat) (fa : List He.Fa) (fn : List He5.DefA) (tf : List He.Defn) (ex : PySem.W.Frag → Bool) (g : Addr → Option Obj) : AlY := (He5.obsA fa fn (He.frT g (He.asD g n)), ex (He.frT g (He.asD g n)) && He.tabsB g tf (He.frT g (He.asD g n)))
structure SaysY (fa : List He.Fa) (fn : List He5.DefA) (tf : List He.Defn) (ex : PySem.W.Frag → Bool) (h : Heap) (K : PySem.W.Frag) : Prop where
  a : He5.SaysA fa fn K
  more : ex K = true
  hd : ∀ p ∈ tf, PySem.W.codeHdIn K (He.cT K p).1 (He.cT K p).2 = true
  out : ∀ p ∈ tf, K.lookup (He.cT K p).2 = none
  empty : ∀ p ∈ tf, h.get? (He.cT K p).2 = some { cls := .none, data := .fields #[] }
theorem saysY_of {n : Nat} {fa : List He.Fa} {fn : List He5.DefA} {tf : List He.Defn} {ex : PySem.W.Frag → Bool} {w : World} {h : Heap} (e : obsY n fa fn tf ex h.get? = (He5.valA fn, true)) : SaysY fa fn tf ex h (He.frT h.get? (He.asD h.get? n)) := by
  have e1 : He5.obsA fa fn (He.frT h.get? (He.asD h.get? n)) = He5.valA fn := congrArg (fun z : AlY => z.1) e
  have e2 : (ex (He.frT h.get? (He.asD h.get? n)) && He.tabsB h.get? tf (He.frT h.get? (He.asD h.get? n))) = true := congrArg (fun z : AlY => z.2) e
  have x : He.SaysX [] [] [] tf ex w h (He.frT h.get? (He.asD h.get? n)) := He.saysX_of (n := n) (Prod.ext rfl e2)
  exact ⟨e1, x.more, x.hd, x.out, x.empty⟩
def hookY (n : Nat) (fa : List He.Fa) (fn : List He5.DefA) (tf : List He.Defn) (ex : PySem.W.Frag → Bool) : PySem.W.Hook where
  α := AlY
  obs := fun s => obsY n fa fn tf ex s.heap.get?
  val := fun _ => (He5.valA fn, true)
  says := fun _ h => ∃ K : PySem.W.Frag, K.In h ∧ SaysY fa fn tf ex h K
  of := fun w _ e => ⟨_, He.frT_in, saysY_of (w := w) e⟩
  keeps := fun _ _ _ ⟨K, hK, c⟩ k => ⟨K, PySem.W.Frag.In.keeps hK k, ⟨c.a, c.more, c.hd, c.out, fun p hp => k _ _ (c.empty p hp)⟩⟩
theorem obsY_eq {n : Nat} {fa : List He.Fa} {fn : List He5.DefA} {tf : List He.Defn} {ex : PySem.W.Frag → Bool} {g : Addr → Option Obj} {s : Shared} (h : ∀ a, g a = s.heap.get? a) : obsY n fa fn tf ex g = (hookY n fa fn tf ex).obs s := by
  have e : g = s.heap.get? := funext h
  rw [e] <;> rfl
/-- a def's code object -/
theorem code_of {K : PySem.W.Frag} {p : Str × Option Str} {x qual : Str} {params : Arguments} {body : List Stmt} {scope : Scope} {dvs : List V} {kws : List (Str × V)} {fd : FuncData} (F : FunD K x qual params body scope dvs kws (He.fAd K p) fd) : fd.code = .ref (He.cT K p).1 := by
  obtain ⟨oc, od, dV, kV, doc, pm, an, cdv, ct, osl, rfl, lk, hcd, _, _⟩ := F.ex
  obtain ⟨c, rfl⟩ := He.codeIn_ref hcd
  show Value.ref c = .ref (He.codeOf K p)
  rw [He.codeOf_eq lk rfl]
end G
set_option maxRecDepth 100000
set_option maxHeartbeats 0
namespace G
open PySem PySem.Spec PyProof.Rows L2
def dd0 : He5.DefA := ⟨fun K => He.fAd K ("_law_begun", none), "_law_begun", "_law_begun", defArgs (top 28), defBody (top 28), defScope (top 28), [], []⟩
def dd1 : He5.DefA := ⟨fun K => He.fAd K ("_law_take", none), "_law_take", "_law_take", defArgs (top 29), defBody (top 29), defScope (top 29), [], []⟩
def dd2 : He5.DefA := ⟨fun K => He.fAd K ("_law_pick", none), "_law_pick", "_law_pick", defArgs (top 30), defBody (top 30), defScope (top 30), [], []⟩
def dd3 : He5.DefA := ⟨fun K => He.fAd K ("_law_labels", none), "_law_labels", "_law_labels", defArgs (top 31), defBody (top 31), defScope (top 31), [], []⟩
def dd4 : He5.DefA := ⟨fun K => He.fAd K ("_law_any_gain", none), "_law_any_gain", "_law_any_gain", defArgs (top 32), defBody (top 32), defScope (top 32), [], []⟩
def dd5 : He5.DefA := ⟨fun K => He.fAd K ("_law_any_rows", none), "_law_any_rows", "_law_any_rows", defArgs (top 33), defBody (top 33), defScope (top 33), [], []⟩
def dd6 : He5.DefA := ⟨fun K => He.fAd K ("_law_story", none), "_law_story", "_law_story", defArgs (top 34), defBody (top 34), defScope (top 34), [], []⟩
def dd7 : He5.DefA := ⟨fun K => He.fAd K ("is_name", none), "is_name", "is_name", defArgs (top 11), defBody (top 11), defScope (top 11), [], []⟩
def dd8 : He5.DefA := ⟨fun K => He.fAd K ("are_kinds", none), "are_kinds", "are_kinds", defArgs (top 12), defBody (top 12), defScope (top 12), [], []⟩
def dd9 : He5.DefA := ⟨fun K => He.fAd K ("is_integer", none), "is_integer", "is_integer", defArgs (top 10), defBody (top 10), defScope (top 10), [], []⟩
def dd10 : He5.DefA := ⟨fun K => He.fAd K ("is_state", none), "is_state", "is_state", defArgs (top 13), defBody (top 13), defScope (top 13), [], []⟩
def dd11 : He5.DefA := ⟨fun K => He.fAd K ("is_pair", none), "is_pair", "is_pair", defArgs (top 14), defBody (top 14), defScope (top 14), [], []⟩
def dd12 : He5.DefA := ⟨fun K => He.fAd K ("are_rows", none), "are_rows", "are_rows", defArgs (top 15), defBody (top 15), defScope (top 15), [], []⟩
def dd13 : He5.DefA := ⟨fun K => He.fAd K ("is_pass", none), "is_pass", "is_pass", defArgs (top 16), defBody (top 16), defScope (top 16), [], []⟩
def dd14 : He5.DefA := ⟨fun K => He.fAd K ("are_passes", none), "are_passes", "are_passes", defArgs (top 17), defBody (top 17), defScope (top 17), [], []⟩
def dd15 : He5.DefA := ⟨fun K => He.fAd K ("is_tell", none), "is_tell", "is_tell", defArgs (top 18), defBody (top 18), defScope (top 18), [], []⟩
def dd16 : He5.DefA := ⟨fun K => He.fAd K ("Program", some "__init__"), "__init__", "Program.__init__", defArgs (inClass (top 19) 0), defBody (inClass (top 19) 0), defScope (inClass (top 19) 0), [], []⟩
def dd17 : He5.DefA := ⟨fun K => He.fAd K ("_law_any_order", none), "_law_any_order", "_law_any_order", defArgs (top 36), defBody (top 36), defScope (top 36), [], []⟩
def dd18 : He5.DefA := ⟨fun K => He.fAd K ("_law_ran", none), "_law_ran", "_law_ran", defArgs (top 35), defBody (top 35), defScope (top 35), [], []⟩
def dd19 : He5.DefA := ⟨fun K => He.fAd K ("need_order", none), "need_order", "need_order", defArgs (top 20), defBody (top 20), defScope (top 20), [], []⟩
def dd20 : He5.DefA := ⟨fun K => He.fAd K ("told_behind", none), "told_behind", "told_behind", defArgs (top 25), defBody (top 25), defScope (top 25), [], []⟩
def dd21 : He5.DefA := ⟨fun K => He.fAd K ("table_of", none), "table_of", "table_of", defArgs (top 24), defBody (top 24), defScope (top 24), [], []⟩
def dd22 : He5.DefA := ⟨fun K => He.fAd K ("leaped", none), "leaped", "leaped", defArgs (top 23), defBody (top 23), defScope (top 23), [], []⟩
def dd23 : He5.DefA := ⟨fun K => He.fAd K ("repeated_outcome", none), "repeated_outcome", "repeated_outcome", defArgs (top 26), defBody (top 26), defScope (top 26), [], []⟩
def dd24 : He5.DefA := ⟨fun K => He.fAd K ("_law_word_power", none), "_law_word_power", "_law_word_power", defArgs (top 37), defBody (top 37), defScope (top 37), [], []⟩
def dd25 : He5.DefA := ⟨fun K => He.fAd K ("_law_powered", none), "_law_powered", "_law_powered", defArgs (top 38), defBody (top 38), defScope (top 38), [], []⟩
def dd26 : He5.DefA := ⟨fun K => He.fAd K ("law", none), "law", "law", defArgs (top 39), defBody (top 39), defScope (top 39), [], []⟩
def dd27 : He5.DefA := ⟨fun K => gAd K "Program" "kinds", "kinds", "Program.kinds", defArgs (inClass (top 19) 2), defBody (inClass (top 19) 2), defScope (inClass (top 19) 2), [], []⟩
def dd28 : He5.DefA := ⟨fun K => gAd K "Program" "passes", "passes", "Program.passes", defArgs (inClass (top 19) 3), defBody (inClass (top 19) 3), defScope (inClass (top 19) 3), [], []⟩
def dd29 : He5.DefA := ⟨fun K => gAd K "Program" "tells", "tells", "Program.tells", defArgs (inClass (top 19) 4), defBody (inClass (top 19) 4), defScope (inClass (top 19) 4), [], []⟩
def dfn : List He5.DefA := [dd0, dd1, dd2, dd3, dd4, dd5, dd6, dd7, dd8, dd9, dd10, dd11, dd12, dd13, dd14, dd15, dd16, dd17, dd18, dd19, dd20, dd21, dd22, dd23, dd24, dd25, dd26, dd27, dd28, dd29]
def dfa : List He.Fa := ([.glo "_law_begun", .glo "_law_take", .glo "_law_pick", .glo "_law_labels", .glo "_law_any_gain", .glo "_law_any_rows", .glo "_law_story", .glo "is_name", .glo "are_kinds", .glo "is_integer", .glo "is_state", .glo "is_pair", .glo "are_rows", .glo "is_pass", .glo "are_passes", .glo "is_tell", .glo "_law_any_order", .glo "_law_ran", .glo "need_order", .glo "told_behind", .glo "table_of", .glo "leaped", .glo "repeated_outcome", .glo "_law_word_power", .glo "_law_powered", .glo "law", .cls "Program", .glo "Program", .mkr "Program", .noat "Program" "p_kinds"] : List He.Fa) ++ ([.noat "Program" "p_passes", .noat "Program" "p_tells", .free "abs", .free "all", .free "bool", .free "enumerate", .free "int", .free "isinstance", .free "len", .free "list", .free "range", .free "sorted", .free "str", .free "tuple", .free "zip", .str "LETTERS" "abcdefghijklmnopqrstuvwxyz", .int "MOST_KINDS" 4, .int "MOST_LETTERS" 8, .int "MOST_PASSES" 2, .int "MOST_TIMES" 1000000000000] : List He.Fa)
def dtf : List He.Defn := [("repeated_outcome", none)]
def dex (K : PySem.W.Frag) : Bool := (propB K "Program" "kinds") && (propB K "Program" "passes") && (propB K "Program" "tells")
theorem facts {K : PySem.W.Frag} {h : Heap} {mg : Str → Option Value} (KX : K.In h) (G : h.Ns mainGlobals mg) (c : SaysY dfa dfn dtf dex h K) :
    ∃ T : Txt K mg, T.a_law = He.ga K "law" ∧ T.cc_ = (He.cT K ("repeated_outcome", none)).1 ∧ T.P_ = (He.cT K ("repeated_outcome", none)).2 ∧ ∀ (s : Shared) (u : Value), BindsTo s T.f_law ⟨[u], []⟩ [("_law_script", u)] := by
  obtain ⟨fd0, D0⟩ := c.a.def_ 0 (d := dd0) rfl
  obtain ⟨fd1, D1⟩ := c.a.def_ 1 (d := dd1) rfl
  obtain ⟨fd2, D2⟩ := c.a.def_ 2 (d := dd2) rfl
  obtain ⟨fd3, D3⟩ := c.a.def_ 3 (d := dd3) rfl
  obtain ⟨fd4, D4⟩ := c.a.def_ 4 (d := dd4) rfl
  obtain ⟨fd5, D5⟩ := c.a.def_ 5 (d := dd5) rfl
  obtain ⟨fd6, D6⟩ := c.a.def_ 6 (d := dd6) rfl
  obtain ⟨fd7, D7⟩ := c.a.def_ 7 (d := dd7) rfl
  obtain ⟨fd8, D8⟩ := c.a.def_ 8 (d := dd8) rfl
  obtain ⟨fd9, D9⟩ := c.a.def_ 9 (d := dd9) rfl
  obtain ⟨fd10, D10⟩ := c.a.def_ 10 (d := dd10) rfl
  obtain ⟨fd11, D11⟩ := c.a.def_ 11 (d := dd11) rfl
  obtain ⟨fd12, D12⟩ := c.a.def_ 12 (d := dd12) rfl
  obtain ⟨fd13, D13⟩ := c.a.def_ 13 (d := dd13) rfl
  obtain ⟨fd14, D14⟩ := c.a.def_ 14 (d := dd14) rfl
  obtain ⟨fd15, D15⟩ := c.a.def_ 15 (d := dd15) rfl
  obtain ⟨fd16, D16⟩ := c.a.def_ 16 (d := dd16) rfl
  obtain ⟨fd17, D17⟩ := c.a.def_ 17 (d := dd17) rfl
  obtain ⟨fd18, D18⟩ := c.a.def_ 18 (d := dd18) rfl
  obtain ⟨fd19, D19⟩ := c.a.def_ 19 (d := dd19) rfl
  obtain ⟨fd20, D20⟩ := c.a.def_ 20 (d := dd20) rfl
  obtain ⟨fd21, D21⟩ := c.a.def_ 21 (d := dd21) rfl
  obtain ⟨fd22, D22⟩ := c.a.def_ 22 (d := dd22) rfl
  obtain ⟨fd23, D23⟩ := c.a.def_ 23 (d := dd23) rfl
  obtain ⟨fd24, D24⟩ := c.a.def_ 24 (d := dd24) rfl
  obtain ⟨fd25, D25⟩ := c.a.def_ 25 (d := dd25) rfl
  obtain ⟨fd26, D26⟩ := c.a.def_ 26 (d := dd26) rfl
  obtain ⟨fd27, D27⟩ := c.a.def_ 27 (d := dd27) rfl
  obtain ⟨fd28, D28⟩ := c.a.def_ 28 (d := dd28) rfl
  obtain ⟨fd29, D29⟩ := c.a.def_ 29 (d := dd29) rfl
  have px := c.more
  unfold dex at px
  simp only [Bool.and_eq_true] at px
  obtain ⟨⟨px0, px1⟩, px2⟩ := px
  exact ⟨{
    a_l_begun := He.fAd K ("_law_begun", none),
    f_l_begun := fd0,
    d_l_begun := D0,
    b_l_begun := D0.bindsN fun _ _ _ _ _ _ us hl => match us, hl with | [_], _ => rfl,
    g_l_begun := He.glo_ok KX G (c.a.fact 0 rfl),
    a_l_take := He.fAd K ("_law_take", none),
    f_l_take := fd1,
    d_l_take := D1,
    b_l_take := D1.bindsN fun _ _ _ _ _ _ us hl => match us, hl with | [_, _], _ => rfl,
    g_l_take := He.glo_ok KX G (c.a.fact 1 rfl),
    a_l_pick := He.fAd K ("_law_pick", none),
    f_l_pick := fd2,
    d_l_pick := D2,
    b_l_pick := D2.bindsN fun _ _ _ _ _ _ us hl => match us, hl with | [_, _], _ => rfl,
    g_l_pick := He.glo_ok KX G (c.a.fact 2 rfl),
    a_l_labels := He.fAd K ("_law_labels", none),
    f_l_labels := fd3,
    d_l_labels := D3,
    b_l_labels := D3.bindsN fun _ _ _ _ _ _ us hl => match us, hl with | [_, _], _ => rfl,
    g_l_labels := He.glo_ok KX G (c.a.fact 3 rfl),
    a_l_any_gain := He.fAd K ("_law_any_gain", none),
    f_l_any_gain := fd4,
    d_l_any_gain := D4,
    b_l_any_gain := D4.bindsN fun _ _ _ _ _ _ us hl => match us, hl with | [_], _ => rfl,
    g_l_any_gain := He.glo_ok KX G (c.a.fact 4 rfl),
    a_l_any_rows := He.fAd K ("_law_any_rows", none),
    f_l_any_rows := fd5,
    d_l_any_rows := D5,
    b_l_any_rows := D5.bindsN fun _ _ _ _ _ _ us hl => match us, hl with | [_, _, _], _ => rfl,
    g_l_any_rows := He.glo_ok KX G (c.a.fact 5 rfl),
    a_l_story := He.fAd K ("_law_story", none),
    f_l_story := fd6,
    d_l_story := D6,
    b_l_story := D6.bindsN fun _ _ _ _ _ _ us hl => match us, hl with | [_, _], _ => rfl,
    g_l_story := He.glo_ok KX G (c.a.fact 6 rfl),
    a_is_name := He.fAd K ("is_name", none),
    f_is_name := fd7,
    d_is_name := D7,
    b_is_name := D7.bindsN fun _ _ _ _ _ _ us hl => match us, hl with | [_], _ => rfl,
    g_is_name := He.glo_ok KX G (c.a.fact 7 rfl),
    a_are_kinds := He.fAd K ("are_kinds", none),
    f_are_kinds := fd8,
    d_are_kinds := D8,
    b_are_kinds := D8.bindsN fun _ _ _ _ _ _ us hl => match us, hl with | [_], _ => rfl,
    g_are_kinds := He.glo_ok KX G (c.a.fact 8 rfl),
    a_is_integer := He.fAd K ("is_integer", none),
    f_is_integer := fd9,
    d_is_integer := D9,
    b_is_integer := D9.bindsN fun _ _ _ _ _ _ us hl => match us, hl with | [_], _ => rfl,
    g_is_integer := He.glo_ok KX G (c.a.fact 9 rfl),
    a_is_state := He.fAd K ("is_state", none),
    f_is_state := fd10,
    d_is_state := D10,
    b_is_state := D10.bindsN fun _ _ _ _ _ _ us hl => match us, hl with | [_, _], _ => rfl,
    g_is_state := He.glo_ok KX G (c.a.fact 10 rfl),
    a_is_pair := He.fAd K ("is_pair", none),
    f_is_pair := fd11,
    d_is_pair := D11,
    b_is_pair := D11.bindsN fun _ _ _ _ _ _ us hl => match us, hl with | [_, _], _ => rfl,
    g_is_pair := He.glo_ok KX G (c.a.fact 11 rfl),
    a_are_rows := He.fAd K ("are_rows", none),
    f_are_rows := fd12,
    d_are_rows := D12,
    b_are_rows := D12.bindsN fun _ _ _ _ _ _ us hl => match us, hl with | [_, _], _ => rfl,
    g_are_rows := He.glo_ok KX G (c.a.fact 12 rfl),
    a_is_pass := He.fAd K ("is_pass", none),
    f_is_pass := fd13,
    d_is_pass := D13,
    b_is_pass := D13.bindsN fun _ _ _ _ _ _ us hl => match us, hl with | [_, _, _], _ => rfl,
    g_is_pass := He.glo_ok KX G (c.a.fact 13 rfl),
    a_are_passes := He.fAd K ("are_passes", none),
    f_are_passes := fd14,
    d_are_passes := D14,
    b_are_passes := D14.bindsN fun _ _ _ _ _ _ us hl => match us, hl with | [_, _], _ => rfl,
    g_are_passes := He.glo_ok KX G (c.a.fact 14 rfl),
    a_is_tell := He.fAd K ("is_tell", none),
    f_is_tell := fd15,
    d_is_tell := D15,
    b_is_tell := D15.bindsN fun _ _ _ _ _ _ us hl => match us, hl with | [_], _ => rfl,
    g_is_tell := He.glo_ok KX G (c.a.fact 15 rfl),
    a_Program___init__ := He.fAd K ("Program", some "__init__"),
    f_Program___init__ := fd16,
    d_Program___init__ := D16,
    b_Program___init__ := D16.bindsN fun _ _ _ _ _ _ us hl => match us, hl with | [_, _, _, _], _ => rfl,
    a_l_any_order := He.fAd K ("_law_any_order", none),
    f_l_any_order := fd17,
    d_l_any_order := D17,
    b_l_any_order := D17.bindsN fun _ _ _ _ _ _ us hl => match us, hl with | [_, _, _], _ => rfl,
    g_l_any_order := He.glo_ok KX G (c.a.fact 16 rfl),
    a_l_ran := He.fAd K ("_law_ran", none),
    f_l_ran := fd18,
    d_l_ran := D18,
    b_l_ran := D18.bindsN fun _ _ _ _ _ _ us hl => match us, hl with | [_, _], _ => rfl,
    g_l_ran := He.glo_ok KX G (c.a.fact 17 rfl),
    a_need_order := He.fAd K ("need_order", none),
    f_need_order := fd19,
    d_need_order := D19,
    b_need_order := D19.bindsN fun _ _ _ _ _ _ us hl => match us, hl with | [_, _], _ => rfl,
    g_need_order := He.glo_ok KX G (c.a.fact 18 rfl),
    a_told_behind := He.fAd K ("told_behind", none),
    f_told_behind := fd20,
    d_told_behind := D20,
    b_told_behind := D20.bindsN fun _ _ _ _ _ _ us hl => match us, hl with | [_, _], _ => rfl,
    g_told_behind := He.glo_ok KX G (c.a.fact 19 rfl),
    a_table_of := He.fAd K ("table_of", none),
    f_table_of := fd21,
    d_table_of := D21,
    b_table_of := D21.bindsN fun _ _ _ _ _ _ us hl => match us, hl with | [_, _], _ => rfl,
    g_table_of := He.glo_ok KX G (c.a.fact 20 rfl),
    a_leaped := He.fAd K ("leaped", none),
    f_leaped := fd22,
    d_leaped := D22,
    b_leaped := D22.bindsN fun _ _ _ _ _ _ us hl => match us, hl with | [_, _, _], _ => rfl,
    g_leaped := He.glo_ok KX G (c.a.fact 21 rfl),
    a_repeated_outcome := He.fAd K ("repeated_outcome", none),
    f_repeated_outcome := fd23,
    d_repeated_outcome := D23,
    b_repeated_outcome := D23.bindsN fun _ _ _ _ _ _ us hl => match us, hl with | [_, _, _], _ => rfl,
    g_repeated_outcome := He.glo_ok KX G (c.a.fact 22 rfl),
    a_l_word_power := He.fAd K ("_law_word_power", none),
    f_l_word_power := fd24,
    d_l_word_power := D24,
    b_l_word_power := D24.bindsN fun _ _ _ _ _ _ us hl => match us, hl with | [_, _, _, _], _ => rfl,
    g_l_word_power := He.glo_ok KX G (c.a.fact 23 rfl),
    a_l_powered := He.fAd K ("_law_powered", none),
    f_l_powered := fd25,
    d_l_powered := D25,
    b_l_powered := D25.bindsN fun _ _ _ _ _ _ us hl => match us, hl with | [_, _, _], _ => rfl,
    g_l_powered := He.glo_ok KX G (c.a.fact 24 rfl),
    a_law := He.fAd K ("law", none),
    f_law := fd26,
    d_law := D26,
    b_law := D26.bindsN fun _ _ _ _ _ _ us hl => match us, hl with | [_], _ => rfl,
    g_law := He.glo_ok KX G (c.a.fact 25 rfl),
    a_Program := He.ga K "Program",
    cl_Program := He.cls_ok (c.a.fact 26 rfl),
    gc_Program := He.glo_ok KX G (c.a.fact 27 rfl),
    mk_Program := He.mkr_ok (c.a.fact 28 rfl),
    na_Program_p_kinds := He.noat_ok (c.a.fact 29 rfl),
    na_Program_p_passes := He.noat_ok (c.a.fact 30 rfl),
    na_Program_p_tells := He.noat_ok (c.a.fact 31 rfl),
    a_Program_kinds := gAd K "Program" "kinds",
    f_Program_kinds := fd27,
    d_Program_kinds := D27,
    b_Program_kinds := D27.bindsN fun _ _ _ _ _ _ us hl => match us, hl with | [_], _ => rfl,
    pp_kinds := pAd K "Program" "kinds",
    pr_kinds := propB_ok px0,
    a_Program_passes := gAd K "Program" "passes",
    f_Program_passes := fd28,
    d_Program_passes := D28,
    b_Program_passes := D28.bindsN fun _ _ _ _ _ _ us hl => match us, hl with | [_], _ => rfl,
    pp_passes := pAd K "Program" "passes",
    pr_passes := propB_ok px1,
    a_Program_tells := gAd K "Program" "tells",
    f_Program_tells := fd29,
    d_Program_tells := D29,
    b_Program_tells := D29.bindsN fun _ _ _ _ _ _ us hl => match us, hl with | [_], _ => rfl,
    pp_tells := pAd K "Program" "tells",
    pr_tells := propB_ok px2,
    cc_ := (He.cT K ("repeated_outcome", none)).1,
    P_ := (He.cT K ("repeated_outcome", none)).2,
    cd_repeated_outcome := code_of (p := ("repeated_outcome", none)) D23,
    n_abs := He.free_ok KX G (c.a.fact 32 rfl),
    n_all := He.free_ok KX G (c.a.fact 33 rfl),
    n_bool := He.free_ok KX G (c.a.fact 34 rfl),
    n_enumerate := He.free_ok KX G (c.a.fact 35 rfl),
    n_int := He.free_ok KX G (c.a.fact 36 rfl),
    n_isinstance := He.free_ok KX G (c.a.fact 37 rfl),
    n_len := He.free_ok KX G (c.a.fact 38 rfl),
    n_list := He.free_ok KX G (c.a.fact 39 rfl),
    n_range := He.free_ok KX G (c.a.fact 40 rfl),
    n_sorted := He.free_ok KX G (c.a.fact 41 rfl),
    n_str := He.free_ok KX G (c.a.fact 42 rfl),
    n_tuple := He.free_ok KX G (c.a.fact 43 rfl),
    n_zip := He.free_ok KX G (c.a.fact 44 rfl),
    c_LETTERS := He.str_ok KX G (c.a.fact 45 rfl),
    c_MOST_KINDS := He.int_ok KX G (c.a.fact 46 rfl),
    c_MOST_LETTERS := He.int_ok KX G (c.a.fact 47 rfl),
    c_MOST_PASSES := He.int_ok KX G (c.a.fact 48 rfl),
    c_MOST_TIMES := He.int_ok KX G (c.a.fact 49 rfl) }, rfl, rfl, rfl, fun s u => D26.bindsA (ps := ["_law_script"]) (fun _ _ _ _ _ _ us hl => match us, hl with | [_], _ => rfl) s [u] rfl⟩
abbrev RR : PySem.W.OpenRow := PySem.W.OpenLaw.row PySem.Challenge.rw_seedless_k70_outcomes_of_repeated_orders
abbrev hk : PySem.W.Hook := hookY 6 dfa dfn dtf dex
def obv (s : PySem.W.SharedT) : AlY := obsY 6 dfa dfn dtf dex (HandSHeadRun.getT s)
theorem obv_eq (s : PySem.W.SharedT) : obv s = hk.obs s.abs := obsY_eq (HandSHeadRun.getT_eq s)
def looseN : List PySem.Str := ([("SeedError" : PySem.Str), ("BadProgram" : PySem.Str), ("BadOrder" : PySem.Str), ("TooMany" : PySem.Str), ("LETTERS" : PySem.Str), ("MOST_LETTERS" : PySem.Str), ("MOST_KINDS" : PySem.Str), ("MOST_PASSES" : PySem.Str), ("is_integer" : PySem.Str), ("is_name" : PySem.Str), ("are_kinds" : PySem.Str), ("is_state" : PySem.Str), ("is_pair" : PySem.Str), ("are_rows" : PySem.Str), ("is_pass" : PySem.Str), ("are_passes" : PySem.Str), ("is_tell" : PySem.Str), ("Program" : PySem.Str), ("need_order" : PySem.Str), ("MOST_TIMES" : PySem.Str), ("leaped" : PySem.Str), ("table_of" : PySem.Str), ("told_behind" : PySem.Str), ("repeated_outcome" : PySem.Str), ("_law_begun" : PySem.Str), ("_law_take" : PySem.Str), ("_law_pick" : PySem.Str), ("_law_labels" : PySem.Str), ("_law_any_gain" : PySem.Str), ("_law_any_rows" : PySem.Str), ("_law_story" : PySem.Str), ("_law_ran" : PySem.Str), ("_law_any_order" : PySem.Str), ("_law_word_power" : PySem.Str), ("_law_powered" : PySem.Str)] : List PySem.Str)
theorem runs (w : World) : HandSHeadRun.RunEq RR (PySem.W.view RR.prog [39]) hk obv 3000 looseN w := by
  intro os
  kernel_rfl
end G
open PySem PySem.W PySem.Calls PyProof.Rows
theorem PySem.Challenge.cw_seedless_k70_outcomes_of_repeated_orders_holds : PySem.Challenge.rw_seedless_k70_outcomes_of_repeated_orders.Holds := by
  w_on; o_law
  refine HandSHeadRun.head_any (r := OpenLaw.row PySem.Challenge.rw_seedless_k70_outcomes_of_repeated_orders) (q := view (OpenLaw.row PySem.Challenge.rw_seedless_k70_outcomes_of_repeated_orders).prog [39]) (H := G.hk) (ob := G.obv) (M := 3000) (loose := G.looseN) (d := HandSHeadRun.topDef (OpenLaw.row PySem.Challenge.rw_seedless_k70_outcomes_of_repeated_orders).prog 39) (kwd := []) G.obv_eq
    (by kernel_rfl) (fun s => by kernel_rfl) G.runs (by kernel_rfl) (by kernel_rfl) (by kernel_rfl) (by rfl) (by first | assumption | decide +kernel) (by decide +kernel) ⟨rfl, rfl, rfl, rfl, rfl, by decide +kernel⟩ ?hw ?hc
  case hw => w_witness2
  case hc =>
    refine LamX.walk_ofTsE (l := PySem.Challenge.rw_seedless_k70_outcomes_of_repeated_orders) (n := 63) (k := 25) (x := "_law_script") (CX := fun _ => L2.CX0) rfl (by decide) (by kernel_rfl) ⟨rfl, by decide, by decide⟩ ?F (fun _ _ _ _ _ z => z)
    intro w mg fa h Y G0 hmg0
    obtain ⟨K, KX, c⟩ := Y
    have hmg : mg ("law" : PySem.Str) = some (.ref fa) := by
      have e : (HandSHeadRun.topDef (OpenLaw.row PySem.Challenge.rw_seedless_k70_outcomes_of_repeated_orders).prog 39).name = ("law" : PySem.Str) := by kernel_rfl
      rw [← e]
      exact hmg0
    obtain ⟨T, ea, ec, eP, hb⟩ := G.facts KX G0 c
    have ef : fa = T.a_law := by
      have := hmg.symm.trans T.g_law
      cases this; rfl
    subst ef
    have hd := c.hd _ (List.mem_cons_self ..)
    have hout := c.out _ (List.mem_cons_self ..)
    have hemp := c.empty _ (List.mem_cons_self ..)
    refine ⟨K, KX, T.f_law, [(T.cc_, T.P_)], G.sp_law K T.a_Program T.P_, fun p hp => ?_, fun p hp => ?_, fun p hp => ?_, hb, fun H a ns hl _ hT hS => ?_, fun base _ _ hTB => G.ok_law T (hTB _ (List.mem_cons_self ..))⟩
    · rw [List.mem_singleton.mp hp]; show h.get? T.P_ = _; rw [eP]; exact hemp
    · rw [List.mem_singleton.mp hp]; show K.lookup T.P_ = _; rw [eP]; exact hout
    · rw [List.mem_singleton.mp hp]; show PySem.W.CodeHd h T.cc_ T.P_; rw [ec, eP]; exact PySem.W.codeHd_of_K KX hd
    · exact ⟨fun _ => none, a, ns, rfl, fun _ _ e => (by cases e), hS, NdefX.TabN.nil (hT _ (List.mem_cons_self ..)), rfl, G.postT_true (G.law_true ns hl)⟩
