import PyProof.Rows.All
import Wide.All
import OpenK.AllK
import Wide.FinOn
import HandS.ForMost
import HandS.ForExc
import HandS.IsInst
import HandS.Defaults
import HandS.HeadHook1
import HandS.HeadHook2
import HandS.SortInts
import HandS.ExcInit
import HandS.ExcField
import HandS.TryMany
import HandS.ClsMeth
import HandS.ExcCtx
import HandS.HotCalls
import HandS.ExcInitHot
import HandS.CallSlots
import HandS.Zip
import KE.GoesEnum
import HandS.TupLe
import HandS.DeepEq
import HandS.Head0
import HandS.Head1
import HandS.Head2
import HandS.HeadEnd
import KE.KStateDown
import Lean
import PySem.Challenge.RW_seenrows_k02_filters_refused
set_option Elab.async false
set_option linter.all false
set_option maxRecDepth 100000
set_option maxHeartbeats 4000000
section
/-! The frozen part F of the heap, the part M that may change, and what evaluates to what beside them. -/
namespace Fw
open PySem L2

/-! ### heaps -/
/-- all that F knows H knows -/
def Ex (F H : Hp) : Prop := ∀ a o, F a = some o → H a = some o
theorem Ex.refl (F : Hp) : Ex F F := fun _ _ h => h
theorem Ex.trans {F G H : Hp} (a : Ex F G) (b : Ex G H) : Ex F H := fun x o h => b x o (a x o h)
theorem Ex.put {F H : Hp} {p : Addr} {o : HO} (e : Ex F H) (h : F p = none) : Ex F (upd H p o) := fun a u q => by
  rw [upd_ne (fun z => by rw [z, h] at q; cases q)]
  exact e a u q
theorem Ex.new {F : Hp} {p : Addr} {o : HO} (h : F p = none) : Ex F (upd F p o) := (Ex.refl F).put h
theorem ne_some {F : Hp} {a : Addr} {o : HO} (h : F a = some o) : F a ≠ none := fun z => by rw [z] at h; cases h
theorem Ex.ne {F H : Hp} (e : Ex F H) {a : Addr} (h : F a ≠ none) : H a ≠ none := fun z => by
  cases q : F a with
  | none => exact h q
  | some o =>
    have w := e a o q
    rw [z] at w
    cases w
theorem Ex.sqT {K : PySem.W.Frag} {F H : Hp} (e : Ex F H) {a : Addr} {xs : List V} (h : SqT K F a xs) : SqT K H a xs := by
  rcases h with (h | ⟨ob, h⟩) | h
  · exact .inl (.inl (e _ _ h))
  · exact .inl (.inr ⟨ob, e _ _ h⟩)
  · exact .inr h
theorem Ex.sqL {K : PySem.W.Frag} {F H : Hp} (e : Ex F H) {a : Addr} {xs : List V} (h : SqL K F a xs) : SqL K H a xs := by
  rcases h with (h | ⟨ob, h⟩) | h
  · exact .inl (.inl (e _ _ h))
  · exact .inl (.inr ⟨ob, e _ _ h⟩)
  · exact .inr h

/-! ### the part that may change (f), the dicts that are being walked (l) -/
structure MM where
  f : Addr → Option (Nat → HO → Prop)
  l : Addr → Option Obj
  n : Nat
/-- just this object -/
abbrev eqo (o : HO) : Nat → HO → Prop := fun _ x => o = x
def M0 : MM := ⟨fun _ => none, fun _ => none, 0⟩
/-- k more draws -/
abbrev MM.add (M : MM) (k : Nat) : MM := ⟨M.f, M.l, M.n + k⟩
def mput (M : MM) (p : Addr) (φ : Nat → HO → Prop) : MM := ⟨fun a => if a = p then some φ else M.f a, M.l, M.n⟩
def mdel (M : MM) (p : Addr) : MM := ⟨fun a => if a = p then none else M.f a, M.l, M.n⟩
def mlck (M : MM) (d : Addr) (ob : Obj) : MM := ⟨M.f, fun a => if a = d then some ob else M.l a, M.n⟩
theorem mput_same {M : MM} {p : Addr} {φ : Nat → HO → Prop} : (mput M p φ).f p = some φ := if_pos rfl
theorem mput_ne {M : MM} {p a : Addr} {φ : Nat → HO → Prop} (h : a ≠ p) : (mput M p φ).f a = M.f a := if_neg h
theorem mdel_same {M : MM} {p : Addr} : (mdel M p).f p = none := if_pos rfl
theorem mdel_ne {M : MM} {p a : Addr} (h : a ≠ p) : (mdel M p).f a = M.f a := if_neg h
/-- the frozen part, the changing part and the heap -/
structure Cn (F : Hp) (M : MM) (H : Hp) : Prop where
  ex : ∀ a o, F a = some o → H a = some o ∨ ∃ ob kvs, M.l a = some ob ∧ o = .dK kvs ∧ H a = some (.frz ob (.dK kvs))
  sat : ∀ a φ, M.f a = some φ → ∃ o, H a = some o ∧ φ M.n o
  dis : ∀ a, M.f a ≠ none → F a = none
  lk : ∀ a ob, M.l a = some ob → ∃ kvs, H a = some (.frz ob (.dK kvs))
  up : ∀ a φ, M.f a = some φ → ∀ n o, φ n o → φ (n + 1) o
/-- from F, H to F', H' beside M -/
structure GrM (M M' : MM) (F H F' H' : Hp) : Prop where
  f : Ex F F'
  c : Cn F' M' H'
  k : ∀ a o, M.f a = none → H a = some o → H' a = some o
  n : ∀ a, F a = none → H a ≠ none → F' a = none
  ef : M'.f = M.f
  el : M'.l = M.l
abbrev Gr (M : MM) := GrM M M
section
variable {M M1 M2 : MM} {F H F' H' F1 H1 F2 H2 : Hp}
theorem Cn.at_ (c : Cn F M H) {a : Addr} {o : HO} (h : F a = some o) (hd : ∀ kvs, o ≠ .dK kvs) : H a = some o := by
  rcases c.ex a o h with z | ⟨ob, kvs, _, e, _⟩
  · exact z
  · exact absurd e (hd kvs)
theorem Cn.lst (c : Cn F M H) {a : Addr} {xs : List V} (h : F a = some (.lst xs)) : H a = some (.lst xs) := c.at_ h fun _ z => by cases z
theorem Cn.tup (c : Cn F M H) {a : Addr} {xs : List V} (h : F a = some (.tup xs)) : H a = some (.tup xs) := c.at_ h fun _ z => by cases z
theorem Cn.ins (c : Cn F M H) {a C dx : Addr} {fs : List (Str × V)} (h : F a = some (.ins C dx fs)) : H a = some (.ins C dx fs) := c.at_ h fun _ z => by cases z
theorem Cn.frz (c : Cn F M H) {a : Addr} {ob : Obj} {u : HO} (h : F a = some (.frz ob u)) : H a = some (.frz ob u) := c.at_ h fun _ z => by cases z
theorem Cn.dk (c : Cn F M H) {a : Addr} {kvs : List (Key × V)} (h : F a = some (.dK kvs)) : Rd H a (.dK kvs) := by
  rcases c.ex a _ h with z | ⟨ob, kvs', _, e, z⟩
  · exact .inl z
  · cases e
    exact .inr ⟨ob, z⟩
theorem Cn.dkU (c : Cn F M H) {a : Addr} {kvs : List (Key × V)} (h : F a = some (.dK kvs)) (u : M.l a = none) : H a = some (.dK kvs) := by
  rcases c.ex a _ h with z | ⟨_, _, y, _⟩
  · exact z
  · rw [u] at y; cases y
theorem Cn.sqT {K : PySem.W.Frag} (c : Cn F M H) {a : Addr} {xs : List V} (h : SqT K F a xs) : SqT K H a xs := by
  rcases h with (h | ⟨ob, h⟩) | h
  · exact .inl (.inl (c.tup h))
  · exact .inl (.inr ⟨ob, c.frz h⟩)
  · exact .inr h
theorem Cn.sqL {K : PySem.W.Frag} (c : Cn F M H) {a : Addr} {xs : List V} (h : SqL K F a xs) : SqL K H a xs := by
  rcases h with (h | ⟨ob, h⟩) | h
  · exact .inl (.inl (c.lst h))
  · exact .inl (.inr ⟨ob, c.frz h⟩)
  · exact .inr h
theorem Cn.ne (c : Cn F M H) {a : Addr} (h : F a ≠ none) : H a ≠ none := fun z => by
  cases q : F a with
  | none => exact h q
  | some o =>
    rcases c.ex a o q with w | ⟨_, _, _, _, w⟩ <;> rw [z] at w <;> cases w
theorem Cn.mne (c : Cn F M H) {a : Addr} (h : M.f a ≠ none) : H a ≠ none := fun z => by
  cases q : M.f a with
  | none => exact h q
  | some φ =>
    obtain ⟨o, e, _⟩ := c.sat a φ q
    rw [z] at e
    cases e
theorem Cn.fnone (c : Cn F M H) {p : Addr} (h : H p = none) : F p = none := by
  cases q : F p with
  | none => rfl
  | some u => exact absurd h (c.ne (ne_some q))
theorem Cn.mnone (c : Cn F M H) {p : Addr} (h : H p = none) : M.f p = none := by
  cases q : M.f p with
  | none => rfl
  | some u => exact absurd h (c.mne (by rw [q]; intro z; cases z))
theorem Cn.lnone (c : Cn F M H) {p : Addr} (h : H p = none) : M.l p = none := by
  cases z : M.l p with
  | none => rfl
  | some ob =>
    obtain ⟨_, e⟩ := c.lk p ob z
    rw [h] at e
    cases e
theorem Cn.at2 (c : Cn F M H) {a : Addr} {o : HO} (h : M.f a = some (eqo o)) : H a = some o := by
  obtain ⟨u, e, w⟩ := c.sat a _ h
  have w : o = u := w
  rw [e, w]
theorem Cn.weak (c : Cn F M H) : ∀ k, Cn F (M.add k) H
  | 0 => c
  | k + 1 => ⟨c.ex, fun a φ q => by
      obtain ⟨o, e, w⟩ := (c.weak k).sat a φ q
      exact ⟨o, e, c.up a φ q _ o w⟩, c.dis, c.lk, c.up⟩
theorem Gr.refl (c : Cn F M H) : Gr M F H F H := ⟨Ex.refl F, c, fun _ _ _ h => h, fun _ h _ => h, rfl, rfl⟩
theorem GrM.ne (g : GrM M M1 F H F' H') {a : Addr} (h : H a ≠ none) : H' a ≠ none := fun z => by
  cases q : M.f a with
  | some φ => exact g.c.mne (by rw [g.ef, q]; intro z; cases z) z
  | none =>
    cases w : H a with
    | none => exact h w
    | some o =>
      have := g.k a o q w
      rw [z] at this
      cases this
theorem GrM.trans (a : GrM M M1 F H F1 H1) (b : GrM M1 M2 F1 H1 F2 H2) : GrM M M2 F H F2 H2 :=
  ⟨a.f.trans b.f, b.c, fun x o h q => b.k x o (by rw [a.ef]; exact h) (a.k x o h q), fun x h q => b.n x (a.n x h q) (a.ne q), b.ef.trans a.ef, b.el.trans a.el⟩
theorem GrM.weak (a : GrM M M1 F H F1 H1) (k : Nat) : GrM M (M1.add k) F H F1 H1 := ⟨a.f, a.c.weak k, a.k, a.n, a.ef, a.el⟩
/-- a new object, not frozen -/
theorem Gr.lay (c : Cn F M H) {p : Addr} {o : HO} (h : H p = none) : Gr M F H F (upd H p o) := by
  have on : ∀ a u, H a = some u → upd H p o a = some u := fun a u q => by
    rw [upd_ne (fun z => by rw [z, h] at q; cases q)]
    exact q
  refine ⟨Ex.refl F, ⟨fun a u q => ?_, fun a φ q => ?_, c.dis, fun a ob q => ?_, c.up⟩, fun a u _ q => on a u q, fun _ h _ => h, rfl, rfl⟩
  · rcases c.ex a u q with z | ⟨ob, kvs, y, e, z⟩
    · exact .inl (on a u z)
    · exact .inr ⟨ob, kvs, y, e, on a _ z⟩
  · obtain ⟨u, e, w⟩ := c.sat a φ q
    exact ⟨u, on a u e, w⟩
  · obtain ⟨kvs, e⟩ := c.lk a ob q
    exact ⟨kvs, on a _ e⟩
/-- what is new to H is frozen -/
theorem GrM.fix (g : GrM M M1 F H F' H') (c : Cn F M H) {p : Addr} {o : HO} (hp : H p = none) (h : H' p = some o) : GrM M M1 F H (upd F' p o) H' := by
  have hF := c.fnone hp
  have hF' : F' p = none ∨ F' p = some o ∨ ∃ u, F' p = some u := by
    cases F' p with
    | none => exact .inl rfl
    | some u => exact .inr (.inr ⟨u, rfl⟩)
  have hM := c.mnone hp
  refine ⟨g.f.put hF, ⟨fun a u q => ?_, g.c.sat, fun a q => ?_, g.c.lk, g.c.up⟩, g.k, fun a e q => ?_, g.ef, g.el⟩
  · by_cases z : a = p
    · subst z
      rw [upd_same] at q
      cases q
      exact .inl h
    · rw [upd_ne z] at q
      exact g.c.ex a u q
  · rw [upd_ne (fun z => q (by rw [z, g.ef]; exact hM))]
    exact g.c.dis a q
  · rw [upd_ne (fun z => q (by rw [z, hp]))]
    exact g.n a e q
/-- a new object, frozen -/
theorem Gr.new (c : Cn F M H) {p : Addr} {o : HO} (h : H p = none) : Gr M F H (upd F p o) (upd H p o) :=
  GrM.fix (Gr.lay c h) c h upd_same
/-- more that may change behind -/
theorem Cn.put (c : Cn F M H) {p : Addr} {o : HO} {φ : Nat → HO → Prop} (hp : H p = some o) (hF : F p = none) (w : φ M.n o) (hu : ∀ n o, φ n o → φ (n + 1) o) : Cn F (mput M p φ) H := by
  refine ⟨c.ex, fun a ψ q => ?_, fun a q => ?_, c.lk, fun a ψ q => ?_⟩
  · by_cases z : a = p
    · subst z
      rw [mput_same] at q
      cases q
      exact ⟨o, hp, w⟩
    · rw [mput_ne z] at q
      exact c.sat a ψ q
  · by_cases z : a = p
    · rw [z]
      exact hF
    · rw [mput_ne z] at q
      exact c.dis a q
  · by_cases z : a = p
    · subst z
      rw [mput_same] at q
      cases q
      exact hu
    · rw [mput_ne z] at q
      exact c.up a ψ q
end

/-! ### predicates of values beside the frozen part -/
abbrev VP := Hp → V → Prop
class Mono (R : VP) : Prop where
  up : ∀ F F' v, Ex F F' → R F v → R F' v
def pV (x : V) : VP := fun _ v => v = x
instance {x : V} : Mono (pV x) := ⟨fun _ _ _ _ h => h⟩
abbrev pI (i : Int) : VP := pV (.int i)
abbrev pB (b : Bool) : VP := pV (.bl b)
abbrev pS (s : Str) : VP := pV (.str s)
abbrev pN : VP := pV .non
/-- any value -/
def pAny : VP := fun _ _ => True
instance : Mono pAny := ⟨fun _ _ _ _ _ => trivial⟩
/-- item by item -/
inductive Al (F : Hp) : List VP → List V → Prop
  | nil : Al F [] []
  | cons {R : VP} {v : V} {Rs : List VP} {vs : List V} : R F v → Al F Rs vs → Al F (R :: Rs) (v :: vs)
theorem Al.length {F : Hp} : ∀ {Rs : List VP} {vs : List V}, Al F Rs vs → Rs.length = vs.length
  | _, _, .nil => rfl
  | _, _, .cons _ t => congrArg (· + 1) t.length
theorem Al.get {F : Hp} : ∀ {Rs : List VP} {vs : List V}, Al F Rs vs → ∀ {i : Nat} {R : VP}, Rs[i]? = some R → ∃ v, vs[i]? = some v ∧ R F v
  | _, _, .nil, i, R, h => by simp at h
  | _, _, .cons a t, 0, R, h => by
    cases (show some _ = some R from h)
    exact ⟨_, rfl, a⟩
  | _, _, .cons a t, i + 1, R, h => t.get (i := i) (R := R) (by simpa using h)
theorem Al.app {F : Hp} : ∀ {Rs Ss : List VP} {vs ws : List V}, Al F Rs vs → Al F Ss ws → Al F (Rs ++ Ss) (vs ++ ws)
  | _, _, _, _, .nil, h => h
  | _, _, _, _, .cons a b, h => .cons a (Al.app b h)
theorem Al.drop {F : Hp} : ∀ {Rs : List VP} {vs : List V} (n : Nat), Al F Rs vs → Al F (Rs.drop n) (vs.drop n)
  | _, _, 0, h => h
  | _, _, n + 1, .nil => by simp; exact .nil
  | _, _, n + 1, .cons _ b => b.drop n
theorem Al.take {F : Hp} : ∀ {Rs : List VP} {vs : List V} (n : Nat), Al F Rs vs → Al F (Rs.take n) (vs.take n)
  | _, _, 0, h => by simp; exact .nil
  | _, _, n + 1, .nil => by simp; exact .nil
  | _, _, n + 1, .cons a b => .cons a (b.take n)
class Monos (Rs : List VP) : Prop where
  all : ∀ R ∈ Rs, Mono R
theorem Monos.up {Rs : List VP} [h : Monos Rs] (F F' : Hp) (vs : List V) (e : Ex F F') (al : Al F Rs vs) : Al F' Rs vs := by
  have q := h.all
  clear h
  induction al with
  | nil => exact .nil
  | cons a _ ih => exact .cons ((q _ List.mem_cons_self).up F F' _ e a) (ih fun R hR => q R (List.mem_cons_of_mem _ hR))
instance : Monos [] := ⟨fun _ h => by cases h⟩
instance {R : VP} {Rs : List VP} [h : Mono R] [hs : Monos Rs] : Monos (R :: Rs) := ⟨fun Q hQ => by
  rcases List.mem_cons.mp hQ with rfl | hQ
  · exact h
  · exact hs.all Q hQ⟩
instance Monos.map {α : Type} {r : α → VP} {l : List α} [h : ∀ x, Mono (r x)] : Monos (l.map r) := ⟨fun R hR => by
  obtain ⟨x, _, e⟩ := List.mem_map.mp hR
  rw [← e]
  exact h x⟩
instance Monos.app {Rs Ss : List VP} [h : Monos Rs] [h' : Monos Ss] : Monos (Rs ++ Ss) := ⟨fun R hR => by
  rcases List.mem_append.mp hR with q | q
  · exact h.all R q
  · exact h'.all R q⟩
theorem Monos.sub {Rs Ss : List VP} (h : Monos Rs) (s : ∀ R ∈ Ss, R ∈ Rs) : Monos Ss := ⟨fun R hR => h.all R (s R hR)⟩
/-- a list, a tuple of such -/
def pL (Rs : List VP) : VP := fun F v => ∃ a xs, v = .ref a ∧ F a = some (.lst xs) ∧ Al F Rs xs
def pTt (Rs : List VP) : VP := fun F v => ∃ a xs, v = .ref a ∧ F a = some (.tup xs) ∧ Al F Rs xs
/-- .. that is read alone -/
def pT (K : PySem.W.Frag) (Rs : List VP) : VP := fun F v => ∃ a xs, v = .ref a ∧ SqT K F a xs ∧ Al F Rs xs
def pQ (K : PySem.W.Frag) (Rs : List VP) : VP := fun F v => ∃ a xs, v = .ref a ∧ SqL K F a xs ∧ Al F Rs xs
/-- a dict -/
def pDk (kvs : List (Key × V)) : VP := fun F v => ∃ a, v = .ref a ∧ F a = some (.dK kvs)
instance {Rs : List VP} [Monos Rs] : Mono (pL Rs) := ⟨fun F F' v e h => by
  obtain ⟨a, xs, h1, h2, h3⟩ := h
  exact ⟨a, xs, h1, e _ _ h2, Monos.up F F' _ e h3⟩⟩
instance {Rs : List VP} [Monos Rs] : Mono (pTt Rs) := ⟨fun F F' v e h => by
  obtain ⟨a, xs, h1, h2, h3⟩ := h
  exact ⟨a, xs, h1, e _ _ h2, Monos.up F F' _ e h3⟩⟩
instance {K : PySem.W.Frag} {Rs : List VP} [Monos Rs] : Mono (pT K Rs) := ⟨fun F F' v e h => by
  obtain ⟨a, xs, h1, h2, h3⟩ := h
  exact ⟨a, xs, h1, e.sqT h2, Monos.up F F' _ e h3⟩⟩
instance {K : PySem.W.Frag} {Rs : List VP} [Monos Rs] : Mono (pQ K Rs) := ⟨fun F F' v e h => by
  obtain ⟨a, xs, h1, h2, h3⟩ := h
  exact ⟨a, xs, h1, e.sqL h2, Monos.up F F' _ e h3⟩⟩
instance {kvs : List (Key × V)} : Mono (pDk kvs) := ⟨fun F F' v e h => by
  obtain ⟨a, h1, h2⟩ := h
  exact ⟨a, h1, e _ _ h2⟩⟩
/-- a fact in a context -/
structure Kn (R : VP) (F : Hp) (v : V) : Prop where
  h : R F v
theorem Kn.up {R : VP} [Mono R] {F F' : Hp} {v : V} (k : Kn R F v) (e : Ex F F') : Kn R F' v := ⟨Mono.up F F' v e k.h⟩
/-- what R says tells S -/
def Ent (F : Hp) (R S : VP) : Prop := ∀ F1 v, Ex F F1 → R F1 v → S F1 v
theorem Ent.refl {F : Hp} {R : VP} : Ent F R R := fun _ _ _ h => h
theorem Ent.var {F : Hp} {S : VP} {v : V} (k : Kn S F v) (m : Mono S) : Ent F (pV v) S := fun F1 w e h => by
  rw [show w = v from h]
  exact Mono.up F F1 v e k.h
theorem Ent.eq {F : Hp} {x y : V} (h : x = y) : Ent F (pV x) (pV y) := h ▸ Ent.refl
theorem Ent.trans {F : Hp} {R S T : VP} (a : Ent F R S) (b : Ent F S T) : Ent F R T := fun F1 v e h => b F1 v e (a F1 v e h)
theorem Ent.lq {F : Hp} {K : PySem.W.Frag} {Rs : List VP} : Ent F (pL Rs) (pQ K Rs) := fun F1 v e h => by
  obtain ⟨a, xs, h1, h2, h3⟩ := h
  exact ⟨a, xs, h1, .inl (.inl h2), h3⟩
theorem Ent.tt {F : Hp} {K : PySem.W.Frag} {Rs : List VP} : Ent F (pTt Rs) (pT K Rs) := fun F1 v e h => by
  obtain ⟨a, xs, h1, h2, h3⟩ := h
  exact ⟨a, xs, h1, .inl (.inl h2), h3⟩
theorem Ent.any {F : Hp} {R : VP} : Ent F R pAny := fun _ _ _ _ => trivial
def Ents (F : Hp) : List VP → List VP → Prop
  | [], [] => True
  | R :: Rs, S :: Ss => Ent F R S ∧ Ents F Rs Ss
  | _, _ => False
theorem Ents.al {F F1 : Hp} (e : Ex F F1) : ∀ {Rs Ss : List VP} {vs : List V}, Ents F Rs Ss → Al F1 Rs vs → Al F1 Ss vs
  | [], [], _, _, h => h
  | [], _ :: _, _, h, _ => h.elim
  | _ :: _, [], _, h, _ => h.elim
  | _ :: _, _ :: _, _, h, .cons a b => .cons (h.1 F1 _ e a) (Ents.al e h.2 b)
theorem Ents.refl {F : Hp} : ∀ {Rs : List VP}, Ents F Rs Rs
  | [] => trivial
  | _ :: _ => ⟨Ent.refl, Ents.refl⟩

/-! ### what evaluates to what -/
def EvM (te : TE) (σ : St) (F : Hp) (M M' : MM) (R : VP) : Prop := ∀ F1 H, Ex F F1 → Cn F1 M H → ∀ Q : VK, (∀ F2 H2 v, GrM M M' F1 H F2 H2 → R F2 v → Q v H2) → te σ H Q
abbrev EvD (te : TE) (σ : St) (F : Hp) (M : MM) (R : VP) : Prop := EvM te σ F M M R
def EvTM (t : TT) (σ : St) (F : Hp) (M M' : MM) (P : Bool → Prop) : Prop := ∀ F1 H, Ex F F1 → Cn F1 M H → ∀ Q : Bool → Hp → Prop, (∀ b F2 H2, GrM M M' F1 H F2 H2 → P b → Q b H2) → t σ H Q
def EvT (t : TT) (σ : St) (F : Hp) (M : MM) (b : Bool) : Prop := ∀ F1 H, Ex F F1 → Cn F1 M H → ∀ Q : Bool → Hp → Prop, (∀ F2 H2, Gr M F1 H F2 H2 → Q b H2) → t σ H Q
def EvAM (ta : TA) (σ : St) (F : Hp) (M M' : MM) (Rs : List VP) : Prop := ∀ F1 H, Ex F F1 → Cn F1 M H → ∀ Q : List V → Hp → Prop, (∀ F2 H2 vs, GrM M M' F1 H F2 H2 → Al F2 Rs vs → Q vs H2) → ta σ H Q
abbrev EvA (ta : TA) (σ : St) (F : Hp) (M : MM) (Rs : List VP) : Prop := EvAM ta σ F M M Rs
/-- a new object o, O F o of it, not frozen as yet -/
def EvNM (te : TE) (σ : St) (F : Hp) (M M' : MM) (O : Hp → HO → Prop) : Prop := ∀ F1 H, Ex F F1 → Cn F1 M H → ∀ Q : VK, (∀ F2 H2 p o, GrM M M' F1 H F2 H2 → H p = none → H2 p = some o → F2 p = none → O F2 o → Q (.ref p) H2) → te σ H Q
abbrev EvN (te : TE) (σ : St) (F : Hp) (M : MM) (O : Hp → HO → Prop) : Prop := EvNM te σ F M M O
section
variable {K : PySem.W.Frag} {σ : St} {F F' : Hp} {M M1 M2 M3 : MM} {ta tb te tx : TE} {t u : TT} {x y z v : V} {r : R2} {R S T : VP}
theorem EvM.lift (e : Ex F F') (h : EvM te σ F M M1 R) : EvM te σ F' M M1 R := fun F1 H a => h F1 H (e.trans a)
theorem EvT.up {b : Bool} (e : Ex F F') (h : EvT t σ F M b) : EvT t σ F' M b := fun F1 H a => h F1 H (e.trans a)
theorem EvAM.lift {ta : TA} {Rs : List VP} (e : Ex F F') (h : EvAM ta σ F M M1 Rs) : EvAM ta σ F' M M1 Rs := fun F1 H a => h F1 H (e.trans a)
theorem EvM.ent (h : EvM te σ F M M1 R) (i : Ent F R S) : EvM te σ F M M1 S := fun F1 H a c Q q => h F1 H a c Q fun F2 H2 v g r => q F2 H2 v g (i F2 v (a.trans g.f) r)
theorem ev_varV {i : Nat} (h : σ[i]? = some (some v)) : EvD (tVar i) σ F M (pV v) := fun F1 H a c Q q => ⟨v, h, q F1 H v (Gr.refl c) rfl⟩
theorem ev_c : EvD (tC v) σ F M (pV v) := fun F1 H a c Q q => q F1 H v (Gr.refl c) rfl
/-- two operands -/
def RvD (r : R2) (Ra Rb : VP) (F : Hp) (M : MM) (R : VP) : Prop := ∀ F1 H x y, Ex F F1 → Cn F1 M H → Ra F1 x → Rb F1 y → ∀ Q : VK, (∀ F2 H2 v, Gr M F1 H F2 H2 → R F2 v → Q v H2) → r x y H Q
theorem ev_op (ha : EvM ta σ F M M1 S) (hb : EvM tb σ F M1 M2 T) (hr : RvD r S T F M2 R) (hm : Mono S) : EvM (tOp r ta tb) σ F M M2 R := fun F1 H e c Q q =>
  ha F1 H e c _ fun F2 H2 x g hx => hb F2 H2 (e.trans g.f) g.c _ fun F3 H3 y g2 hy =>
    hr F3 H3 x y ((e.trans g.f).trans g2.f) g2.c (Mono.up F2 F3 x g2.f hx) hy Q fun F4 H4 v g3 hv => q F4 H4 v ((g.trans g2).trans g3) hv
def RuD (r : V → Hp → VK → Prop) (Ra : VP) (F : Hp) (M : MM) (R : VP) : Prop := ∀ F1 H x, Ex F F1 → Cn F1 M H → Ra F1 x → ∀ Q : VK, (∀ F2 H2 v, Gr M F1 H F2 H2 → R F2 v → Q v H2) → r x H Q
theorem ev_un {r : V → Hp → VK → Prop} (ha : EvM ta σ F M M1 S) (hr : RuD r S F M1 R) : EvM (tUn r ta) σ F M M1 R := fun F1 H e c Q q =>
  ha F1 H e c _ fun F2 H2 x g hx => hr F2 H2 x (e.trans g.f) g.c hx Q fun F3 H3 v g2 hv => q F3 H3 v (g.trans g2) hv
def RcD (r : List V → Hp → VK → Prop) (Rs : List VP) (F : Hp) (M : MM) (R : VP) : Prop := ∀ F1 H vs, Ex F F1 → Cn F1 M H → Al F1 Rs vs → ∀ Q : VK, (∀ F2 H2 v, Gr M F1 H F2 H2 → R F2 v → Q v H2) → r vs H Q
theorem ev_cb {r : List V → Hp → VK → Prop} {ta : TA} {Rs : List VP} (ha : EvAM ta σ F M M1 Rs) (hr : RcD r Rs F M1 R) : EvM (tCB r ta) σ F M M1 R := fun F1 H e c Q q =>
  ha F1 H e c _ fun F2 H2 x g hx => hr F2 H2 x (e.trans g.f) g.c hx Q fun F3 H3 v g2 hv => q F3 H3 v (g.trans g2) hv
theorem ea_nil : EvA tNil σ F M [] := fun F1 H e c Q q => q F1 H [] (Gr.refl c) .nil
theorem ea_cons {tr : TA} {Rs : List VP} (h : EvM ta σ F M M1 R) (hr : EvAM tr σ F M1 M2 Rs) (hm : Mono R) : EvAM (tCons ta tr) σ F M M2 (R :: Rs) := fun F1 H e c Q q =>
  h F1 H e c _ fun F2 H2 x g hx => hr F2 H2 (e.trans g.f) g.c _ fun F3 H3 xs g2 hxs => q F3 H3 (x :: xs) (g.trans g2) (.cons (Mono.up F2 F3 x g2.f hx) hxs)
/-! values -/
theorem rv_I0 {g : Int → Int → V} {i j : Int} : RvD (rI0 g) (pI i) (pI j) F M (pV (g i j)) := fun F1 H x y _ c hx hy Q q => ⟨i, j, hx, hy, q F1 H _ (Gr.refl c) rfl⟩
theorem rv_I {C : Int → Int → Prop} {g : Int → Int → V} {i j : Int} (hc : C i j) : RvD (rI C g) (pI i) (pI j) F M (pV (g i j)) := fun F1 H x y _ c hx hy Q q => ⟨i, j, hx, hy, hc, q F1 H _ (Gr.refl c) rfl⟩
theorem rv_eq (h : scal x y = true) : RvD rEq (pV x) (pV y) F M (pB (decide (x = y))) := fun F1 H x' y' _ c hx hy Q q => by
  rw [show x' = x from hx, show y' = y from hy]
  exact ⟨h, q F1 H _ (Gr.refl c) rfl⟩
theorem rv_ne (h : scal x y = true) : RvD rNe (pV x) (pV y) F M (pB (!decide (x = y))) := fun F1 H x' y' _ c hx hy Q q => by
  rw [show x' = x from hx, show y' = y from hy]
  exact ⟨h, q F1 H _ (Gr.refl c) rfl⟩
theorem ru_neg {i : Int} : RuD (rU fun i => .int (-i)) (pI i) F M (pI (-i)) := fun F1 H x _ c hx Q q => ⟨i, hx, q F1 H _ (Gr.refl c) rfl⟩
/-! tests -/
theorem et_test {b : Bool} (h : EvD te σ F M (pB b)) : EvT (tTest te) σ F M b := fun F1 H e c Q q => h F1 H e c _ fun F2 H2 v g hv => ⟨b, hv, q F2 H2 g⟩
theorem et_B {b : Bool} (h : EvD te σ F M (pB b)) : EvT (tB te) σ F M b := fun F1 H e c Q q => h F1 H e c _ fun F2 H2 v g hv => ⟨b, hv, q F2 H2 g⟩
theorem et_is {a b : Bool} (h : EvT t σ F M a) (e : a = b) : EvT t σ F M b := e ▸ h
theorem et_and {a b : Bool} (h1 : EvT t σ F M a) (h2 : a = true → EvT u σ F M b) : EvT (tAnd t u) σ F M (a && b) := fun F1 H e c Q q => h1 F1 H e c _ fun F2 H2 g => by
  cases a with
  | true =>
    show u σ H2 Q
    exact h2 rfl F2 H2 (e.trans g.f) g.c Q fun F3 H3 g2 => q F3 H3 (g.trans g2)
  | false =>
    show Q false H2
    exact q F2 H2 g
theorem et_or {a b : Bool} (h1 : EvT t σ F M a) (h2 : a = false → EvT u σ F M b) : EvT (tOr t u) σ F M (a || b) := fun F1 H e c Q q => h1 F1 H e c _ fun F2 H2 g => by
  cases a with
  | true =>
    show Q true H2
    exact q F2 H2 g
  | false =>
    show u σ H2 Q
    exact h2 rfl F2 H2 (e.trans g.f) g.c Q fun F3 H3 g2 => q F3 H3 (g.trans g2)
theorem et_not {a : Bool} (h1 : EvT t σ F M a) : EvT (tNot t) σ F M (!a) := fun F1 H e c Q q => h1 F1 H e c _ fun F2 H2 g => q F2 H2 g
theorem ev_andV {a b : Bool} (h1 : EvM ta σ F M M1 (pB a)) (h2 : a = true → EvD tb σ F M1 (pB b)) : EvM (tAndV ta tb) σ F M M1 (pB (a && b)) := fun F1 H e c Q q => h1 F1 H e c _ fun F2 H2 v g hv => ⟨a, hv, by
  cases a with
  | true =>
    show tb σ H2 Q
    exact h2 rfl F2 H2 (e.trans g.f) g.c Q fun F3 H3 v g2 => q F3 H3 v (g.trans g2)
  | false =>
    show Q (.bl false) H2
    exact q F2 H2 _ g rfl⟩
theorem ev_orV {a b : Bool} (h1 : EvM ta σ F M M1 (pB a)) (h2 : a = false → EvD tb σ F M1 (pB b)) : EvM (tOrV ta tb) σ F M M1 (pB (a || b)) := fun F1 H e c Q q => h1 F1 H e c _ fun F2 H2 v g hv => ⟨a, hv, by
  cases a with
  | true =>
    show Q (.bl true) H2
    exact q F2 H2 _ g rfl
  | false =>
    show tb σ H2 Q
    exact h2 rfl F2 H2 (e.trans g.f) g.c Q fun F3 H3 v g2 => q F3 H3 v (g.trans g2)⟩
theorem ev_notV {a : Bool} (h1 : EvM ta σ F M M1 (pB a)) : EvM (tNotV ta) σ F M M1 (pB (!a)) := fun F1 H e c Q q => h1 F1 H e c _ fun F2 H2 v g hv => ⟨a, hv, q F2 H2 _ g rfl⟩
theorem ev_if {b : Bool} (h : EvT t σ F M b) (h1 : b = true → EvD ta σ F M R) (h2 : b = false → EvD tb σ F M R) : EvD (tIf t ta tb) σ F M R := fun F1 H e c Q q => h F1 H e c _ fun F2 H2 g => by
  cases b with
  | true =>
    show ta σ H2 Q
    exact h1 rfl F2 H2 (e.trans g.f) g.c Q fun F3 H3 v g2 => q F3 H3 v (g.trans g2)
  | false =>
    show tb σ H2 Q
    exact h2 rfl F2 H2 (e.trans g.f) g.c Q fun F3 H3 v g2 => q F3 H3 v (g.trans g2)
/-! displays -/
theorem sz_of {n : Nat} (h : n ≤ 100000) : n ≤ sizeLine := Nat.le_trans h (by decide)
theorem sz_lt {n : Nat} (h : n < 100000) : n < sizeLine := Nat.lt_of_lt_of_le h (by decide)
theorem ev_tup {ta : TA} {Rs : List VP} (h : EvAM ta σ F M M1 Rs) (hl : Rs.length ≤ 100000) (hm : Monos Rs) : EvM (tTup ta) σ F M M1 (pTt Rs) := fun F1 H a c Q q =>
  h F1 H a c _ fun F2 H2 vs g hv => ⟨sz_of (by rw [← hv.length]; exact hl), fun p hp => q (upd F2 p (.tup vs)) _ _ (g.trans (Gr.new g.c hp)) ⟨p, vs, rfl, upd_same, Monos.up F2 _ _ (Ex.new (g.c.fnone hp)) hv⟩⟩
theorem ev_lst {ta : TA} {Rs : List VP} (h : EvAM ta σ F M M1 Rs) (hl : Rs.length ≤ 100000) (hm : Monos Rs) : EvM (tLst ta) σ F M M1 (pL Rs) := fun F1 H a c Q q =>
  h F1 H a c _ fun F2 H2 vs g hv => ⟨sz_of (by rw [← hv.length]; exact hl), fun p hp => q (upd F2 p (.lst vs)) _ _ (g.trans (Gr.new g.c hp)) ⟨p, vs, rfl, upd_same, Monos.up F2 _ _ (Ex.new (g.c.fnone hp)) hv⟩⟩
theorem GrM.onone {H H2 F1 F2 : Hp} (g : GrM M M1 F1 H F2 H2) {p : Addr} (hp : H2 p = none) : H p = none := by
  cases z : H p with
  | none => rfl
  | some o => exact absurd hp (g.ne (ne_some z))
/-- .. that will change -/
theorem en_lst {ta : TA} {Rs : List VP} (h : EvAM ta σ F M M1 Rs) (hl : Rs.length ≤ 100000) : EvNM (tLst ta) σ F M M1 (fun F o => ∃ vs, o = .lst vs ∧ Al F Rs vs) := fun F1 H a c Q q =>
  h F1 H a c _ fun F2 H2 vs g hv => ⟨sz_of (by rw [← hv.length]; exact hl), fun p hp => q F2 _ p _ (g.trans (Gr.lay g.c hp)) (g.onone hp) upd_same (g.c.fnone hp) ⟨vs, rfl, hv⟩⟩
theorem en_dnew : EvN tDNewK σ F M (fun _ o => o = .dK []) := fun F1 H a c Q q p hp => q F1 _ p _ (Gr.lay c hp) hp upd_same (c.fnone hp) rfl
theorem ev_N {O : Hp → HO → Prop} (h : EvNM te σ F M M1 O) (i : ∀ F1 F2 p o, Ex F F1 → F1 p = none → O F1 o → Ex F1 F2 → F2 p = some o → R F2 (.ref p)) : EvM te σ F M M1 R := fun F1 H a c Q q =>
  h F1 H a c Q fun F2 H2 p o g h1 h2 h3 ho => q (upd F2 p o) H2 _ (g.fix c h1 h2) (i F2 _ p o (a.trans g.f) h3 ho (Ex.new h3) upd_same)
end


/-! results that are not known, but of a kind -/
def pEx {α : Type} (R : α → VP) : VP := fun F v => ∃ a, R a F v
instance {α : Type} {R : α → VP} [h : ∀ a, Mono (R a)] : Mono (pEx R) := ⟨fun F F' v e ⟨a, q⟩ => ⟨a, Mono.up F F' v e q⟩⟩
section
variable {K : PySem.W.Frag} {σ : St} {F F' : Hp} {M M1 M2 M3 : MM} {ta tb te tx : TE} {t u : TT} {x y z v : V} {r : R2} {R S T : VP} {α : Type}
theorem rv_exL {A B : α → VP} (h : ∀ a, RvD r (A a) T F M (B a)) : RvD r (pEx A) T F M (pEx B) := fun F1 H x y e c ⟨a, hx⟩ hy Q q => h a F1 H x y e c hx hy Q fun F2 H2 v g hv => q F2 H2 v g ⟨a, hv⟩
theorem rv_exR {A B : α → VP} (h : ∀ a, RvD r S (A a) F M (B a)) : RvD r S (pEx A) F M (pEx B) := fun F1 H x y e c hx ⟨a, hy⟩ Q q => h a F1 H x y e c hx hy Q fun F2 H2 v g hv => q F2 H2 v g ⟨a, hv⟩
theorem ent_ex {A : α → VP} (h : ∀ a, Ent F (A a) S) : Ent F (pEx A) S := fun F1 v e ⟨a, q⟩ => h a F1 v e q
theorem ent_toEx {A : α → VP} (a : α) : Ent F (A a) (pEx A) := fun F1 v e q => ⟨a, q⟩
theorem etM_test {P : Bool → Prop} (h : EvM te σ F M M1 R) (hr : ∀ F v, R F v → ∃ b, v = .bl b ∧ P b) : EvTM (tTest te) σ F M M1 P := fun F1 H e c Q q => h F1 H e c _ fun F2 H2 v g hv => by
  obtain ⟨b, e1, e2⟩ := hr F2 v hv
  exact ⟨b, e1, q b F2 H2 g e2⟩
theorem etM_B {P : Bool → Prop} (h : EvM te σ F M M1 R) (hr : ∀ F v, R F v → ∃ b, v = .bl b ∧ P b) : EvTM (tB te) σ F M M1 P := fun F1 H e c Q q => h F1 H e c _ fun F2 H2 v g hv => by
  obtain ⟨b, e1, e2⟩ := hr F2 v hv
  exact ⟨b, e1, q b F2 H2 g e2⟩
theorem etM_not {P : Bool → Prop} (h : EvTM t σ F M M1 P) : EvTM (tNot t) σ F M M1 (fun b => P (!b)) := fun F1 H e c Q q => h F1 H e c _ fun b F2 H2 g hb => q (!b) F2 H2 g (by show P (!!b); rw [Bool.not_not]; exact hb)
end
/-! ### what a def promises: pre of its arguments, side conditions, res of its value; nothing else is changed but what may -/
structure Con where
  α : Type
  pre : α → List VP
  side : α → MM → Prop
  res : α → VP
  cost : α → Nat := fun _ => 0
def Con.sp (c : Con) : Sp := fun vs H Q _ => ∃ (F : Hp) (M : MM) (a : c.α), Cn F M H ∧ Al F (c.pre a) vs ∧ c.side a M ∧ ∀ F' H' v, GrM M (M.add (c.cost a)) F H F' H' → c.res a F' v → Q v H'
section
variable {K : PySem.W.Frag} {σ : St} {F F' : Hp} {M M1 M2 : MM} {ta tb te tx : TE} {R S T : VP}
theorem ev_callD (c : Con) (a : c.α) {t : TA} {Rs Ds : List VP} {dvs : List V} {E : XK} (h : EvAM t σ F M M1 Rs) (hd : Al F Ds dvs) (he : Ents F (Rs ++ Ds) (c.pre a)) (hs : c.side a M1) (hm : Monos Ds) : EvM (tCall c.sp dvs E t) σ F M (M1.add (c.cost a)) (c.res a) := fun F1 H e k Q q =>
  h F1 H e k _ fun F2 H2 vs g hv =>
    ⟨F2, M1, a, g.c, he.al (e.trans g.f) (hv.app (Monos.up F F2 _ (e.trans g.f) hd)), hs, fun F3 H3 v g2 r => q F3 H3 v (g.trans g2) r⟩
end

/-! ### where a body stands -/
structure Bx (F0 : Hp) (Me : MM) (H0 : Hp) (F : Hp) (M : MM) (H : Hp) : Prop where
  b : Cn F0 Me H0
  cn : Cn F M H
  f : Ex F0 F
  k : ∀ a o, Me.f a = none → H0 a = some o → H a = some o
  m : ∀ a φ, Me.f a = some φ → M.f a = some φ
  w : ∀ a, M.f a ≠ none → Me.f a ≠ none ∨ H0 a = none
  l : M.l = Me.l
  n : ∀ a, F0 a = none → H0 a ≠ none → F a = none
  nn : M.n ≤ Me.n
section
variable {F0 H0 F F' H H' : Hp} {Me M M1 : MM}
theorem Bx.start (c : Cn F M H) : Bx F M H F M H := ⟨c, c, Ex.refl F, fun _ _ _ h => h, fun _ _ h => h, fun _ h => .inl h, rfl, fun _ h _ => h, Nat.le_refl _⟩
theorem Bx.startK (c : Cn F M H) (k : Nat) : Bx F (M.add k) H F M H := ⟨c.weak k, c, Ex.refl F, fun _ _ _ h => h, fun _ _ h => h, fun _ h => .inl h, rfl, fun _ h _ => h, Nat.le_add_right _ _⟩
theorem Bx.cn0 (c : Bx F0 Me H0 F M H) : Cn F Me H := by
  have cw := c.cn.weak (Me.n - M.n)
  refine ⟨fun a o q => ?_, fun a φ q => ?_, fun a q => ?_, fun a ob q => c.cn.lk a ob (by rw [c.l]; exact q), fun a φ q => c.cn.up a φ (c.m a φ q)⟩
  · rcases c.cn.ex a o q with z | ⟨ob, kvs, y, z⟩
    · exact .inl z
    · exact .inr ⟨ob, kvs, by rw [← c.l]; exact y, z⟩
  · obtain ⟨o, e, w⟩ := cw.sat a φ (c.m a φ q)
    have en : M.n + (Me.n - M.n) = Me.n := by have := c.nn; omega
    have w : φ (M.n + (Me.n - M.n)) o := w
    rw [en] at w
    exact ⟨o, e, w⟩
  · cases z : Me.f a with
    | none => exact absurd z q
    | some φ => exact c.cn.dis a (by rw [c.m a φ z]; intro y; cases y)
theorem Bx.gr (c : Bx F0 Me H0 F M H) : Gr Me F0 H0 F H := ⟨c.f, c.cn0, c.k, c.n, rfl, rfl⟩
theorem Bx.ne (c : Bx F0 Me H0 F M H) {a : Addr} (h : H0 a ≠ none) : H a ≠ none := c.gr.ne h
theorem Bx.old (c : Bx F0 Me H0 F M H) {a : Addr} (h : H a = none) : H0 a = none := c.gr.onone h
theorem Bx.goM (c : Bx F0 Me H0 F M H) (g : GrM M M1 F H F' H') (hn : M1.n ≤ Me.n) : Bx F0 Me H0 F' M1 H' := by
  refine ⟨c.b, g.c, c.f.trans g.f, fun a o q h => ?_, fun a φ q => by rw [g.ef]; exact c.m a φ q, fun a q => c.w a (by rw [← g.ef]; exact q), g.el.trans c.l, fun a h q => g.n a (c.n a h q) (c.ne q), hn⟩
  cases z : M.f a with
  | none => exact g.k a o z (c.k a o q h)
  | some φ =>
    rcases c.w a (by rw [z]; intro y; cases y) with y | y
    · exact absurd q y
    · rw [h] at y; cases y
theorem Bx.go (c : Bx F0 Me H0 F M H) (g : Gr M F H F' H') : Bx F0 Me H0 F' M H' := c.goM g c.nn
/-- p, new since the entry, may change from now on -/
theorem Bx.own (c : Bx F0 Me H0 F M H) {p : Addr} {o : HO} {φ : Nat → HO → Prop} (h0 : H0 p = none) (hp : H p = some o) (hF : F p = none) (w : φ M.n o) (hu : ∀ n o, φ n o → φ (n + 1) o) : Bx F0 Me H0 F (mput M p φ) H := by
  have hm := c.b.mnone h0
  refine ⟨c.b, c.cn.put hp hF w hu, c.f, c.k, fun a ψ q => ?_, fun a q => ?_, c.l, c.n, c.nn⟩
  · rw [mput_ne (fun z => by rw [z, hm] at q; cases q)]
    exact c.m a ψ q
  · by_cases z : a = p
    · exact .inr (z ▸ h0)
    · rw [mput_ne z] at q
      exact c.w a q
/-- .. is changed -/
theorem Bx.set (c : Bx F0 Me H0 F M H) {p : Addr} {o : HO} {φ : Nat → HO → Prop} (h0 : H0 p = none) (hp : M.f p ≠ none) (w : φ M.n o) (hu : ∀ n o, φ n o → φ (n + 1) o) (hd : ∀ ob kvs, H p ≠ some (.frz ob (.dK kvs))) : Bx F0 Me H0 F (mput M p φ) (upd H p o) := by
  have hm := c.b.mnone h0
  have hF := c.cn.dis p hp
  have on : ∀ a u, a ≠ p → H a = some u → upd H p o a = some u := fun a u z q => by rw [upd_ne z]; exact q
  refine ⟨c.b, ⟨fun a u q => ?_, fun a ψ q => ?_, fun a q => ?_, fun a ob q => ?_, fun a ψ q => ?_⟩, c.f, fun a u q h => ?_, fun a ψ q => ?_, fun a q => ?_, c.l, c.n, c.nn⟩
  · have z : a ≠ p := fun z => by rw [z, hF] at q; cases q
    rcases c.cn.ex a u q with y | ⟨ob, kvs, y, e, y2⟩
    · exact .inl (on a u z y)
    · exact .inr ⟨ob, kvs, y, e, on a _ z y2⟩
  · by_cases z : a = p
    · subst z
      rw [mput_same] at q
      cases q
      exact ⟨o, upd_same, w⟩
    · rw [mput_ne z] at q
      obtain ⟨u, e, y⟩ := c.cn.sat a ψ q
      exact ⟨u, on a u z e, y⟩
  · by_cases z : a = p
    · exact z ▸ hF
    · rw [mput_ne z] at q
      exact c.cn.dis a q
  · obtain ⟨kvs, e⟩ := c.cn.lk a ob q
    exact ⟨kvs, on a _ (fun z => hd ob kvs (z ▸ e)) e⟩
  · by_cases z : a = p
    · subst z
      rw [mput_same] at q
      cases q
      exact hu
    · rw [mput_ne z] at q
      exact c.cn.up a ψ q
  · exact on a u (fun z => by rw [z, h0] at h; cases h) (c.k a u q h)
  · rw [mput_ne (fun z => by rw [z, hm] at q; cases q)]
    exact c.m a ψ q
  · by_cases z : a = p
    · exact .inr (z ▸ h0)
    · rw [mput_ne z] at q
      exact c.w a q
/-- .. is frozen -/
theorem Bx.fix (c : Bx F0 Me H0 F M H) {p : Addr} {o : HO} (h0 : H0 p = none) (hp : H p = some o) : Bx F0 Me H0 (upd F p o) (mdel M p) H := by
  have hm := c.b.mnone h0
  refine ⟨c.b, ⟨fun a u q => ?_, fun a ψ q => ?_, fun a q => ?_, c.cn.lk, fun a ψ q => ?_⟩, c.f.put (c.b.fnone h0), c.k, fun a ψ q => ?_, fun a q => ?_, c.l, fun a q h => ?_, c.nn⟩
  · by_cases z : a = p
    · subst z
      rw [upd_same] at q
      cases q
      exact .inl hp
    · rw [upd_ne z] at q
      exact c.cn.ex a u q
  · by_cases z : a = p
    · subst z
      rw [mdel_same] at q
      cases q
    · rw [mdel_ne z] at q
      exact c.cn.sat a ψ q
  · by_cases z : a = p
    · exact absurd (by rw [z]; exact mdel_same) q
    · rw [mdel_ne z] at q
      rw [upd_ne z]
      exact c.cn.dis a q
  · by_cases z : a = p
    · subst z
      rw [mdel_same] at q
      cases q
    · rw [mdel_ne z] at q
      exact c.cn.up a ψ q
  · rw [mdel_ne (fun z => by rw [z, hm] at q; cases q)]
    exact c.m a ψ q
  · by_cases z : a = p
    · exact absurd (by rw [z]; exact mdel_same) q
    · rw [mdel_ne z] at q
      exact c.w a q
  · rw [upd_ne (fun z => h (by rw [z, h0]))]
    exact c.n a q h
theorem Bx.at_ (c : Bx F0 Me H0 F M H) {p : Addr} {o : HO} (h : M.f p = some (eqo o)) : H p = some o := c.cn.at2 h
theorem Bx.fn (c : Bx F0 Me H0 F M H) {p : Addr} {φ : Nat → HO → Prop} (h : M.f p = some φ) : F p = none := c.cn.dis p (by rw [h]; intro z; cases z)
/-- a changing object that is done with is frozen -/
theorem Bx.done (c : Bx F0 Me H0 F M H) {p : Addr} {o : HO} (h0 : H0 p = none) (h : M.f p = some (eqo o)) : Bx F0 Me H0 (upd F p o) (mdel M p) H ∧ Ex F (upd F p o) := ⟨c.fix h0 (c.at_ h), Ex.new (c.fn h)⟩
end

/-! ### statements -/
section
variable {K : PySem.W.Frag} {σ : St} {F0 H0 F H : Hp} {Me M M1 : MM} {ta tb te tx : TE} {R S : VP} {D : Ends} {tu tw tz : TS} {t : TT} {i : Nat} {v : V}
/-- M' is M but that o stands at p -/
structure Mp (M M' : MM) (p : Addr) (o : HO) : Prop where
  at_ : M'.f p = some (eqo o)
  ne : ∀ b, b ≠ p → M'.f b = M.f b
  l : M'.l = M.l
  n : M'.n = M.n
theorem Mp.put {M : MM} {p : Addr} {o : HO} : Mp M (mput M p (eqo o)) p o := ⟨mput_same, fun _ h => mput_ne h, rfl, rfl⟩
/-- name = e -/
theorem q_asg (c : Bx F0 Me H0 F M H) (h : EvD te σ F M R) (q : ∀ F' H' v, Bx F0 Me H0 F' M H' → Ex F F' → Kn R F' v → tz D (σ.set i (some v)) H') : tSeq (tAsg te (gName i)) tz D σ H :=
  h F H (Ex.refl F) c.cn _ fun F' H' v g r => q F' H' v (c.go g) g.f ⟨r⟩
theorem s_asg (c : Bx F0 Me H0 F M H) (h : EvD te σ F M R) (q : ∀ F' H' v, Bx F0 Me H0 F' M H' → Ex F F' → Kn R F' v → D.nx (σ.set i (some v)) H') : tAsg te (gName i) D σ H :=
  h F H (Ex.refl F) c.cn _ fun F' H' v g r => q F' H' v (c.go g) g.f ⟨r⟩
/-- .. of a known value -/
theorem q_asgV (c : Bx F0 Me H0 F M H) (h : EvD te σ F M (pV v)) (q : ∀ F' H', Bx F0 Me H0 F' M H' → Ex F F' → tz D (σ.set i (some v)) H') : tSeq (tAsg te (gName i)) tz D σ H :=
  h F H (Ex.refl F) c.cn _ fun F' H' w g r => by rw [show w = v from r]; exact q F' H' (c.go g) g.f
theorem s_asgV (c : Bx F0 Me H0 F M H) (h : EvD te σ F M (pV v)) (q : ∀ F' H', Bx F0 Me H0 F' M H' → Ex F F' → D.nx (σ.set i (some v)) H') : tAsg te (gName i) D σ H :=
  h F H (Ex.refl F) c.cn _ fun F' H' w g r => by rw [show w = v from r]; exact q F' H' (c.go g) g.f
/-- .. of a new object that will change -/
theorem q_asgN {O : Hp → HO → Prop} (c : Bx F0 Me H0 F M H) (h : EvN te σ F M O) (q : ∀ F' H' M' p o, Bx F0 Me H0 F' M' H' → Ex F F' → Mp M M' p o → H0 p = none → M.f p = none → O F' o → tz D (σ.set i (some (.ref p))) H') : tSeq (tAsg te (gName i)) tz D σ H :=
  h F H (Ex.refl F) c.cn _ fun F' H' p o g h1 h2 h3 ho => q F' H' _ p o ((c.go g).own (c.old h1) h2 h3 rfl fun _ _ h => h) g.f Mp.put (c.old h1) (c.cn.mnone h1) ho
theorem s_ret (c : Bx F0 Me H0 F M H) (h : EvD te σ F M R) (q : ∀ F' H' v, Gr Me F0 H0 F' H' → R F' v → D.rt v H') : tRet te D σ H :=
  h F H (Ex.refl F) c.cn _ fun F' H' v g r => q F' H' v (c.go g).gr r
theorem s_retE (c : Bx F0 Me H0 F M H) (q : ∀ F' H' v, Gr Me F0 H0 F' H' → S F' v → D.rt v H') (h : EvD te σ F M R) (e : Ent F R S) : tRet te D σ H :=
  s_ret c (h.ent e) q
theorem q_drop (c : Bx F0 Me H0 F M H) (h : EvD te σ F M R) (q : ∀ F' H', Bx F0 Me H0 F' M H' → Ex F F' → tz D σ H') : tSeq (tDrop te) tz D σ H :=
  h F H (Ex.refl F) c.cn _ fun F' H' _ g _ => q F' H' (c.go g) g.f
theorem s_drop (c : Bx F0 Me H0 F M H) (h : EvD te σ F M R) (q : ∀ F' H', Bx F0 Me H0 F' M H' → Ex F F' → D.nx σ H') : tDrop te D σ H :=
  h F H (Ex.refl F) c.cn _ fun F' H' _ g _ => q F' H' (c.go g) g.f
theorem q_if {b : Bool} (c : Bx F0 Me H0 F M H) (h : EvT t σ F M b) (h1 : b = true → ∀ F' H', Bx F0 Me H0 F' M H' → Ex F F' → tu { D with nx := tz D } σ H') (h2 : b = false → ∀ F' H', Bx F0 Me H0 F' M H' → Ex F F' → tw { D with nx := tz D } σ H') : tSeq (tIfS t tu tw) tz D σ H :=
  h F H (Ex.refl F) c.cn _ fun F' H' g => by
    cases b with
    | true => exact h1 rfl F' H' (c.go g) g.f
    | false => exact h2 rfl F' H' (c.go g) g.f
theorem s_if {b : Bool} (c : Bx F0 Me H0 F M H) (h : EvT t σ F M b) (h1 : b = true → ∀ F' H', Bx F0 Me H0 F' M H' → Ex F F' → tu D σ H') (h2 : b = false → ∀ F' H', Bx F0 Me H0 F' M H' → Ex F F' → tw D σ H') : tIfS t tu tw D σ H :=
  h F H (Ex.refl F) c.cn _ fun F' H' g => by
    cases b with
    | true => exact h1 rfl F' H' (c.go g) g.f
    | false => exact h2 rfl F' H' (c.go g) g.f
/-- an if without else -/
theorem q_when {b : Bool} (c : Bx F0 Me H0 F M H) (h : EvT t σ F M b) (h1 : b = true → ∀ F' H', Bx F0 Me H0 F' M H' → Ex F F' → tu { D with nx := tz D } σ H') (h2 : b = false → ∀ F' H', Bx F0 Me H0 F' M H' → Ex F F' → tz D σ H') : tSeq (tIfS t tu tNext) tz D σ H := q_if c h h1 h2
/-! with draws -/
theorem q_asgM (c : Bx F0 Me H0 F M H) (h : EvM te σ F M M1 R) (hn : M1.n ≤ Me.n) (q : ∀ F' H' v, Bx F0 Me H0 F' M1 H' → Ex F F' → Kn R F' v → tz D (σ.set i (some v)) H') : tSeq (tAsg te (gName i)) tz D σ H :=
  h F H (Ex.refl F) c.cn _ fun F' H' v g r => q F' H' v (c.goM g hn) g.f ⟨r⟩
theorem q_asgNM {O : Hp → HO → Prop} (c : Bx F0 Me H0 F M H) (h : EvNM te σ F M M1 O) (hn : M1.n ≤ Me.n) (q : ∀ F' H' M' p o, Bx F0 Me H0 F' M' H' → Ex F F' → Mp M1 M' p o → H0 p = none → M1.f p = none → O F' o → tz D (σ.set i (some (.ref p))) H') : tSeq (tAsg te (gName i)) tz D σ H :=
  h F H (Ex.refl F) c.cn _ fun F' H' p o g h1 h2 h3 ho => q F' H' _ p o ((c.goM g hn).own (c.old h1) h2 h3 rfl fun _ _ h => h) g.f Mp.put (c.old h1) (by rw [g.ef]; exact c.cn.mnone h1) ho
theorem s_retM (c : Bx F0 Me H0 F M H) (h : EvM te σ F M M1 R) (hn : M1.n ≤ Me.n) (q : ∀ F' H' v, Gr Me F0 H0 F' H' → R F' v → D.rt v H') : tRet te D σ H :=
  h F H (Ex.refl F) c.cn _ fun F' H' v g r => q F' H' v (c.goM g hn).gr r
theorem q_dropM (c : Bx F0 Me H0 F M H) (h : EvM te σ F M M1 R) (hn : M1.n ≤ Me.n) (q : ∀ F' H', Bx F0 Me H0 F' M1 H' → Ex F F' → tz D σ H') : tSeq (tDrop te) tz D σ H :=
  h F H (Ex.refl F) c.cn _ fun F' H' _ g _ => q F' H' (c.goM g hn) g.f
theorem q_ifM {P : Bool → Prop} (c : Bx F0 Me H0 F M H) (h : EvTM t σ F M M1 P) (hn : M1.n ≤ Me.n) (h1 : P true → ∀ F' H', Bx F0 Me H0 F' M1 H' → Ex F F' → tu { D with nx := tz D } σ H') (h2 : P false → ∀ F' H', Bx F0 Me H0 F' M1 H' → Ex F F' → tw { D with nx := tz D } σ H') : tSeq (tIfS t tu tw) tz D σ H :=
  h F H (Ex.refl F) c.cn _ fun b F' H' g hb => by
    cases b with
    | true => exact h1 hb F' H' (c.goM g hn) g.f
    | false => exact h2 hb F' H' (c.goM g hn) g.f
end
end Fw
end

section
namespace Fw
open PySem L2
/-- a def that may be called -/
structure Cal (P : Program) (w : World) (K : PySem.W.Frag) (mg : Str → Option Value) (base : Heap) (k : Nat) (x : Str) (ps : List Str) (sp : Sp) : Prop where
  ex : ∃ (f : Addr) (fd : FuncData), FnOk P w K mg base CX0 k f fd ps sp ∧ Binds K fd ps [] ∧ PySem.W.keepIn K (.ref f) = true ∧ mg x = some (.ref f)
section
variable {X : L2.Cx} {x : Str} {k : Nat} {ps : List Str} {c : Con} {e : Expr} {es : List Expr} {t : TA} {p pos : Pos}
theorem pe_callC (C : Cal X.prog X.w X.K X.mg X.base k x ps c.sp) (hr : Room k X.A) (hg : Gl X x) (ha : PA X (e :: es) t)
    (hdb : (x == ("__debug__" : Str)) = false := by decide) (he : starEach (e :: es) X.env = (false, eval e X.env) :: starEach es X.env := by rfl) (hpl : (backTo pos (starEach es X.env)).any (·.1) = false := by rfl) :
    PE X (.Call (.Name x p) (e :: es) [] pos) (tCall c.sp [] E0 t) := by
  obtain ⟨f, fd, F, b, kp, g⟩ := C.ex
  exact pe_call F hr hg g kp b .nil pass0 ha hdb he hpl
end
/-! ### kinds of things -/
inductive DK where
  | non | bl | int | str | lst | tup | dic | own (C : Addr)
def DK.t : DK → Value
  | .non => .type "NoneType"
  | .bl => .type "bool"
  | .int => .type "int"
  | .str => .type "str"
  | .lst => .type "list"
  | .tup => .type "tuple"
  | .dic => .type "dict"
  | .own C => .ref C
/-- an own class that is none of the built-in ones -/
def OwnC (K : PySem.W.Frag) (C : Addr) : Prop := PySem.W.kitOne K (.ref C) (.type "int") = some false ∧ PySem.W.kitOne K (.ref C) (.type "bool") = some false ∧ PySem.W.kitOne K (.ref C) (.type "str") = some false ∧
  PySem.W.kitOne K (.ref C) (.type "list") = some false ∧ PySem.W.kitOne K (.ref C) (.type "tuple") = some false
def DK.Ok (K : PySem.W.Frag) : DK → Prop
  | .own C => OwnC K C
  | _ => True
def DK.isInt : DK → Bool
  | .bl => true
  | .int => true
  | _ => false
def DK.isBl : DK → Bool
  | .bl => true
  | _ => false
def DK.isStr : DK → Bool
  | .str => true
  | _ => false
def DK.isSeq : DK → Bool
  | .lst => true
  | .tup => true
  | _ => false
def DK.isNum : DK → Bool
  | .int => true
  | _ => false
/-- a thing of a kind -/
def pKd (K : PySem.W.Frag) (k : DK) : VP := fun F w => TyX K F w k.t ∧ k.Ok K
theorem tyX_up {K : PySem.W.Frag} {F H : Hp} {v : V} {t : Value} (e : Ex F H) (h : TyX K F v t) : TyX K H v t := by
  cases h with
  | base b =>
    cases b with
    | non => exact .base .non
    | bl x => exact .base (.bl x)
    | int x => exact .base (.int x)
    | str x => exact .base (.str x)
    | flt x => exact .base (.flt x)
    | lst h => exact .base (.lst (e _ _ h))
    | frz h => exact .base (.frz (e _ _ h))
    | tup h => exact .base (.tup (e _ _ h))
    | dK h => exact .base (.dK (e _ _ h))
    | dT h => exact .base (.dT (e _ _ h))
    | ins h a b c d f => exact .base (.ins (e _ _ h) a b c d f)
  | byt b => exact .byt b
  | set h => exact .set (e _ _ h)
  | kList a b => exact .kList a b
  | kTuple a b => exact .kTuple a b
  | kDict a b => exact .kDict a b
  | fTuple h => exact .fTuple (e _ _ h)
  | fDict h => exact .fDict (e _ _ h)
theorem tyX_cn {K : PySem.W.Frag} {F H : Hp} {M : MM} {v : V} {t : Value} (c : Cn F M H) (h : TyX K F v t) : TyX K H v t := by
  cases h with
  | base b =>
    cases b with
    | non => exact .base .non
    | bl x => exact .base (.bl x)
    | int x => exact .base (.int x)
    | str x => exact .base (.str x)
    | flt x => exact .base (.flt x)
    | lst h => exact .base (.lst (c.lst h))
    | frz h => exact .base (.frz (c.frz h))
    | tup h => exact .base (.tup (c.tup h))
    | dK h =>
      rcases c.dk h with z | ⟨o, z⟩
      · exact .base (.dK z)
      · exact .fDict z
    | dT h => exact .base (.dT (c.at_ h fun _ z => by cases z))
    | ins h a b c' d f => exact .base (.ins (c.ins h) a b c' d f)
  | byt b => exact .byt b
  | set h => exact .set (c.at_ h fun _ z => by cases z)
  | kList a b => exact .kList a b
  | kTuple a b => exact .kTuple a b
  | kDict a b => exact .kDict a b
  | fTuple h => exact .fTuple (c.frz h)
  | fDict h => exact .fDict (c.frz h)
instance {K : PySem.W.Frag} {k : DK} : Mono (pKd K k) := ⟨fun F F' w e h => ⟨tyX_up e h.1, h.2⟩⟩
theorem kit_int {K : PySem.W.Frag} {k : DK} (h : k.Ok K) : PySem.W.kitOne K k.t (.type "int") = some k.isInt := by
  cases k with
  | own C => exact h.1
  | _ => exact L2.kit_ty (by decide +kernel)
theorem kit_bool {K : PySem.W.Frag} {k : DK} (h : k.Ok K) : PySem.W.kitOne K k.t (.type "bool") = some k.isBl := by
  cases k with
  | own C => exact h.2.1
  | _ => exact L2.kit_ty (by decide +kernel)
theorem kit_str {K : PySem.W.Frag} {k : DK} (h : k.Ok K) : PySem.W.kitOne K k.t (.type "str") = some k.isStr := by
  cases k with
  | own C => exact h.2.2.1
  | _ => exact L2.kit_ty (by decide +kernel)
def DK.isLst : DK → Bool
  | .lst => true
  | _ => false
def DK.isTup : DK → Bool
  | .tup => true
  | _ => false
theorem kit_lst {K : PySem.W.Frag} {k : DK} (h : k.Ok K) : PySem.W.kitOne K k.t (.type "list") = some k.isLst := by
  cases k with
  | own C => exact h.2.2.2.1
  | _ => exact L2.kit_ty (by decide +kernel)
theorem kit_tup {K : PySem.W.Frag} {k : DK} (h : k.Ok K) : PySem.W.kitOne K k.t (.type "tuple") = some k.isTup := by
  cases k with
  | own C => exact h.2.2.2.2
  | _ => exact L2.kit_ty (by decide +kernel)
theorem kit_seq {K : PySem.W.Frag} {k : DK} (h : k.Ok K) : PySem.W.kitAny K k.t [.type "list", .type "tuple"] = some k.isSeq := by
  unfold PySem.W.kitAny
  rw [kit_lst h]
  unfold PySem.W.kitAny
  rw [kit_tup h]
  unfold PySem.W.kitAny
  cases k <;> rfl

/-! ### isinstance -/
section
variable {K : PySem.W.Frag} {σ : St} {F F' : Hp} {M : MM} {v c : V} {k : DK} {S : VP}
theorem rc_isi {u : Value} {b : Bool} (hc : ClsV c u) (h : Ent F S (pKd K k)) (e : k.Ok K → PySem.W.kitOne K k.t u = some b) : RcD (rIsi K) [S, pV c] F M (pB b) := fun F1 H vs a cn hv Q q => by
  cases hv with
  | cons h1 h2 =>
    cases h2 with
    | cons h3 h4 =>
      cases h4
      rw [show _ = c from h3]
      obtain ⟨t1, t2⟩ := h F1 _ a h1
      exact ⟨_, c, k.t, u, b, rfl, hc, tyX_cn cn t1, e t2, q F1 H _ (Gr.refl cn) rfl⟩
theorem rc_isInt (h : Ent F S (pKd K k)) : RcD (rIsi K) [S, pV (.ty "int")] F M (pB k.isInt) := rc_isi (.ty _) h kit_int
theorem rc_isBool (h : Ent F S (pKd K k)) : RcD (rIsi K) [S, pV (.ty "bool")] F M (pB k.isBl) := rc_isi (.ty _) h kit_bool
theorem rc_isStr (h : Ent F S (pKd K k)) : RcD (rIsi K) [S, pV (.ty "str")] F M (pB k.isStr) := rc_isi (.ty _) h kit_str
theorem rc_isList (h : Ent F S (pKd K k)) : RcD (rIsi K) [S, pV (.ty "list")] F M (pB k.isLst) := rc_isi (.ty _) h kit_lst
theorem rc_isTuple (h : Ent F S (pKd K k)) : RcD (rIsi K) [S, pV (.ty "tuple")] F M (pB k.isTup) := rc_isi (.ty _) h kit_tup
theorem rc_isSeq (h : Ent F S (pKd K k)) : RcD (rIsiT K) [S, pTt [pV (.ty "list"), pV (.ty "tuple")]] F M (pB k.isSeq) := fun F1 H vs a cn hv Q q => by
  cases hv with
  | cons h1 h2 =>
    cases h2 with
    | cons h3 h4 =>
      cases h4
      obtain ⟨p, xs, e1, e2, e3⟩ := h3
      cases e3 with
      | cons a1 e3 =>
        cases e3 with
        | cons a2 e3 =>
          cases e3
          rw [e1]
          rw [show _ = V.ty "list" from a1, show _ = V.ty "tuple" from a2] at e2
          obtain ⟨t1, t2⟩ := h F1 _ a h1
          exact ⟨_, p, _, k.t, [.type "list", .type "tuple"], _, rfl, cn.tup e2, .cons (.ty _) (.cons (.ty _) .nil), tyX_cn cn t1, kit_seq t2, q F1 H _ (Gr.refl cn) rfl⟩
/-- known things are of their kind -/
theorem kd_int {i : Int} : Ent F (pI i) (pKd K .int) := fun F1 v _ h => by rw [show v = _ from h]; exact ⟨.base (.int i), trivial⟩
theorem kd_bl {b : Bool} : Ent F (pB b) (pKd K .bl) := fun F1 v _ h => by rw [show v = _ from h]; exact ⟨.base (.bl b), trivial⟩
theorem kd_str {s : Str} : Ent F (pS s) (pKd K .str) := fun F1 v _ h => by rw [show v = _ from h]; exact ⟨.base (.str s), trivial⟩
theorem kd_non : Ent F pN (pKd K .non) := fun F1 v _ h => by rw [show v = _ from h]; exact ⟨.base .non, trivial⟩
theorem sqL_ty {a : Addr} {xs : List V} (h : SqL K F a xs) : TyX K F (.ref a) (.type "list") := by
  rcases h with (h | ⟨o, h⟩) | ⟨o, _, _, e, c, _⟩
  · exact .base (.lst h)
  · exact .base (.frz h)
  · exact .kList e c
theorem sqT_ty {a : Addr} {xs : List V} (h : SqT K F a xs) : TyX K F (.ref a) (.type "tuple") := by
  rcases h with (h | ⟨o, h⟩) | ⟨o, _, _, e, c, _⟩
  · exact .base (.tup h)
  · exact .fTuple h
  · exact .kTuple e c
theorem kd_pL {Rs : List VP} : Ent F (pL Rs) (pKd K .lst) := fun F1 v _ ⟨a, xs, e, h, _⟩ => by rw [e]; exact ⟨.base (.lst h), trivial⟩
theorem kd_pQ {Rs : List VP} : Ent F (pQ K Rs) (pKd K .lst) := fun F1 v _ ⟨a, xs, e, h, _⟩ => by rw [e]; exact ⟨sqL_ty h, trivial⟩
theorem kd_pT {Rs : List VP} : Ent F (pT K Rs) (pKd K .tup) := fun F1 v _ ⟨a, xs, e, h, _⟩ => by rw [e]; exact ⟨sqT_ty h, trivial⟩
theorem kd_pTt {Rs : List VP} : Ent F (pTt Rs) (pKd K .tup) := fun F1 v _ ⟨a, xs, e, h, _⟩ => by rw [e]; exact ⟨.base (.tup h), trivial⟩
theorem kd_pDk {kvs : List (Key × V)} : Ent F (pDk kvs) (pKd K .dic) := fun F1 v _ ⟨a, e, h⟩ => by rw [e]; exact ⟨.base (.dK h), trivial⟩
end
/-! ### a def keeps its promise -/
section
variable {P : Program} {w : World} {K : PySem.W.Frag} {mg : Str → Option Value} {base : Heap} {x qual : Str} {params : Arguments} {body : List Stmt} {scope : Scope} {dvs : List V} {kws : List (Str × V)} {f : Addr} {fd : FuncData}
theorem Con.ok (c : Con) {N ps : List Str} {k : Nat} (D : FunD K x qual params body scope dvs kws f fd) (S : FnScope N ps scope) (len : ∀ a, (c.pre a).length = ps.length)
    (hb : ∀ (cdv : Value) (A : Around) (outer : List Env) (s : Shared) (H : Hp) (E : XK), Room k (A.deeper (PyProof.Rows.envOfC qual scope s.heap.objs.size f cdv)) →
      ∃ t, PSs (cxOf CX0 P w K mg base N qual scope f cdv A outer s H E).nox body t ∧ ∀ (F : Hp) (M : MM) (a : c.α) (vs : List V) (Q : VK), Bx F (M.add (c.cost a)) H F M H → Al F (c.pre a) vs → c.side a M →
        (∀ F' H' v, Gr (M.add (c.cost a)) F H F' H' → c.res a F' v → Q v H') → t { nx := fun _ H' => Q .non H', rt := Q } (L2.start N vs) H) : FnOk P w K mg base CX0 (k + 1) f fd ps c.sp := by
  refine D.ok S (fun vs H Q E h => ?_) (fun cdv A outer s H vs Q E hr h => ?_)
  · obtain ⟨F, M, a, cn, hv, -, -⟩ := h
    rw [← hv.length]
    exact len a
  · obtain ⟨t, ht, hq⟩ := hb cdv A outer s H E hr
    obtain ⟨F, M, a, cn, hv, hs, q⟩ := h
    exact ⟨t, ht.nox, hq F M a vs Q (Bx.startK cn _) hv hs fun F' H' v g => q F' H' v ⟨g.f, g.c, g.k, g.n, rfl, rfl⟩⟩
end
theorem al1 {F : Hp} {R : VP} {vs : List V} (h : Al F [R] vs) : ∃ v, vs = [v] ∧ Kn R F v := by
  cases h with
  | cons a b => cases b; exact ⟨_, rfl, ⟨a⟩⟩
theorem al2 {F : Hp} {R S : VP} {vs : List V} (h : Al F [R, S] vs) : ∃ v u, vs = [v, u] ∧ Kn R F v ∧ Kn S F u := by
  cases h with
  | cons a b => obtain ⟨u, rfl, k⟩ := al1 b; exact ⟨_, u, rfl, ⟨a⟩, k⟩
theorem al3 {F : Hp} {R S T : VP} {vs : List V} (h : Al F [R, S, T] vs) : ∃ v u x, vs = [v, u, x] ∧ Kn R F v ∧ Kn S F u ∧ Kn T F x := by
  cases h with
  | cons a b => obtain ⟨u, x, rfl, k, l⟩ := al2 b; exact ⟨_, u, x, rfl, ⟨a⟩, k, l⟩
theorem al4 {F : Hp} {R S T U : VP} {vs : List V} (h : Al F [R, S, T, U] vs) : ∃ v u x y, vs = [v, u, x, y] ∧ Kn R F v ∧ Kn S F u ∧ Kn T F x ∧ Kn U F y := by
  cases h with
  | cons a b => obtain ⟨u, x, y, rfl, k⟩ := al3 b; exact ⟨_, u, x, y, rfl, ⟨a⟩, k⟩
/-! ### rules at a known K -/
section
variable {X : L2.Cx} {K : PySem.W.Frag}
theorem call_isi' (e : X.K = K) : CallR X (.builtin "isinstance") (rIsi K) := e ▸ call_isi
theorem call_isiT' (e : X.K = K) : CallR X (.builtin "isinstance") (rIsiT K) := e ▸ call_isiT
theorem ix_list' (e : X.K = K) : IxR X (rIxL K) := e ▸ ix_list
theorem ix_tup' (e : X.K = K) : IxR X (rIxT K) := e ▸ ix_tup
def rLenS (K : PySem.W.Frag) : List V → Hp → VK → Prop := fun xs H Q => ∃ p ys, xs = [.ref p] ∧ (SqL K H p ys ∨ SqT K H p ys) ∧ Q (.int ys.length) H
theorem call_len' (e : X.K = K) : CallR X (.builtin "len") (rLenS K) := e ▸ call_len_seq
theorem op_in' (e : X.K = K) : OpR X (compareOp .In) (rIn K false) := e ▸ op_in_seq
theorem op_notIn' (e : X.K = K) : OpR X (compareOp .NotIn) (rIn K true) := e ▸ op_notIn_seq
end
end Fw
end

section
namespace Fw
open PySem L2
/-! ### making an instance -/
structure Ini where
  α : Type
  pre : α → List VP
  side : α → MM → Prop
  res : α → Hp → List (Str × V) → Prop
def Ini.sp (C : Addr) (c : Ini) : Sp := fun vs H Q _ => ∃ (F : Hp) (M : MM) (a : c.α) (H1 : Hp) (x dx : Addr) (ws : List V), vs = .ref x :: ws ∧ H = upd (upd H1 dx (.own x)) x (.ins C dx []) ∧ H1 x = none ∧ H1 dx = none ∧ dx ≠ x ∧ Cn F M H1 ∧ Al F (c.pre a) ws ∧ c.side a M ∧
  ∀ F' H' fs, Gr M F H1 F' H' → F' x = none → H' x = some (.ins C dx fs) → c.res a F' fs → Q .non H'
def pIns (C : Addr) (res : Hp → List (Str × V) → Prop) : VP := fun F v => ∃ a dx fs, v = .ref a ∧ F a = some (.ins C dx fs) ∧ res F fs
section
variable {K : PySem.W.Frag} {σ : St} {F F' F0 H H0 : Hp} {M M1 Me : MM} {ta tb te tx : TE} {t u : TT} {x y z v : V} {R S T : VP} {k : DK} {C : Addr}
theorem ev_make (c : Ini) (a : c.α) {t : TA} {Rs Ds : List VP} {dvs : List V} {E : XK} (h : EvAM t σ F M M1 Rs) (hd : Al F Ds dvs) (he : Ents F (Rs ++ Ds) (c.pre a)) (hs : c.side a M1) (hr : ∀ F F' fs, Ex F F' → c.res a F fs → c.res a F' fs) (hm : Monos Ds) :
    EvM (tMake C (c.sp C) dvs E t) σ F M M1 (pIns C (c.res a)) := fun F1 H e k Q q =>
  h F1 H e k _ fun F2 H2 vs g hv x dx hx hdx ne =>
    ⟨F2, M1, a, H2, x, dx, vs ++ dvs, rfl, rfl, hx, hdx, ne, g.c, he.al (e.trans g.f) (hv.app (Monos.up F F2 _ (e.trans g.f) hd)), hs, fun F3 H3 fs g2 f3 h3 r =>
      ⟨rfl, q (upd F3 x (.ins C dx fs)) H3 _ (g.trans (g2.fix g.c hx h3)) ⟨x, dx, fs, rfl, upd_same, hr F3 _ fs (Ex.new f3) r⟩⟩⟩
/-- where an __init__ begins -/
theorem Bx.init {H1 : Hp} {x dx : Addr} (c : Cn F M H1) (hx : H1 x = none) (hd : H1 dx = none) (ne : dx ≠ x) : Bx F M H1 F (mput M x (eqo (.ins C dx []))) (upd (upd H1 dx (.own x)) x (.ins C dx [])) := by
  have g1 : Gr M F H1 F (upd H1 dx (.own x)) := Gr.lay c hd
  have hx2 : (upd H1 dx (.own x)) x = none := by rw [upd_ne (Ne.symm ne)]; exact hx
  have g2 : Gr M F (upd H1 dx (.own x)) F (upd (upd H1 dx (.own x)) x (.ins C dx [])) := Gr.lay g1.c hx2
  exact (((Bx.start c).go g1).go g2).own hx upd_same (c.fnone hx) rfl fun _ _ h => h
/-- .. ends -/
theorem Bx.made (b : Bx F0 Me H0 F M H) {a dx : Addr} {fs : List (Str × V)} (h : M.f a = some (eqo (.ins C dx fs))) : H a = some (.ins C dx fs) ∧ F a = none := ⟨b.at_ h, b.fn h⟩
end
section
variable {P : Program} {w : World} {K : PySem.W.Frag} {mg : Str → Option Value} {base : Heap} {x qual : Str} {params : Arguments} {body : List Stmt} {scope : Scope} {dvs : List V} {kws : List (Str × V)} {f C : Addr} {fd : FuncData}
theorem Ini.ok (c : Ini) {N ps : List Str} {k : Nat} (D : FunD K x qual params body scope dvs kws f fd) (S : FnScope N ps scope) (len : ∀ a, (c.pre a).length + 1 = ps.length)
    (hb : ∀ (cdv : Value) (A : Around) (outer : List Env) (s : Shared) (H : Hp) (E : XK), Room k (A.deeper (PyProof.Rows.envOfC qual scope s.heap.objs.size f cdv)) →
      ∃ t, PSs (cxOf CX0 P w K mg base N qual scope f cdv A outer s H E).nox body t ∧ ∀ (F : Hp) (M : MM) (a : c.α) (vs : List V) (Q : VK) (x dx : Addr) (H1 H2 : Hp), Bx F M H1 F (mput M x (eqo (.ins C dx []))) H2 → H1 x = none → Al F (c.pre a) vs → c.side a M →
        (∀ F' H' fs, Gr M F H1 F' H' → F' x = none → H' x = some (.ins C dx fs) → c.res a F' fs → Q .non H') → t { nx := fun _ H' => Q .non H', rt := Q } (L2.start N (.ref x :: vs)) H2) : FnOk P w K mg base CX0 (k + 1) f fd ps (c.sp C) := by
  refine D.ok S (fun vs H Q E h => ?_) (fun cdv A outer s H vs Q E hr h => ?_)
  · obtain ⟨F, M, a, H1, x, dx, ws, rfl, -, -, -, -, cn, hv, -, -⟩ := h
    rw [← len a, hv.length]
    rfl
  · obtain ⟨t, ht, hq⟩ := hb cdv A outer s H E hr
    obtain ⟨F, M, a, H1, x, dx, ws, rfl, rfl, hx, hd, ne, cn, hv, hs, q⟩ := h
    exact ⟨t, ht.nox, hq F M a ws Q x dx H1 _ (Bx.init cn hx hd ne) hx hv hs q⟩
end
structure CalK (P : Program) (w : World) (K : PySem.W.Frag) (mg : Str → Option Value) (base : Heap) (k : Nat) (x : Str) (ps : List Str) (dvs : List V) (sp : Sp) : Prop where
  ex : ∃ (f : Addr) (fd : FuncData) (ds : List Value), FnOk P w K mg base CX0 k f fd ps sp ∧ Binds K fd ps ds ∧ Vals dvs ds ∧ Mk K (He.ga K x) f ∧ mg x = some (.ref (He.ga K x))
structure CalM (P : Program) (w : World) (K : PySem.W.Frag) (mg : Str → Option Value) (base : Heap) (k : Nat) (C : Addr) (m : Str) (ps : List Str) (dvs : List V) (sp : Sp) : Prop where
  ex : ∃ (f : Addr) (fd : FuncData) (ds : List Value), FnOk P w K mg base CX0 k f fd ps sp ∧ Binds K fd ps ds ∧ Vals dvs ds ∧ Meth K C m f
section
variable {X : L2.Cx} {x m : Str} {k : Nat} {ps : List Str} {sp : Sp} {e o : Expr} {es : List Expr} {t : TA} {p pos apos : Pos} {dvs : List V} {ta : TE} {C : Addr}
theorem pe_makeC (c : CalK X.prog X.w X.K X.mg X.base k x ps dvs sp) (hr : Room (k + 1) X.A) (hg : Gl X x) (ha : PA X (e :: es) t)
    (hdb : (x == ("__debug__" : Str)) = false := by decide) (he : starEach (e :: es) X.env = (false, eval e X.env) :: starEach es X.env := by rfl) (hpl : (backTo pos (starEach es X.env)).any (·.1) = false := by rfl) :
    PE X (.Call (.Name x p) (e :: es) [] pos) (tMake (He.ga X.K x) sp dvs E0 t) := by
  obtain ⟨f, fd, ds, F, b, hd, mk, g⟩ := c.ex
  exact pe_make mk F hr hg g b hd pass0 ha hdb he hpl
theorem pe_methC {pl : Sem Bool} (c : CalM X.prog X.w X.K X.mg X.base k C m ps dvs sp) (cl : Cls X.K C) (hr : Room k X.A) (ho : PE X o ta) (ha : PA X (e :: es) t)
    (he : starEach (e :: es) X.env = (false, eval e X.env) :: starEach es X.env := by rfl) (hpl : (backTo pos (starEach es X.env)).any (·.1) = false := by rfl)
    (hc : eval (.Call (.Attribute o m apos) (e :: es) [] pos) X.env = (do
      let ov ← eval o X.env
      standAt apos.atName
      let (f, first) ← holding [ov] (getMethod ov m pl)
      callWith pos f first (backTo pos (starEach (e :: es) X.env)) (backToKw pos (keywordEach [] X.env))) := by rfl) :
    PE X (.Call (.Attribute o m apos) (e :: es) [] pos) (tMeth C m sp dvs E0 ta t) := by
  obtain ⟨f, fd, ds, F, b, hd, mt⟩ := c.ex
  exact pe_meth ho cl mt F hr b hd pass0 ha he hpl hc
theorem pe_methC0 {pl : Sem Bool} (c : CalM X.prog X.w X.K X.mg X.base k C m ps dvs sp) (cl : Cls X.K C) (hr : Room k X.A) (ho : PE X o ta)
    (hc : eval (.Call (.Attribute o m apos) [] [] pos) X.env = (do
      let ov ← eval o X.env
      standAt apos.atName
      let (f, first) ← holding [ov] (getMethod ov m pl)
      callWith pos f first (backTo pos (starEach [] X.env)) (backToKw pos (keywordEach [] X.env))) := by rfl) :
    PE X (.Call (.Attribute o m apos) [] [] pos) (tMeth C m sp dvs E0 ta tNil) := by
  obtain ⟨f, fd, ds, F, b, hd, mt⟩ := c.ex
  exact pe_meth0 ho cl mt F hr b hd pass0 hc
end
section
variable {X : L2.Cx} {K : PySem.W.Frag}
theorem pe_fld' {e : Expr} {f : Str} {pos : Pos} {ta : TE} (e' : X.K = K) (he : PE X e ta) (hb : attributeBase e f X.env (eval e X.env) = eval e X.env) : PE X (.Attribute e f pos) (tFld K ta f) := e' ▸ pe_fld he hb
theorem ps_fld' {o value : Expr} {f : Str} {pos pos' : Pos} {ta tv : TE} (e' : X.K = K) (ha : PE X o ta) (hv : PE X value tv) (hs : swapsWith value (some (.Attribute o f pos')) pos.line X.env = pure false) : PS X (.Assign [.Attribute o f pos'] value pos) (sFld K ta tv f) := e' ▸ ps_fld ha hv hs
theorem pi_list' {tg l : Expr} {tl : TE} (e' : X.K = K) (hl : PE X l tl) : PI X tg l (iList K tl) := e' ▸ pi_list hl
theorem pi_tup' {tg l : Expr} {tl : TE} (e' : X.K = K) (hl : PE X l tl) : PI X tg l (iTup K tl) := e' ▸ pi_tup hl
theorem sl_list' (e' : X.K = K) : SlR X (rSlL K) := e' ▸ sl_list
theorem sl_tup' (e' : X.K = K) : SlR X (rSlT K) := e' ▸ sl_tup
def rListOf (K : PySem.W.Frag) : List V → Hp → VK → Prop := fun xs H Q => ∃ p ys, xs = [.ref p] ∧ (SqL K H p ys ∨ SqT K H p ys) ∧ ∀ l, H l = none → Q (.ref l) (upd H l (.lst ys))
theorem call_list' (e' : X.K = K) : CallR X (.type "list") (rListOf K) := e' ▸ call_list_of
def rTupleOf (K : PySem.W.Frag) : List V → Hp → VK → Prop := fun xs H Q => ∃ p ys, xs = [.ref p] ∧ ((SqL K H p ys ∧ ∀ l, H l = none → Q (.ref l) (upd H l (.tup ys))) ∨ (SqT K H p ys ∧ Q (.ref p) H))
theorem call_tuple' (e' : X.K = K) : CallR X (.type "tuple") (rTupleOf K) := e' ▸ call_tuple_of
def rDictP (K : PySem.W.Frag) : List V → Hp → VK → Prop := fun xs H Q => ∃ (a : Addr) (ps : List Addr) (kvs : List (Key × V)), xs = [.ref a] ∧ SqL K H a (ps.map V.ref) ∧ Paired (fun p kv => SqT K H p [kV kv.1, kv.2]) ps kvs ∧
    ∀ p, H p = none → Q (.ref p) (upd H p (.dK (mergeK [] kvs)))
theorem call_dictP' (e' : X.K = K) (hc : X.calm = true) : CallR X (.type "dict") (rDictP K) := e' ▸ call_dictP hc
theorem cr_all' (e' : X.K = K) (hc : X.calm = true) : CallR X (.builtin "all") (rAll K) := e' ▸ cr_all hc
theorem cr_any' (e' : X.K = K) (hc : X.calm = true) : CallR X (.builtin "any") (rAny K) := e' ▸ cr_any hc
theorem cr_sum' (e' : X.K = K) (hc : X.calm = true) : CallR X (.builtin "sum") (rSum K) := e' ▸ cr_sum hc
theorem cr_min' (e' : X.K = K) (hc : X.calm = true) : CallR X (.builtin "min") (rMin K) := e' ▸ cr_min hc
theorem cr_max' (e' : X.K = K) (hc : X.calm = true) : CallR X (.builtin "max") (rMax K) := e' ▸ cr_max hc
theorem pg_tup' {es : List Expr} {k : Nat} {t : TGs} {n : Nat} {pos : Pos} (e' : X.K = K) (hc : X.calm = true) (h : PGs X es t) (hn : (assignEach es X.env).length = n := by rfl) (hst : (assignEach es X.env).findIdx? (·.1) = none := by rfl) : PG X (.Tuple es k pos) (gTup K n t) := by
  subst e'
  exact pg_tup hc h hn hst
end
end Fw
end

section
namespace Fw
open PySem L2
/-! ### walks -/
def Walks (J : It) (F : Hp) (M : MM) (Ys : List VP) : Prop := ∀ (i : Nat) (F1 : Hp) (M1 : MM) (H1 : Hp), Ex F F1 → M1.l = M.l → Cn F1 M1 H1 → (Ys.length ≤ i → J.stop i H1) ∧ ∀ Y, Ys[i]? = some Y → J.go i H1 ∧ ∀ x H2, J.yld i H1 x H2 → ∃ F2, Gr M1 F1 H1 F2 H2 ∧ Y F2 x
def WkM (wi : TI) (σ : St) (F : Hp) (M M' : MM) (Ys : List VP) : Prop := ∀ F1 H, Ex F F1 → Cn F1 M H → ∀ R : It → Hp → Prop, (∀ J F2 H2, GrM M M' F1 H F2 H2 → Walks J F2 M' Ys → R J H2) → wi σ H R
abbrev WkD (wi : TI) (σ : St) (F : Hp) (M : MM) (Ys : List VP) : Prop := WkM wi σ F M M Ys
/-- what is walked isn't known, but of a kind -/
def WkX (wi : TI) (σ : St) (F : Hp) (M M' : MM) {α : Type} (Ys : α → List VP) : Prop := ∀ F1 H, Ex F F1 → Cn F1 M H → ∀ R : It → Hp → Prop, (∀ a J F2 H2, GrM M M' F1 H F2 H2 → Walks J F2 M' (Ys a) → R J H2) → wi σ H R
section
variable {K : PySem.W.Frag} {σ : St} {F F' : Hp} {M M1 : MM} {tl te : TE} {ta : TA} {R S T : VP} {Rs Ss : List VP} {tt : TT} {wi : TI}
theorem wk_list (h : EvM tl σ F M M1 S) (he : Ent F S (pQ K Rs)) (hm : Monos Rs) : WkM (iList K tl) σ F M M1 Rs := fun F1 H e c R q =>
  h F1 H e c _ fun F2 H2 v g hv => by
    obtain ⟨a, xs, ev, hs, al⟩ := he F2 v (e.trans g.f) hv
    refine ⟨a, ev, ⟨xs, g.c.sqL hs⟩, q _ F2 H2 g fun i F3 M3 H3 e3 _ c3 => ?_⟩
    have hs3 : SqL K H3 a xs := c3.sqL (e3.sqL hs)
    refine ⟨fun hi => ⟨xs, hs3, by rw [← al.length]; exact hi⟩, fun Y hY => ?_⟩
    obtain ⟨x, hx, hr⟩ := (Monos.up F2 F3 _ e3 al).get hY
    refine ⟨⟨xs, x, hs3, hx⟩, fun y H4 hy => ?_⟩
    obtain ⟨rfl, hy⟩ := hy
    have := hy xs hs3
    rw [hx] at this
    cases this
    exact ⟨F3, Gr.refl c3, hr⟩
theorem wk_tup (h : EvM tl σ F M M1 S) (he : Ent F S (pT K Rs)) (hm : Monos Rs) : WkM (iTup K tl) σ F M M1 Rs := fun F1 H e c R q =>
  h F1 H e c _ fun F2 H2 v g hv => by
    obtain ⟨a, xs, ev, hs, al⟩ := he F2 v (e.trans g.f) hv
    refine ⟨a, ev, ⟨xs, g.c.sqT hs⟩, q _ F2 H2 g fun i F3 M3 H3 e3 _ c3 => ?_⟩
    have hs3 : SqT K H3 a xs := c3.sqT (e3.sqT hs)
    refine ⟨fun hi => ⟨xs, hs3, by rw [← al.length]; exact hi⟩, fun Y hY => ?_⟩
    obtain ⟨x, hx, hr⟩ := (Monos.up F2 F3 _ e3 al).get hY
    refine ⟨⟨xs, x, hs3, hx⟩, fun y H4 hy => ?_⟩
    obtain ⟨rfl, hy⟩ := hy
    have := hy xs hs3
    rw [hx] at this
    cases this
    exact ⟨F3, Gr.refl c3, hr⟩
theorem wk_rng1 {n : Int} (h : EvAM ta σ F M M1 [pI n]) (hn : -(2 ^ 62) ≤ n ∧ n < 2 ^ 62) : WkM (iRng1 ta) σ F M M1 ((List.range n.toNat).map fun (i : Nat) => pI (i : Int)) := fun F1 H e c R q =>
  h F1 H e c _ fun F2 H2 vs g hv => by
    cases hv with
    | cons h1 h2 =>
      cases h2
      refine ⟨n, by rw [show _ = V.int n from h1], hn.1, hn.2, q _ F2 H2 g fun i F3 M3 H3 e3 _ c3 => ?_⟩
      refine ⟨fun hi => (by rw [List.length_map, List.length_range] at hi; exact hi), fun Y hY => ?_⟩
      rw [List.getElem?_map] at hY
      by_cases hi : i < n.toNat
      · rw [List.getElem?_range hi] at hY
        cases hY
        refine ⟨hi, fun y H4 hy => ?_⟩
        obtain ⟨rfl, rfl⟩ := hy
        exact ⟨F3, Gr.refl c3, by rw [Int.zero_add]; rfl⟩
      · rw [List.getElem?_eq_none (by simpa using hi)] at hY
        cases hY
theorem wk_rng2 {m n : Int} (h : EvAM ta σ F M M1 [pI m, pI n]) (hn : -(2 ^ 62) ≤ m ∧ m < 2 ^ 62 ∧ -(2 ^ 62) ≤ n ∧ n < 2 ^ 62) : WkM (iRng2 ta) σ F M M1 ((List.range (n - m).toNat).map fun (i : Nat) => pI (m + (i : Int))) := fun F1 H e c R q =>
  h F1 H e c _ fun F2 H2 vs g hv => by
    cases hv with
    | cons h1 h2 =>
      cases h2 with
      | cons h2 h3 =>
        cases h3
        refine ⟨m, n, by rw [show _ = V.int m from h1, show _ = V.int n from h2], hn, q _ F2 H2 g fun i F3 M3 H3 e3 _ c3 => ?_⟩
        refine ⟨fun hi => (by rw [List.length_map, List.length_range] at hi; exact hi), fun Y hY => ?_⟩
        rw [List.getElem?_map] at hY
        by_cases hi : i < (n - m).toNat
        · rw [List.getElem?_range hi] at hY
          cases hY
          refine ⟨hi, fun y H4 hy => ?_⟩
          obtain ⟨rfl, rfl⟩ := hy
          exact ⟨F3, Gr.refl c3, rfl⟩
        · rw [List.getElem?_eq_none (by simpa using hi)] at hY
          cases hY
theorem wk_enum (h : EvAM ta σ F M M1 [S]) (he : Ent F S (pQ K Rs)) (hm : Monos Rs) : WkM (iEnum K ta) σ F M M1 (Rs.mapIdx fun i R => pTt [pI (i : Int), R]) := fun F1 H e c R q =>
  h F1 H e c _ fun F2 H2 vs g hv => by
    cases hv with
    | cons h1 h2 =>
      cases h2
      obtain ⟨a, xs, ev, hs, al⟩ := he F2 _ (e.trans g.f) h1
      refine ⟨a, xs, by rw [ev], g.c.sqL hs, q _ F2 H2 g fun i F3 M3 H3 e3 _ c3 => ?_⟩
      have hs3 : SqL K H3 a xs := c3.sqL (e3.sqL hs)
      refine ⟨fun hi => ⟨xs, hs3, by rw [← al.length]; simpa using hi⟩, fun Y hY => ?_⟩
      rw [List.getElem?_mapIdx] at hY
      cases z : Rs[i]? with
      | none => rw [z] at hY; cases hY
      | some R0 =>
        rw [z] at hY
        cases hY
        obtain ⟨x, hx, hr⟩ := (Monos.up F2 F3 _ e3 al).get z
        refine ⟨⟨xs, x, hs3, hx⟩, fun y H4 hy => ?_⟩
        obtain ⟨t, x', rfl, ht, rfl, hy⟩ := hy
        have := hy xs hs3
        rw [hx] at this
        cases this
        have al3 := (Monos.up F2 F3 _ e3 al)
        refine ⟨upd F3 t (.tup [.int (i : Int), x]), Gr.new c3 ht, t, _, rfl, upd_same, .cons rfl (.cons ?_ .nil)⟩
        obtain ⟨x2, hx2, hr2⟩ := (Monos.up F3 _ _ (Ex.new (o := .tup [.int (i : Int), x]) (c3.fnone ht)) al3).get z
        rw [hx] at hx2
        cases hx2
        exact hr2
theorem wk_zip (h : EvAM ta σ F M M1 [S, T]) (he : Ent F S (pQ K Rs)) (he2 : Ent F T (pQ K Ss)) (hm : Monos Rs) (hm2 : Monos Ss) : WkM (iZip K ta) σ F M M1 (List.zipWith (fun R S => pTt [R, S]) Rs Ss) := fun F1 H e c R q =>
  h F1 H e c _ fun F2 H2 vs g hv => by
    cases hv with
    | cons h1 h2 =>
      cases h2 with
      | cons h2 h3 =>
        cases h3
        obtain ⟨a, xs, ev, hs, al⟩ := he F2 _ (e.trans g.f) h1
        obtain ⟨b, ys, ev2, hs2, al2⟩ := he2 F2 _ (e.trans g.f) h2
        refine ⟨a, b, xs, ys, by rw [ev, ev2], g.c.sqL hs, g.c.sqL hs2, q _ F2 H2 g fun i F3 M3 H3 e3 _ c3 => ?_⟩
        have hs3 : SqL K H3 a xs := c3.sqL (e3.sqL hs)
        have hs4 : SqL K H3 b ys := c3.sqL (e3.sqL hs2)
        refine ⟨fun hi => ⟨xs, ys, hs3, hs4, ?_⟩, fun Y hY => ?_⟩
        · rw [List.length_zipWith] at hi
          rw [← al.length, ← al2.length]
          omega
        · rw [List.getElem?_zipWith] at hY
          cases z : Rs[i]? with
          | none => rw [z] at hY; cases hY
          | some R0 =>
            cases z2 : Ss[i]? with
            | none => rw [z, z2] at hY; cases hY
            | some S0 =>
              rw [z, z2] at hY
              cases hY
              obtain ⟨x, hx, hr⟩ := (Monos.up F2 F3 _ e3 al).get z
              obtain ⟨y, hy, hr2⟩ := (Monos.up F2 F3 _ e3 al2).get z2
              refine ⟨⟨xs, ys, x, y, hs3, hs4, hx, hy⟩, fun v H4 hv => ?_⟩
              obtain ⟨t, x', y', rfl, ht, rfl, k1, k2⟩ := hv
              have q1 := k1 xs hs3
              have q2 := k2 ys hs4
              rw [hx] at q1
              rw [hy] at q2
              cases q1
              cases q2
              have ext := Ex.new (o := .tup [x, y]) (c3.fnone ht)
              obtain ⟨x2, hx2, w1⟩ := (Monos.up F2 _ _ (e3.trans ext) al).get z
              obtain ⟨y2, hy2, w2⟩ := (Monos.up F2 _ _ (e3.trans ext) al2).get z2
              rw [hx] at hx2
              rw [hy] at hy2
              cases hx2
              cases hy2
              exact ⟨upd F3 t (.tup [x, y]), Gr.new c3 ht, t, _, rfl, upd_same, .cons w1 (.cons w2 .nil)⟩
/-- an object of ours that is not frozen is changed -/
theorem GrM.chg {H F1 H1 : Hp} (g : GrM M M1 F H F1 H1) {p : Addr} {o o' : HO} (hp : H p = none) (hM : M.f p = none) (h : H1 p = some o) (hF : F1 p = none) (hd : ∀ ob kvs, o ≠ .frz ob (.dK kvs)) : GrM M M1 F H F1 (upd H1 p o') := by
  have on : ∀ a u, a ≠ p → H1 a = some u → upd H1 p o' a = some u := fun a u z q => by rw [upd_ne z]; exact q
  refine ⟨g.f, ⟨fun a u q => ?_, fun a ψ q => ?_, g.c.dis, fun a ob q => ?_, g.c.up⟩, fun a u q z => on a u (fun y => by rw [y, hp] at z; cases z) (g.k a u q z), g.n, g.ef, g.el⟩
  · have z : a ≠ p := fun z => by rw [z, hF] at q; cases q
    rcases g.c.ex a u q with y | ⟨ob, kvs, y, e, y2⟩
    · exact .inl (on a u z y)
    · exact .inr ⟨ob, kvs, y, e, on a _ z y2⟩
  · obtain ⟨u, e, y⟩ := g.c.sat a ψ q
    exact ⟨u, on a u (fun z => by rw [z, g.ef, hM] at q; cases q) e, y⟩
  · obtain ⟨kvs, e⟩ := g.c.lk a ob q
    exact ⟨kvs, on a _ (fun z => by rw [z, h] at e; exact hd ob kvs (Option.some.inj e)) e⟩
theorem take_filter_map {α β : Type} (l : List α) (p : α → Bool) (q : α → β) (i : Nat) (a : α) (h : l[i]? = some a) :
    ((l.take (i + 1)).filter p).map q = ((l.take i).filter p).map q ++ (if p a then [q a] else []) := by
  rw [List.take_add_one, h]
  simp only [Option.toList_some, List.filter_append, List.map_append]
  cases z : p a <;> simp [List.filter_cons, z]
/-- [e for x in .. if t], x one name -/
theorem en_lc {α : Type} (l : List α) (Y : α → VP) (p : α → Bool) (q : α → VP) {j : Nat} {vs : List Nat} (hw : WkD wi σ F M (l.map Y)) (hl : l.length ≤ 100000) (hz : ∀ x, wipe ((wipe σ vs).set j (some x)) vs = wipe σ vs)
    (ht : ∀ a x F1, a ∈ l → Ex F F1 → Kn (Y a) F1 x → EvT tt ((wipe σ vs).set j (some x)) F1 M (p a)) (he : ∀ a x F1, a ∈ l → Ex F F1 → Kn (Y a) F1 x → p a = true → EvD te ((wipe σ vs).set j (some x)) F1 M (q a)) (hm : ∀ a, Mono (q a)) :
    EvN (tLc wi (gName j) tt te vs) σ F M (fun F o => ∃ xs, o = .lst xs ∧ Al F ((l.filter p).map q) xs) := fun F1 H e c Q k =>
  hw F1 H e c _ fun J F2 H2 g wk D hD => by
    have hD0 : H D = none := g.onone hD
    have hM : M.f D = none := c.mnone hD0
    refine ⟨fun i m H3 => ∃ F3 acc, m = l.length - i ∧ i ≤ l.length ∧ Gr M F1 H F3 H3 ∧ Ex F2 F3 ∧ F3 D = none ∧ H3 D = some (.lst acc) ∧ Al F3 (((l.take i).filter p).map q) acc,
      ⟨l.length, F2, [], by simp, Nat.zero_le _, g.trans (Gr.lay g.c hD), Ex.refl F2, g.c.fnone hD, upd_same, by simp; exact .nil⟩, fun i m H3 hW => ?_⟩
    obtain ⟨F3, acc, rfl, hi, g3, e3, f3, h3, al⟩ := hW
    obtain ⟨w1, w2⟩ := wk i F3 M H3 e3 rfl g3.c
    have hacc : acc.length ≤ i := by
      rw [← al.length, List.length_map]
      exact Nat.le_trans (List.length_filter_le _ _) (by rw [List.length_take]; omega)
    by_cases hlt : i < l.length
    · have ha : l[i]? = some l[i] := List.getElem?_eq_getElem hlt
      obtain ⟨go, yl⟩ := w2 (Y l[i]) (by rw [List.getElem?_map, ha]; rfl)
      have mem : l[i] ∈ l := List.getElem_mem hlt
      refine .inr ⟨go, fun H' => ∃ F3 acc, i + 1 ≤ l.length ∧ Gr M F1 H F3 H' ∧ Ex F2 F3 ∧ F3 D = none ∧ H' D = some (.lst acc) ∧ Al F3 (((l.take (i + 1)).filter p).map q) acc, fun H' hN => ?_, fun x H' hy => ?_⟩
      · obtain ⟨F4, acc4, z⟩ := hN
        exact ⟨l.length - (i + 1), by omega, F4, acc4, rfl, z⟩
      · obtain ⟨F4, g4, hY⟩ := yl x H' hy
        have f4 : F4 D = none := g4.n D f3 (ne_some h3)
        have h4 : H' D = some (.lst acc) := g4.k D _ hM h3
        have e4 : Ex F F4 := e.trans (g.f.trans (e3.trans g4.f))
        refine ⟨hz x, ht _ x F4 mem e4 ⟨hY⟩ F4 H' (Ex.refl F4) g4.c _ fun F5 H5 g5 => ?_⟩
        have f5 : F5 D = none := g5.n D f4 (ne_some h4)
        have h5 : H5 D = some (.lst acc) := g5.k D _ hM h4
        cases hp : p l[i] with
        | true =>
          refine iteT ?_
          refine he _ x F4 mem e4 ⟨hY⟩ hp F5 H5 g5.f g5.c _ fun F6 H6 v g6 hv => ?_
          have f6 : F6 D = none := g6.n D f5 (ne_some h5)
          have h6 : H6 D = some (.lst acc) := g6.k D _ hM h5
          have : Monos (((l.take i).filter p).map q) := Monos.map (h := hm)
          refine ⟨acc, h6, sz_lt (by omega), F6, acc ++ [v], hlt, (((g3.trans g4).trans g5).trans g6).chg hD0 hM h6 f6 (fun _ _ z => by cases z), e3.trans (g4.f.trans (g5.f.trans g6.f)), f6, upd_same, ?_⟩
          rw [take_filter_map l p q i _ ha, hp]
          exact (Monos.up F3 F6 _ (g4.f.trans (g5.f.trans g6.f)) al).app (.cons hv .nil)
        | false =>
          refine iteF ?_
          have : Monos (((l.take i).filter p).map q) := Monos.map (h := hm)
          refine ⟨F5, acc, hlt, (g3.trans g4).trans g5, e3.trans (g4.f.trans g5.f), f5, h5, ?_⟩
          rw [take_filter_map l p q i _ ha, hp]
          simp only [Bool.false_eq_true, if_false, List.append_nil]
          exact Monos.up F3 F5 _ (g4.f.trans g5.f) al
    · have ei : i = l.length := by omega
      subst ei
      refine .inl ⟨w1 (by simp), k F3 H3 D _ g3 hD0 h3 f3 ⟨acc, rfl, ?_⟩⟩
      rw [List.take_length] at al
      exact al
theorem ev_lc {α : Type} (l : List α) (Y : α → VP) (p : α → Bool) (q : α → VP) {j : Nat} {vs : List Nat} (hw : WkD wi σ F M (l.map Y)) (hl : l.length ≤ 100000) (hz : ∀ x, wipe ((wipe σ vs).set j (some x)) vs = wipe σ vs)
    (ht : ∀ a x F1, a ∈ l → Ex F F1 → Kn (Y a) F1 x → EvT tt ((wipe σ vs).set j (some x)) F1 M (p a)) (he : ∀ a x F1, a ∈ l → Ex F F1 → Kn (Y a) F1 x → p a = true → EvD te ((wipe σ vs).set j (some x)) F1 M (q a)) (hm : ∀ a, Mono (q a)) :
    EvD (tLc wi (gName j) tt te vs) σ F M (pL ((l.filter p).map q)) := ev_N (en_lc l Y p q hw hl hz ht he hm) fun F1 F2 D o _ _ ⟨xs, eo, al⟩ e2 h2 => by
  have : Monos ((l.filter p).map q) := Monos.map (h := hm)
  exact ⟨D, xs, rfl, by rw [h2, eo], Monos.up F1 F2 _ e2 al⟩
/-- [e for x, y in .. if t] -/
theorem al2' {F : Hp} {R S : VP} {xs : List V} (h : Al F [R, S] xs) : ∃ x y, xs = [x, y] ∧ R F x ∧ S F y := by
  cases h with
  | cons a b =>
    cases b with
    | cons b c => cases c; exact ⟨_, _, rfl, a, b⟩
theorem en_lc2 {α : Type} (l : List α) (Y1 Y2 : α → VP) (p : α → Bool) (q : α → VP) {Z : List VP} {i1 i2 : Nat} {vs : List Nat} (hw : WkD wi σ F M Z) (hZ : ∀ F1, Ex F F1 → Ents F1 Z (l.map fun a => pT K [Y1 a, Y2 a])) (hl : l.length ≤ 100000) (hz : ∀ x y, wipe (((wipe σ vs).set i1 (some x)).set i2 (some y)) vs = wipe σ vs)
    (ht : ∀ a x y F1, a ∈ l → Ex F F1 → Kn (Y1 a) F1 x → Kn (Y2 a) F1 y → EvT tt (((wipe σ vs).set i1 (some x)).set i2 (some y)) F1 M (p a)) (he : ∀ a x y F1, a ∈ l → Ex F F1 → Kn (Y1 a) F1 x → Kn (Y2 a) F1 y → p a = true → EvD te (((wipe σ vs).set i1 (some x)).set i2 (some y)) F1 M (q a)) (hm : ∀ a, Mono (q a)) :
    EvN (tLc wi (gTup K 2 (gCons (gName i1) (gCons (gName i2) gNil))) tt te vs) σ F M (fun F o => ∃ xs, o = .lst xs ∧ Al F ((l.filter p).map q) xs) := fun F1 H e c Q k =>
  hw F1 H e c _ fun J F2 H2 g wk D hD => by
    have hD0 : H D = none := g.onone hD
    have hM : M.f D = none := c.mnone hD0
    have hlz : ∀ {A B : List VP} {F0 : Hp}, Ents F0 A B → A.length = B.length := by
      intro A
      induction A with
      | nil => intro B F0 h; cases B with
        | nil => rfl
        | cons _ _ => exact h.elim
      | cons a A ih => intro B F0 h; cases B with
        | nil => exact h.elim
        | cons b B => exact congrArg (· + 1) (ih h.2)
    have hgz : ∀ {A B : List VP} {F0 : Hp} {i : Nat} {S : VP}, Ents F0 A B → B[i]? = some S → ∃ R, A[i]? = some R ∧ Ent F0 R S := by
      intro A
      induction A with
      | nil => intro B F0 i S h hb; cases B with
        | nil => simp at hb
        | cons _ _ => exact h.elim
      | cons a A ih => intro B F0 i S h hb; cases B with
        | nil => exact h.elim
        | cons b B => cases i with
          | zero => simp at hb; subst hb; exact ⟨a, rfl, h.1⟩
          | succ i => simp at hb; obtain ⟨R, h1, h2⟩ := ih h.2 hb; exact ⟨R, by simpa using h1, h2⟩
    have hZl : Z.length = l.length := by rw [hlz (hZ F (Ex.refl F)), List.length_map]
    refine ⟨fun i m H3 => ∃ F3 acc, m = l.length - i ∧ i ≤ l.length ∧ Gr M F1 H F3 H3 ∧ Ex F2 F3 ∧ F3 D = none ∧ H3 D = some (.lst acc) ∧ Al F3 (((l.take i).filter p).map q) acc,
      ⟨l.length, F2, [], by simp, Nat.zero_le _, g.trans (Gr.lay g.c hD), Ex.refl F2, g.c.fnone hD, upd_same, by simp; exact .nil⟩, fun i m H3 hW => ?_⟩
    obtain ⟨F3, acc, rfl, hi, g3, e3, f3, h3, al⟩ := hW
    obtain ⟨w1, w2⟩ := wk i F3 M H3 e3 rfl g3.c
    have hacc : acc.length ≤ i := by
      rw [← al.length, List.length_map]
      exact Nat.le_trans (List.length_filter_le _ _) (by rw [List.length_take]; omega)
    by_cases hlt : i < l.length
    · have ha : l[i]? = some l[i] := List.getElem?_eq_getElem hlt
      obtain ⟨R0, hR0, ent⟩ := hgz (S := pT K [Y1 l[i], Y2 l[i]]) (hZ F2 (e.trans g.f)) (i := i) (by rw [List.getElem?_map, ha]; rfl)
      obtain ⟨go, yl⟩ := w2 R0 hR0
      have mem : l[i] ∈ l := List.getElem_mem hlt
      refine .inr ⟨go, fun H' => ∃ F3 acc, i + 1 ≤ l.length ∧ Gr M F1 H F3 H' ∧ Ex F2 F3 ∧ F3 D = none ∧ H' D = some (.lst acc) ∧ Al F3 (((l.take (i + 1)).filter p).map q) acc, fun H' hN => ?_, fun x H' hy => ?_⟩
      · obtain ⟨F4, acc4, z⟩ := hN
        exact ⟨l.length - (i + 1), by omega, F4, acc4, rfl, z⟩
      · obtain ⟨F4, g4, hY⟩ := yl x H' hy
        have f4 : F4 D = none := g4.n D f3 (ne_some h3)
        have h4 : H' D = some (.lst acc) := g4.k D _ hM h3
        have e4 : Ex F F4 := e.trans (g.f.trans (e3.trans g4.f))
        obtain ⟨ta, txs, rfl, htx, alx⟩ := ent F4 _ (e3.trans g4.f) hY
        obtain ⟨x, y, rfl, hx, hy2⟩ := al2' alx
        refine ⟨ta, _, rfl, g4.c.sqT htx, rfl, x, [y], rfl, y, [], rfl, rfl, hz x y, ht _ x y F4 mem e4 ⟨hx⟩ ⟨hy2⟩ F4 H' (Ex.refl F4) g4.c _ fun F5 H5 g5 => ?_⟩
        have f5 : F5 D = none := g5.n D f4 (ne_some h4)
        have h5 : H5 D = some (.lst acc) := g5.k D _ hM h4
        cases hp : p l[i] with
        | true =>
          refine iteT ?_
          refine he _ x y F4 mem e4 ⟨hx⟩ ⟨hy2⟩ hp F5 H5 g5.f g5.c _ fun F6 H6 v g6 hv => ?_
          have f6 : F6 D = none := g6.n D f5 (ne_some h5)
          have h6 : H6 D = some (.lst acc) := g6.k D _ hM h5
          have : Monos (((l.take i).filter p).map q) := Monos.map (h := hm)
          refine ⟨acc, h6, sz_lt (by omega), F6, acc ++ [v], hlt, (((g3.trans g4).trans g5).trans g6).chg hD0 hM h6 f6 (fun _ _ z => by cases z), e3.trans (g4.f.trans (g5.f.trans g6.f)), f6, upd_same, ?_⟩
          rw [take_filter_map l p q i _ ha, hp]
          exact (Monos.up F3 F6 _ (g4.f.trans (g5.f.trans g6.f)) al).app (.cons hv .nil)
        | false =>
          refine iteF ?_
          have : Monos (((l.take i).filter p).map q) := Monos.map (h := hm)
          refine ⟨F5, acc, hlt, (g3.trans g4).trans g5, e3.trans (g4.f.trans g5.f), f5, h5, ?_⟩
          rw [take_filter_map l p q i _ ha, hp]
          simp only [Bool.false_eq_true, if_false, List.append_nil]
          exact Monos.up F3 F5 _ (g4.f.trans g5.f) al
    · have ei : i = l.length := by omega
      subst ei
      refine .inl ⟨w1 (by omega), k F3 H3 D _ g3 hD0 h3 f3 ⟨acc, rfl, ?_⟩⟩
      rw [List.take_length] at al
      exact al
theorem ev_lc2 {α : Type} (l : List α) (Y1 Y2 : α → VP) (p : α → Bool) (q : α → VP) {Z : List VP} {i1 i2 : Nat} {vs : List Nat} (hw : WkD wi σ F M Z) (hZ : ∀ F1, Ex F F1 → Ents F1 Z (l.map fun a => pT K [Y1 a, Y2 a])) (hl : l.length ≤ 100000) (hz : ∀ x y, wipe (((wipe σ vs).set i1 (some x)).set i2 (some y)) vs = wipe σ vs)
    (ht : ∀ a x y F1, a ∈ l → Ex F F1 → Kn (Y1 a) F1 x → Kn (Y2 a) F1 y → EvT tt (((wipe σ vs).set i1 (some x)).set i2 (some y)) F1 M (p a)) (he : ∀ a x y F1, a ∈ l → Ex F F1 → Kn (Y1 a) F1 x → Kn (Y2 a) F1 y → p a = true → EvD te (((wipe σ vs).set i1 (some x)).set i2 (some y)) F1 M (q a)) (hm : ∀ a, Mono (q a)) :
    EvD (tLc wi (gTup K 2 (gCons (gName i1) (gCons (gName i2) gNil))) tt te vs) σ F M (pL ((l.filter p).map q)) := ev_N (en_lc2 l Y1 Y2 p q hw hZ hl hz ht he hm) fun F1 F2 D o _ _ ⟨xs, eo, al⟩ e2 h2 => by
  have : Monos ((l.filter p).map q) := Monos.map (h := hm)
  exact ⟨D, xs, rfl, by rw [h2, eo], Monos.up F1 F2 _ e2 al⟩
theorem et_yes : EvT tYes σ F M true := fun F1 H e c Q q => q F1 H (Gr.refl c)

/-! ### loops -/
variable {F0 H0 H : Hp} {Me : MM} {D : Ends} {tb tz : TS}
/-- what holds between the turns -/
def InvW (F0 : Hp) (Me : MM) (H0 F : Hp) (I : Nat → St → Hp → MM → Prop) (i : Nat) (σ : St) (H : Hp) : Prop := ∃ F1 M1, Bx F0 Me H0 F1 M1 H ∧ Ex F F1 ∧ I i σ F1 M1
theorem s_for {α : Type} (l : List α) (Y : α → VP) {j : Nat} (I : Nat → St → Hp → MM → Prop) (c : Bx F0 Me H0 F M H) (hw : WkD wi σ F M (l.map Y)) (h0 : ∀ F1, Ex F F1 → I 0 σ F1 M) (hi : ∀ i σ1 F1 F2 M1, Ex F1 F2 → I i σ1 F1 M1 → I i σ1 F2 M1)
    (hs : ∀ F', Ex F F' → ∀ (i : Nat) a x σ1 F1 M1 H1, l[i]? = some a → Ex F' F1 → Bx F0 Me H0 F1 M1 H1 → I i σ1 F1 M1 → Kn (Y a) F1 x → tb { D with nx := InvW F0 Me H0 F' I (i + 1), ct := InvW F0 Me H0 F' I (i + 1), bk := D.nx } (σ1.set j (some x)) H1)
    (hd : ∀ σ1 F1 M1 H1, Ex F F1 → Bx F0 Me H0 F1 M1 H1 → I l.length σ1 F1 M1 → D.nx σ1 H1) : tFor wi (gName j) tb D σ H :=
  hw F H (Ex.refl F) c.cn _ fun J F2 H2 g wk => by
    refine ⟨fun i m σ1 H3 => m = l.length - i ∧ i ≤ l.length ∧ InvW F0 Me H0 F2 I i σ1 H3, ⟨l.length, by simp, Nat.zero_le _, F2, M, c.go g, Ex.refl F2, h0 F2 g.f⟩, fun i m σ1 H3 hW => ?_⟩
    obtain ⟨rfl, hil, F3, M3, b3, e3, h3⟩ := hW
    have lM : M3.l = M.l := by rw [b3.l, c.l]
    obtain ⟨w1, w2⟩ := wk i F3 M3 H3 e3 lM b3.cn
    by_cases hlt : i < l.length
    · have ha : l[i]? = some l[i] := List.getElem?_eq_getElem hlt
      obtain ⟨go, yl⟩ := w2 (Y l[i]) (by rw [List.getElem?_map, ha]; rfl)
      refine .inr ⟨go, InvW F0 Me H0 F2 I (i + 1), fun σ' H' hN => ⟨l.length - (i + 1), by omega, rfl, hlt, hN⟩, fun x H' hy => ?_⟩
      obtain ⟨F4, g4, hY⟩ := yl x H' hy
      exact hs F2 g.f i l[i] x σ1 F4 M3 H' ha (e3.trans g4.f) (b3.go g4) (hi _ _ _ _ _ g4.f h3) ⟨hY⟩
    · have ei : i = l.length := by omega
      subst ei
      exact .inl ⟨w1 (by simp), hd σ1 F3 M3 H3 (g.f.trans e3) b3 h3⟩
theorem q_for {α : Type} (l : List α) (Y : α → VP) {j : Nat} (I : Nat → St → Hp → MM → Prop) (c : Bx F0 Me H0 F M H) (hw : WkD wi σ F M (l.map Y)) (h0 : ∀ F1, Ex F F1 → I 0 σ F1 M) (hi : ∀ i σ1 F1 F2 M1, Ex F1 F2 → I i σ1 F1 M1 → I i σ1 F2 M1)
    (hs : ∀ F', Ex F F' → ∀ (i : Nat) a x σ1 F1 M1 H1, l[i]? = some a → Ex F' F1 → Bx F0 Me H0 F1 M1 H1 → I i σ1 F1 M1 → Kn (Y a) F1 x → tb { D with nx := InvW F0 Me H0 F' I (i + 1), ct := InvW F0 Me H0 F' I (i + 1), bk := tz D } (σ1.set j (some x)) H1)
    (hd : ∀ σ1 F1 M1 H1, Ex F F1 → Bx F0 Me H0 F1 M1 H1 → I l.length σ1 F1 M1 → tz D σ1 H1) : tSeq (tFor wi (gName j) tb) tz D σ H := s_for (D := { D with nx := tz D }) l Y I c hw h0 hi hs hd
/-- for x, y in .. -/
theorem s_for2 {α : Type} (l : List α) (Y1 Y2 : α → VP) {Z : List VP} {i1 i2 : Nat} (I : Nat → St → Hp → MM → Prop) (c : Bx F0 Me H0 F M H) (hw : WkD wi σ F M Z) (hZl : Z.length = l.length) (hZ : ∀ (i : Nat) a S F1, l[i]? = some a → Z[i]? = some S → Ex F F1 → Ent F1 S (pT K [Y1 a, Y2 a])) (h0 : ∀ F1, Ex F F1 → I 0 σ F1 M) (hi : ∀ i σ1 F1 F2 M1, Ex F1 F2 → I i σ1 F1 M1 → I i σ1 F2 M1)
    (hs : ∀ F', Ex F F' → ∀ (i : Nat) a x y σ1 F1 M1 H1, l[i]? = some a → Ex F' F1 → Bx F0 Me H0 F1 M1 H1 → I i σ1 F1 M1 → Kn (Y1 a) F1 x → Kn (Y2 a) F1 y → tb { D with nx := InvW F0 Me H0 F' I (i + 1), ct := InvW F0 Me H0 F' I (i + 1), bk := D.nx } ((σ1.set i1 (some x)).set i2 (some y)) H1)
    (hd : ∀ σ1 F1 M1 H1, Ex F F1 → Bx F0 Me H0 F1 M1 H1 → I l.length σ1 F1 M1 → D.nx σ1 H1) : tFor wi (gTup K 2 (gCons (gName i1) (gCons (gName i2) gNil))) tb D σ H :=
  hw F H (Ex.refl F) c.cn _ fun J F2 H2 g wk => by
    refine ⟨fun i m σ1 H3 => m = l.length - i ∧ i ≤ l.length ∧ InvW F0 Me H0 F2 I i σ1 H3, ⟨l.length, by simp, Nat.zero_le _, F2, M, c.go g, Ex.refl F2, h0 F2 g.f⟩, fun i m σ1 H3 hW => ?_⟩
    obtain ⟨rfl, hil, F3, M3, b3, e3, h3⟩ := hW
    have lM : M3.l = M.l := by rw [b3.l, c.l]
    obtain ⟨w1, w2⟩ := wk i F3 M3 H3 e3 lM b3.cn
    by_cases hlt : i < l.length
    · have ha : l[i]? = some l[i] := List.getElem?_eq_getElem hlt
      have hzi : Z[i]? = some (Z[i]'(by omega)) := List.getElem?_eq_getElem (by omega)
      obtain ⟨go, yl⟩ := w2 _ hzi
      refine .inr ⟨go, InvW F0 Me H0 F2 I (i + 1), fun σ' H' hN => ⟨l.length - (i + 1), by omega, rfl, hlt, hN⟩, fun x H' hy => ?_⟩
      obtain ⟨F4, g4, hY⟩ := yl x H' hy
      obtain ⟨ta, txs, rfl, htx, alx⟩ := hZ i _ _ F4 ha hzi (g.f.trans (e3.trans g4.f)) F4 _ (Ex.refl F4) hY
      obtain ⟨x, y, rfl, hx, hy2⟩ := al2' alx
      exact ⟨ta, _, rfl, g4.c.sqT htx, rfl, x, [y], rfl, y, [], rfl, rfl, hs F2 g.f i l[i] x y σ1 F4 M3 H' ha (e3.trans g4.f) (b3.go g4) (hi _ _ _ _ _ g4.f h3) ⟨hx⟩ ⟨hy2⟩⟩
    · have ei : i = l.length := by omega
      subst ei
      exact .inl ⟨w1 (by omega), hd σ1 F3 M3 H3 (g.f.trans e3) b3 h3⟩
theorem q_for2 {α : Type} (l : List α) (Y1 Y2 : α → VP) {Z : List VP} {i1 i2 : Nat} (I : Nat → St → Hp → MM → Prop) (c : Bx F0 Me H0 F M H) (hw : WkD wi σ F M Z) (hZl : Z.length = l.length) (hZ : ∀ (i : Nat) a S F1, l[i]? = some a → Z[i]? = some S → Ex F F1 → Ent F1 S (pT K [Y1 a, Y2 a])) (h0 : ∀ F1, Ex F F1 → I 0 σ F1 M) (hi : ∀ i σ1 F1 F2 M1, Ex F1 F2 → I i σ1 F1 M1 → I i σ1 F2 M1)
    (hs : ∀ F', Ex F F' → ∀ (i : Nat) a x y σ1 F1 M1 H1, l[i]? = some a → Ex F' F1 → Bx F0 Me H0 F1 M1 H1 → I i σ1 F1 M1 → Kn (Y1 a) F1 x → Kn (Y2 a) F1 y → tb { D with nx := InvW F0 Me H0 F' I (i + 1), ct := InvW F0 Me H0 F' I (i + 1), bk := tz D } ((σ1.set i1 (some x)).set i2 (some y)) H1)
    (hd : ∀ σ1 F1 M1 H1, Ex F F1 → Bx F0 Me H0 F1 M1 H1 → I l.length σ1 F1 M1 → tz D σ1 H1) : tSeq (tFor wi (gTup K 2 (gCons (gName i1) (gCons (gName i2) gNil))) tb) tz D σ H :=
  s_for2 (D := { D with nx := tz D }) l Y1 Y2 I c hw hZl hZ h0 hi hs hd
/-! with draws -/
theorem Walks.up {J : It} {F1 : Hp} {Ys : List VP} (w : Walks J F M Ys) (e : Ex F F1) : Walks J F1 M Ys := fun i F2 M2 H2 e2 => w i F2 M2 H2 (e.trans e2)
theorem wk_const {J : It} {Ys : List VP} (w : Walks J F M Ys) : WkD (fun _ H R => R J H) σ F M Ys := fun F1 H e c R q => q J F1 H (Gr.refl c) (w.up e)
theorem wkx_rng1 {α : Type} {n : α → Int} (h : EvAM ta σ F M M1 [pEx fun a => pI (n a)]) (hn : ∀ a, -(2 ^ 62) ≤ n a ∧ n a < 2 ^ 62) : WkX (iRng1 ta) σ F M M1 fun a => (List.range (n a).toNat).map fun (i : Nat) => pI (i : Int) := fun F1 H e c R q =>
  h F1 H e c _ fun F2 H2 vs g hv => by
    cases hv with
    | cons h1 h2 =>
      cases h2
      obtain ⟨a, h1⟩ := h1
      refine ⟨n a, by rw [show _ = V.int (n a) from h1], (hn a).1, (hn a).2, q a _ F2 H2 g fun i F3 M3 H3 e3 _ c3 => ?_⟩
      refine ⟨fun hi => (by rw [List.length_map, List.length_range] at hi; exact hi), fun Y hY => ?_⟩
      rw [List.getElem?_map] at hY
      by_cases hi : i < (n a).toNat
      · rw [List.getElem?_range hi] at hY
        cases hY
        refine ⟨hi, fun y H4 hy => ?_⟩
        obtain ⟨rfl, rfl⟩ := hy
        exact ⟨F3, Gr.refl c3, by rw [Int.zero_add]; rfl⟩
      · rw [List.getElem?_eq_none (by simpa using hi)] at hY
        cases hY
theorem s_forX {α β : Type} (l : α → List β) (Y : β → VP) {j : Nat} (I : α → Nat → St → Hp → MM → Prop) (c : Bx F0 Me H0 F M H) (hw : WkX wi σ F M M1 fun a => (l a).map Y) (hn : M1.n ≤ Me.n) (h0 : ∀ a F1, Ex F F1 → I a 0 σ F1 M1) (hi : ∀ a i σ1 F1 F2 M1, Ex F1 F2 → I a i σ1 F1 M1 → I a i σ1 F2 M1)
    (hs : ∀ a F', Ex F F' → ∀ (i : Nat) b x σ1 F1 M1 H1, (l a)[i]? = some b → Ex F' F1 → Bx F0 Me H0 F1 M1 H1 → I a i σ1 F1 M1 → Kn (Y b) F1 x → tb { D with nx := InvW F0 Me H0 F' (I a) (i + 1), ct := InvW F0 Me H0 F' (I a) (i + 1), bk := D.nx } (σ1.set j (some x)) H1)
    (hd : ∀ a σ1 F1 M1 H1, Ex F F1 → Bx F0 Me H0 F1 M1 H1 → I a (l a).length σ1 F1 M1 → D.nx σ1 H1) : tFor wi (gName j) tb D σ H :=
  hw F H (Ex.refl F) c.cn _ fun a J F2 H2 g wk => s_for (wi := fun _ H R => R J H) (l a) Y (I a) (c.goM g hn) (wk_const wk) (fun F1 e => h0 a F1 (g.f.trans e)) (hi a) (fun F' e => hs a F' (g.f.trans e)) (fun σ1 F1 M1 H1 e => hd a σ1 F1 M1 H1 (g.f.trans e))
theorem q_forX {α β : Type} (l : α → List β) (Y : β → VP) {j : Nat} (I : α → Nat → St → Hp → MM → Prop) (c : Bx F0 Me H0 F M H) (hw : WkX wi σ F M M1 fun a => (l a).map Y) (hn : M1.n ≤ Me.n) (h0 : ∀ a F1, Ex F F1 → I a 0 σ F1 M1) (hi : ∀ a i σ1 F1 F2 M1, Ex F1 F2 → I a i σ1 F1 M1 → I a i σ1 F2 M1)
    (hs : ∀ a F', Ex F F' → ∀ (i : Nat) b x σ1 F1 M1 H1, (l a)[i]? = some b → Ex F' F1 → Bx F0 Me H0 F1 M1 H1 → I a i σ1 F1 M1 → Kn (Y b) F1 x → tb { D with nx := InvW F0 Me H0 F' (I a) (i + 1), ct := InvW F0 Me H0 F' (I a) (i + 1), bk := tz D } (σ1.set j (some x)) H1)
    (hd : ∀ a σ1 F1 M1 H1, Ex F F1 → Bx F0 Me H0 F1 M1 H1 → I a (l a).length σ1 F1 M1 → tz D σ1 H1) : tSeq (tFor wi (gName j) tb) tz D σ H := s_forX (D := { D with nx := tz D }) l Y I c hw hn h0 hi hs hd
theorem GrM.toN {F1 F2 H1 H2 : Hp} (g : GrM M M1 F1 H1 F2 H2) {n : Nat} (h : M1.n ≤ n) : GrM M ⟨M.f, M.l, n⟩ F1 H1 F2 H2 := by
  have w := g.weak (n - M1.n)
  have e1 := g.ef
  have e2 := g.el
  have e : M1.n + (n - M1.n) = n := by omega
  rw [show M1.add (n - M1.n) = ⟨M.f, M.l, n⟩ from by show MM.mk M1.f M1.l (M1.n + (n - M1.n)) = _; rw [e1, e2, e]] at w
  exact w
/-- [e for x in ..], each e with up to k draws -/
theorem en_lcM {α : Type} (l : List α) (Y q : α → VP) (k : Nat) {j : Nat} {vs : List Nat} (hw : WkM wi σ F M M1 (l.map Y)) (hl : l.length ≤ 100000) (hz : ∀ x, wipe ((wipe σ vs).set j (some x)) vs = wipe σ vs)
    (he : ∀ i a x F1 (n : Nat), l[i]? = some a → n ≤ M1.n + i * k → Ex F F1 → Kn (Y a) F1 x → ∃ M2, M2.n ≤ n + k ∧ EvM te ((wipe σ vs).set j (some x)) F1 ⟨M.f, M.l, n⟩ M2 (q a)) (hm : ∀ a, Mono (q a)) :
    EvNM (tLc wi (gName j) tYes te vs) σ F M ⟨M.f, M.l, M1.n + l.length * k⟩ (fun F o => ∃ xs, o = .lst xs ∧ Al F (l.map q) xs) := fun F1 H e c Q kk =>
  hw F1 H e c _ fun J F2 H2 g wk D hD => by
    have hD0 : H D = none := g.onone hD
    have hM : M.f D = none := c.mnone hD0
    have hM1 : M1.f D = none := by rw [g.ef]; exact hM
    refine ⟨fun i m H3 => ∃ F3 acc, m = l.length - i ∧ i ≤ l.length ∧ GrM M ⟨M.f, M.l, M1.n + i * k⟩ F1 H F3 H3 ∧ Ex F2 F3 ∧ F3 D = none ∧ H3 D = some (.lst acc) ∧ Al F3 ((l.take i).map q) acc,
      ⟨l.length, F2, [], by simp, Nat.zero_le _, (g.trans (Gr.lay g.c hD)).toN (by simp), Ex.refl F2, g.c.fnone hD, upd_same, by simp; exact .nil⟩, fun i m H3 hW => ?_⟩
    obtain ⟨F3, acc, rfl, hi, g3, e3, f3, h3, al⟩ := hW
    obtain ⟨w1, w2⟩ := wk i F3 ⟨M.f, M.l, M1.n + i * k⟩ H3 e3 g.el.symm g3.c
    have hacc : acc.length ≤ i := by
      rw [← al.length, List.length_map, List.length_take]
      omega
    by_cases hlt : i < l.length
    · have ha : l[i]? = some l[i] := List.getElem?_eq_getElem hlt
      obtain ⟨go, yl⟩ := w2 (Y l[i]) (by rw [List.getElem?_map, ha]; rfl)
      refine .inr ⟨go, fun H' => ∃ F3 acc, i + 1 ≤ l.length ∧ GrM M ⟨M.f, M.l, M1.n + (i + 1) * k⟩ F1 H F3 H' ∧ Ex F2 F3 ∧ F3 D = none ∧ H' D = some (.lst acc) ∧ Al F3 ((l.take (i + 1)).map q) acc, fun H' hN => ?_, fun x H' hy => ?_⟩
      · obtain ⟨F4, acc4, z⟩ := hN
        exact ⟨l.length - (i + 1), by omega, F4, acc4, rfl, z⟩
      · obtain ⟨F4, g4, hY⟩ := yl x H' hy
        have f4 : F4 D = none := g4.n D f3 (ne_some h3)
        have h4 : H' D = some (.lst acc) := g4.k D _ hM h3
        have e4 : Ex F F4 := e.trans (g.f.trans (e3.trans g4.f))
        obtain ⟨M2, hM2, ev⟩ := he i _ x F4 (M1.n + i * k) ha (Nat.le_refl _) e4 ⟨hY⟩
        refine ⟨hz x, ?_⟩
        dsimp only [tYes]
        rw [if_pos rfl]
        refine ev F4 H' (Ex.refl F4) g4.c _ fun F6 H6 v g6 hv => ?_
        have f6 : F6 D = none := g6.n D f4 (ne_some h4)
        have h6 : H6 D = some (.lst acc) := g6.k D _ hM h4
        have : Monos ((l.take i).map q) := Monos.map (h := hm)
        refine ⟨acc, h6, sz_lt (by omega), F6, acc ++ [v], hlt, (((g3.trans g4).trans g6).toN (by have : M2.n ≤ _ := hM2; rw [Nat.succ_mul]; omega)).chg hD0 hM h6 f6 (fun _ _ z => by cases z), e3.trans (g4.f.trans g6.f), f6, upd_same, ?_⟩
        rw [List.take_add_one, ha]
        simp only [Option.toList_some, List.map_append, List.map_cons, List.map_nil]
        exact (Monos.up F3 F6 _ (g4.f.trans g6.f) al).app (.cons hv .nil)
    · have ei : i = l.length := by omega
      subst ei
      refine .inl ⟨w1 (by simp), kk F3 H3 D _ g3 hD0 h3 f3 ⟨acc, rfl, ?_⟩⟩
      rw [List.take_length] at al
      exact al
end
end Fw
end

section
namespace Fw
open PySem L2
theorem Mp.keep {M M' : MM} {p b : Addr} {o : HO} {φ : Nat → HO → Prop} (h : Mp M M' p o) (hb : M.f b = some φ) (n : b ≠ p) : M'.f b = some φ := by rw [h.ne b n, hb]
theorem Mp.keepN {M M' : MM} {p b : Addr} {o : HO} {φ : Nat → HO → Prop} (h : Mp M M' p o) (hp : M.f p = none) (hb : M.f b = some φ) : M'.f b = some φ := h.keep hb fun z => by rw [z, hp] at hb; cases hb
theorem ne_mf {M : MM} {a b : Addr} {o u : HO} (ha : M.f a = some (eqo o)) (hb : M.f b = some (eqo u)) (h : o ≠ u) : a ≠ b := fun z => by
  rw [z, hb] at ha
  have e := Option.some.inj ha
  have e2 : eqo u 0 u = eqo o 0 u := by rw [e]
  have e3 : u = u := rfl
  exact h (show o = u from e2.mp e3)
/-- M' is M but that p is no more its -/
structure Md (M M' : MM) (p : Addr) : Prop where
  at_ : M'.f p = none
  ne : ∀ b, b ≠ p → M'.f b = M.f b
  l : M'.l = M.l
  n : M'.n = M.n
theorem Md.del {M : MM} {p : Addr} : Md M (mdel M p) p := ⟨mdel_same, fun _ h => mdel_ne h, rfl, rfl⟩
theorem Md.keep {M M' : MM} {p b : Addr} {φ : Nat → HO → Prop} (h : Md M M' p) (hb : M.f b = some φ) (n : b ≠ p) : M'.f b = some φ := by rw [h.ne b n, hb]
section
variable {K : PySem.W.Frag} {σ : St} {F F' F0 H H0 : Hp} {M M1 M2 Me : MM} {tl te ta tb td ty tx tv : TE} {tas : TA} {R S T : VP} {Rs Ss : List VP} {D : Ends} {tz : TS} {f : Str} {v x : V} {C : Addr} {res : Hp → List (Str × V) → Prop}
/-! ### fields -/
theorem ev_fldT (ha : EvM ta σ F M M1 S) (he : Ent F S (pIns C res)) (hc : Cls K C) (hn : NoAttr K C f) (hl : ∀ F1 fs, Ex F F1 → res F1 fs → ∃ v, fs.lookup f = some v ∧ R F1 v) : EvM (tFld K ta f) σ F M M1 R := fun F1 H e c Q q =>
  ha F1 H e c _ fun F2 H2 v g hv => by
    obtain ⟨a, dx, fs, rfl, hi, hr⟩ := he F2 v (e.trans g.f) hv
    obtain ⟨u, h1, h2⟩ := hl F2 fs (e.trans g.f) hr
    exact ⟨a, C, dx, fs, u, rfl, g.c.ins hi, hc, hn, h1, q F2 H2 u g h2⟩
theorem ev_fldM {a dx : Addr} {fs : List (Str × V)} (ha : EvD ta σ F M (pV (.ref a))) (hm : M.f a = some (eqo (.ins C dx fs))) (hc : Cls K C) (hn : NoAttr K C f) (hl : fs.lookup f = some v) : EvD (tFld K ta f) σ F M (pV v) := fun F1 H e c Q q =>
  ha F1 H e c _ fun F2 H2 w g hw => by
    obtain ⟨o, e1, e2⟩ := g.c.sat a _ hm
    subst e2
    exact ⟨a, C, dx, fs, v, hw, e1, hc, hn, hl, q F2 H2 v g rfl⟩
theorem Bx.put (c : Bx F0 Me H0 F M H) {p : Addr} {o o' : HO} (h0 : H0 p = none) (hp : M.f p = some (eqo o)) (hd : ∀ ob kvs, o ≠ .frz ob (.dK kvs)) : Bx F0 Me H0 F (mput M p (eqo o')) (upd H p o') :=
  c.set h0 (by rw [hp]; intro z; cases z) rfl (fun _ _ h => h) fun ob kvs z => by rw [c.at_ hp] at z; exact hd ob kvs (Option.some.inj z)
theorem q_fld {a dx : Addr} {fs : List (Str × V)} (c : Bx F0 Me H0 F M H) (hm : M.f a = some (eqo (.ins C dx fs))) (h0 : H0 a = none) (hc : Cls K C) (hn : NoAttr K C f) (hl : fs.length < 1000) (h : EvD tv σ F M R) (ha : EvD ta σ F M (pV (.ref a))) (hR : Mono R)
    (q : ∀ F' H' M' v, Bx F0 Me H0 F' M' H' → Ex F F' → Mp M M' a (.ins C dx (putF f v fs)) → Kn R F' v → tz D σ H') : tSeq (sFld K ta tv f) tz D σ H :=
  h F H (Ex.refl F) c.cn _ fun F1 H1 v g hv => ha F1 H1 g.f g.c _ fun F2 H2 w g2 hw =>
    have b2 := (c.go g).go g2
    ⟨a, C, dx, fs, hw, b2.at_ hm, hc, hn, hl, q F2 _ _ v (b2.put h0 hm fun _ _ z => by cases z) (g.f.trans g2.f) Mp.put ⟨Mono.up F1 F2 v g2.f hv⟩⟩
theorem s_fld {a dx : Addr} {fs : List (Str × V)} (c : Bx F0 Me H0 F M H) (hm : M.f a = some (eqo (.ins C dx fs))) (h0 : H0 a = none) (hc : Cls K C) (hn : NoAttr K C f) (hl : fs.length < 1000) (h : EvD tv σ F M R) (ha : EvD ta σ F M (pV (.ref a))) (hR : Mono R)
    (q : ∀ F' H' M' v, Bx F0 Me H0 F' M' H' → Ex F F' → Mp M M' a (.ins C dx (putF f v fs)) → Kn R F' v → D.nx σ H') : sFld K ta tv f D σ H :=
  q_fld (tz := fun D => D.nx) (D := D) c hm h0 hc hn hl h ha hR q
/-! ### items -/
def atR (Rs : List VP) (i : Int) : Option VP := atI Rs i
theorem Al.atI {F : Hp} {Rs : List VP} {xs : List V} (h : Al F Rs xs) {i : Int} {R : VP} (e : L2.atI Rs i = some R) : ∃ v, L2.atI xs i = some v ∧ R F v := by
  unfold L2.atI at e ⊢
  rw [h.length] at e
  cases z : ixN xs.length i with
  | none => rw [z] at e; cases e
  | some j =>
    rw [z] at e
    exact h.get e
theorem rv_ixL {i : Int} (he : Ent F S (pQ K Rs)) (ha : atI Rs i = some R) : RvD (rIxL K) S (pI i) F M R := fun F1 H x y e c hx hy Q q => by
  obtain ⟨a, xs, e1, hs, al⟩ := he F1 x e hx
  obtain ⟨v, h1, h2⟩ := al.atI ha
  exact ⟨a, xs, i, v, e1, hy, c.sqL hs, h1, q F1 H v (Gr.refl c) h2⟩
theorem rv_ixT {i : Int} (he : Ent F S (pT K Rs)) (ha : atI Rs i = some R) : RvD (rIxT K) S (pI i) F M R := fun F1 H x y e c hx hy Q q => by
  obtain ⟨a, xs, e1, hs, al⟩ := he F1 x e hx
  obtain ⟨v, h1, h2⟩ := al.atI ha
  exact ⟨a, xs, i, v, e1, hy, c.sqT hs, h1, q F1 H v (Gr.refl c) h2⟩
theorem rv_ixM {i : Int} {p : Addr} {xs : List V} (hm : M.f p = some (eqo (.lst xs))) (ha : atI xs i = some v) : RvD (rIxL K) (pV (.ref p)) (pI i) F M (pV v) := fun F1 H x y e c hx hy Q q => by
  obtain ⟨o, e1, e2⟩ := c.sat p _ hm
  subst e2
  exact ⟨p, xs, i, v, hx, hy, SqL.of e1, ha, q F1 H v (Gr.refl c) rfl⟩
theorem rc_lenL (he : Ent F S (pQ K Rs)) : RcD (rLenS K) [S] F M (pI (Rs.length : Int)) := fun F1 H vs e c hv Q q => by
  cases hv with
  | cons h1 h2 =>
    cases h2
    obtain ⟨a, xs, e1, hs, al⟩ := he F1 _ e h1
    exact ⟨a, xs, by rw [e1], .inl (c.sqL hs), q F1 H _ (Gr.refl c) (by rw [al.length]; rfl)⟩
theorem rc_lenT (he : Ent F S (pT K Rs)) : RcD (rLenS K) [S] F M (pI (Rs.length : Int)) := fun F1 H vs e c hv Q q => by
  cases hv with
  | cons h1 h2 =>
    cases h2
    obtain ⟨a, xs, e1, hs, al⟩ := he F1 _ e h1
    exact ⟨a, xs, by rw [e1], .inr (c.sqT hs), q F1 H _ (Gr.refl c) (by rw [al.length]; rfl)⟩
theorem rc_lenM {p : Addr} {xs : List V} (hm : M.f p = some (eqo (.lst xs))) : RcD (rLenS K) [pV (.ref p)] F M (pI (xs.length : Int)) := fun F1 H vs e c hv Q q => by
  cases hv with
  | cons h1 h2 =>
    cases h2
    obtain ⟨o, e1, e2⟩ := c.sat p _ hm
    subst e2
    exact ⟨p, xs, by rw [show _ = V.ref p from h1], .inl (SqL.of e1), q F1 H _ (Gr.refl c) rfl⟩
/-! ### slices, copies, sums of lists -/
def cutR {α : Type} (xs : List α) (lo hi : Option Int) : List α := (xs.drop (HT.sIx xs.length 0 lo)).take (HT.sIx xs.length xs.length hi - HT.sIx xs.length 0 lo)
theorem Al.cut {F : Hp} {Rs : List VP} {xs : List V} (h : Al F Rs xs) (lo hi : Option Int) : Al F (cutR Rs lo hi) (cutV xs lo hi) := by
  unfold cutR cutV
  rw [h.length]
  exact (h.drop _).take _
theorem cutR_map {α β : Type} (f : α → β) (xs : List α) (lo hi : Option Int) : cutR (xs.map f) lo hi = (cutR xs lo hi).map f := by
  unfold cutR
  rw [List.length_map, List.map_take, List.map_drop]
instance Monos.cut {Rs : List VP} {lo hi : Option Int} [h : Monos Rs] : Monos (cutR Rs lo hi) := h.sub fun R hR => List.mem_of_mem_drop (List.mem_of_mem_take hR)
theorem to_part {i : Int} (h : EvM te σ F M M1 (pI i)) : ∀ F1 H, Ex F F1 → Cn F1 M H → ∀ Q : Option Int → Hp → Prop, (∀ F2 H2, GrM M M1 F1 H F2 H2 → Q (some i) H2) → tPart te σ H Q := fun F1 H e c Q q =>
  h F1 H e c _ fun F2 H2 v g hv => ⟨i, hv, q F2 H2 g⟩
def EvO (to : TO) (σ : St) (F : Hp) (M : MM) (o : Option Int) : Prop := ∀ F1 H, Ex F F1 → Cn F1 M H → ∀ Q : Option Int → Hp → Prop, (∀ F2 H2, Gr M F1 H F2 H2 → Q o H2) → to σ H Q
theorem eo_some {i : Int} (h : EvD te σ F M (pI i)) : EvO (tPart te) σ F M (some i) := to_part h
theorem eo_none : EvO tNoPart σ F M none := fun F1 H e c Q q => q F1 H (Gr.refl c)
theorem en_slL {tlo thi : TO} {lo hi : Option Int} (h : EvM te σ F M M1 S) (h1 : EvO tlo σ F M1 lo) (h2 : EvO thi σ F M1 hi) (he : Ent F S (pQ K Rs)) (hm : Monos Rs) (hS : Mono S) : EvNM (tSl (rSlL K) te tlo thi) σ F M M1 (fun F o => ∃ xs, o = .lst xs ∧ Al F (cutR Rs lo hi) xs) := fun F1 H e c Q q =>
  h F1 H e c _ fun F2 H2 v g hv => h1 F2 H2 (e.trans g.f) g.c _ fun F3 H3 g2 => h2 F3 H3 ((e.trans g.f).trans g2.f) g2.c _ fun F4 H4 g3 => by
    obtain ⟨a, xs, e1, hs, al⟩ := he F4 v (((e.trans g.f).trans g2.f).trans g3.f) (Mono.up F2 F4 v (g2.f.trans g3.f) hv)
    have g4 := (g.trans g2).trans g3
    exact ⟨a, xs, e1, g3.c.sqL hs, fun p hp => q F4 _ p _ (g4.trans (Gr.lay g3.c hp)) (g4.onone hp) upd_same (g3.c.fnone hp) ⟨_, rfl, al.cut lo hi⟩⟩
theorem ev_ofN {Rs : List VP} (h : EvNM te σ F M M1 (fun F o => ∃ xs, o = .lst xs ∧ Al F Rs xs)) (hm : Monos Rs) : EvM te σ F M M1 (pL Rs) := ev_N h fun F1 F2 D o _ _ ⟨xs, eo, al⟩ e2 h2 => ⟨D, xs, rfl, by rw [h2, eo], Monos.up F1 F2 _ e2 al⟩
theorem ev_slL {tlo thi : TO} {lo hi : Option Int} (h : EvM te σ F M M1 S) (h1 : EvO tlo σ F M1 lo) (h2 : EvO thi σ F M1 hi) (he : Ent F S (pQ K Rs)) (hm : Monos Rs) (hS : Mono S) : EvM (tSl (rSlL K) te tlo thi) σ F M M1 (pL (cutR Rs lo hi)) := ev_ofN (en_slL h h1 h2 he hm hS) inferInstance
theorem en_list (h : EvAM tas σ F M M1 [S]) (he : Ent F S (pQ K Rs)) : EvNM (tCB (rListOf K) tas) σ F M M1 (fun F o => ∃ xs, o = .lst xs ∧ Al F Rs xs) := fun F1 H e c Q q =>
  h F1 H e c _ fun F2 H2 vs g hv => by
    cases hv with
    | cons h1 h2 =>
      cases h2
      obtain ⟨a, xs, e1, hs, al⟩ := he F2 _ (e.trans g.f) h1
      exact ⟨a, xs, by rw [e1], .inl (g.c.sqL hs), fun p hp => q F2 _ p _ (g.trans (Gr.lay g.c hp)) (g.onone hp) upd_same (g.c.fnone hp) ⟨_, rfl, al⟩⟩
theorem en_listT (h : EvAM tas σ F M M1 [S]) (he : Ent F S (pT K Rs)) : EvNM (tCB (rListOf K) tas) σ F M M1 (fun F o => ∃ xs, o = .lst xs ∧ Al F Rs xs) := fun F1 H e c Q q =>
  h F1 H e c _ fun F2 H2 vs g hv => by
    cases hv with
    | cons h1 h2 =>
      cases h2
      obtain ⟨a, xs, e1, hs, al⟩ := he F2 _ (e.trans g.f) h1
      exact ⟨a, xs, by rw [e1], .inr (g.c.sqT hs), fun p hp => q F2 _ p _ (g.trans (Gr.lay g.c hp)) (g.onone hp) upd_same (g.c.fnone hp) ⟨_, rfl, al⟩⟩
theorem ev_tupleL (h : EvAM tas σ F M M1 [S]) (he : Ent F S (pQ K Rs)) (hm : Monos Rs) : EvM (tCB (rTupleOf K) tas) σ F M M1 (pTt Rs) := fun F1 H e c Q q =>
  h F1 H e c _ fun F2 H2 vs g hv => by
    cases hv with
    | cons h1 h2 =>
      cases h2
      obtain ⟨a, xs, e1, hs, al⟩ := he F2 _ (e.trans g.f) h1
      exact ⟨a, xs, by rw [e1], .inl ⟨g.c.sqL hs, fun p hp => q (upd F2 p (.tup xs)) _ _ (g.trans (Gr.new g.c hp)) ⟨p, xs, rfl, upd_same, Monos.up F2 _ _ (Ex.new (g.c.fnone hp)) al⟩⟩⟩
theorem ev_tupleT (h : EvAM tas σ F M M1 [S]) (he : Ent F S (pT K Rs)) : EvM (tCB (rTupleOf K) tas) σ F M M1 (pT K Rs) := fun F1 H e c Q q =>
  h F1 H e c _ fun F2 H2 vs g hv => by
    cases hv with
    | cons h1 h2 =>
      cases h2
      obtain ⟨a, xs, e1, hs, al⟩ := he F2 _ (e.trans g.f) h1
      exact ⟨a, xs, by rw [e1], .inr ⟨g.c.sqT hs, q F2 H2 _ g ⟨a, xs, rfl, hs, al⟩⟩⟩
theorem rv_cat {Rs Ss : List VP} (he : Ent F S (pL Rs)) (he2 : Ent F T (pL Ss)) (hl : Rs.length + Ss.length ≤ 100000) (hm : Monos Rs) (hm2 : Monos Ss) : RvD rCat S T F M (pL (Rs ++ Ss)) := fun F1 H x y e c hx hy Q q => by
  obtain ⟨a, xs, e1, hs, al⟩ := he F1 x e hx
  obtain ⟨b, ys, e2, hs2, al2⟩ := he2 F1 y e hy
  refine ⟨a, b, xs, ys, e1, e2, c.lst hs, c.lst hs2, sz_of (by rw [← al.length, ← al2.length]; exact hl), fun p hp => q (upd F1 p (.lst (xs ++ ys))) _ _ (Gr.new c hp) ⟨p, _, rfl, upd_same, ?_⟩⟩
  exact (Monos.up F1 _ _ (Ex.new (c.fnone hp)) al).app (Monos.up F1 _ _ (Ex.new (c.fnone hp)) al2)
/-! ### append -/
theorem q_app {p : Addr} {xs : List V} (c : Bx F0 Me H0 F M H) (hm : M.f p = some (eqo (.lst xs))) (h0 : H0 p = none) (hl : xs.length < 100000) (ha : EvD ta σ F M (pV (.ref p))) (h : EvD te σ F M R) (hR : Mono R)
    (q : ∀ F' H' M' v, Bx F0 Me H0 F' M' H' → Ex F F' → Mp M M' p (.lst (xs ++ [v])) → Kn R F' v → tz D σ H') : tSeq (tDrop (tBM K "list" rAppend ta (tCons te tNil))) tz D σ H :=
  ha F H (Ex.refl F) c.cn _ fun F1 H1 w g hw => by
    rw [show w = V.ref p from hw]
    have b1 := c.go g
    refine ⟨.inl ⟨rfl, xs, SqL.of (b1.at_ hm)⟩, h F1 H1 g.f g.c _ fun F2 H2 v g2 hv => ?_⟩
    have b2 := b1.go g2
    exact ⟨p, xs, v, rfl, rfl, b2.at_ hm, sz_lt hl, q F2 _ _ v (b2.put h0 hm fun _ _ z => by cases z) (g.f.trans g2.f) Mp.put ⟨hv⟩⟩
theorem s_app {p : Addr} {xs : List V} (c : Bx F0 Me H0 F M H) (hm : M.f p = some (eqo (.lst xs))) (h0 : H0 p = none) (hl : xs.length < 100000) (ha : EvD ta σ F M (pV (.ref p))) (h : EvD te σ F M R) (hR : Mono R)
    (q : ∀ F' H' M' v, Bx F0 Me H0 F' M' H' → Ex F F' → Mp M M' p (.lst (xs ++ [v])) → Kn R F' v → D.nx σ H') : tDrop (tBM K "list" rAppend ta (tCons te tNil)) D σ H :=
  q_app (tz := fun D => D.nx) (D := D) c hm h0 hl ha h hR q
/-! ### dicts -/
/-- the dict at d, frozen or changing -/
def DAt (F : Hp) (M : MM) (d : Addr) (kvs : List (Key × V)) : Prop := F d = some (.dK kvs) ∨ M.f d = some (eqo (.dK kvs))
theorem DAt.rd {F1 : Hp} {d : Addr} {kvs : List (Key × V)} (h : DAt F M d kvs) (e : Ex F F1) (c : Cn F1 M H) : Rd H d (.dK kvs) := by
  rcases h with h | h
  · exact c.dk (e _ _ h)
  · obtain ⟨o, e1, e2⟩ := c.sat d _ h
    subst e2
    exact .inl e1
theorem ev_dget {d : Addr} {kvs : List (Key × V)} {k : Key} (hd : EvD td σ F M (pV (.ref d))) (hk : EvD ty σ F M (pV (kV k))) (hv : DAt F M d kvs) (hg : valV kvs k = some v) : EvD (tDGet td ty) σ F M (pV v) := fun F1 H e c Q q =>
  hd F1 H e c _ fun F2 H2 x g hx => hk F2 H2 (e.trans g.f) g.c _ fun F3 H3 y g2 hy =>
    ⟨d, v, hx, .inl ⟨kvs, k, hv.rd ((e.trans g.f).trans g2.f) g2.c, hy, hg.symm⟩, q F3 H3 v (g.trans g2) rfl⟩
theorem ev_dget2 {d : Addr} {kvs : List (Key × V)} {k : Key} {z : V} (hd : EvD td σ F M (pV (.ref d))) (hk : EvD ty σ F M (pV (kV k))) (hz : EvD tx σ F M (pV z)) (hv : DAt F M d kvs) : EvD (tDGet2 td ty tx) σ F M (pV ((valV kvs k).getD z)) := fun F1 H e c Q q =>
  hd F1 H e c _ fun F2 H2 x g hx => ⟨d, hx, .inl ⟨kvs, hv.rd (e.trans g.f) g.c⟩, hk F2 H2 (e.trans g.f) g.c _ fun F3 H3 y g2 hy => hz F3 H3 ((e.trans g.f).trans g2.f) g2.c _ fun F4 H4 w g3 hw =>
    ⟨valV kvs k, .inl ⟨kvs, k, hv.rd (((e.trans g.f).trans g2.f).trans g3.f) g3.c, hy, rfl⟩, by rw [show w = z from hw]; exact q F4 H4 _ ((g.trans g2).trans g3) rfl⟩⟩
theorem q_dput {d : Addr} {kvs : List (Key × V)} {k : Key} (c : Bx F0 Me H0 F M H) (hm : M.f d = some (eqo (.dK kvs))) (h0 : H0 d = none) (hl : kvs.length < 100000) (hv : EvD tv σ F M R) (hd : EvD td σ F M (pV (.ref d))) (hk : EvD ty σ F M (pV (kV k))) (hR : Mono R)
    (q : ∀ F' H' M' v, Bx F0 Me H0 F' M' H' → Ex F F' → Mp M M' d (.dK (putK kvs k v)) → Kn R F' v → tz D σ H') : tSeq (sDPut td ty tv) tz D σ H :=
  hv F H (Ex.refl F) c.cn _ fun F1 H1 v g hv => hd F1 H1 g.f g.c _ fun F2 H2 x g2 hx => hk F2 H2 (g.f.trans g2.f) g2.c _ fun F3 H3 y g3 hy =>
    have b3 := ((c.go g).go g2).go g3
    ⟨d, _, hx, .inl ⟨kvs, k, b3.at_ hm, hy, sz_lt hl, rfl⟩, q F3 _ _ v (b3.put h0 hm fun _ _ z => by cases z) ((g.f.trans g2.f).trans g3.f) Mp.put ⟨Mono.up F1 F3 v (g2.f.trans g3.f) hv⟩⟩
theorem s_dput {d : Addr} {kvs : List (Key × V)} {k : Key} (c : Bx F0 Me H0 F M H) (hm : M.f d = some (eqo (.dK kvs))) (h0 : H0 d = none) (hl : kvs.length < 100000) (hv : EvD tv σ F M R) (hd : EvD td σ F M (pV (.ref d))) (hk : EvD ty σ F M (pV (kV k))) (hR : Mono R)
    (q : ∀ F' H' M' v, Bx F0 Me H0 F' M' H' → Ex F F' → Mp M M' d (.dK (putK kvs k v)) → Kn R F' v → D.nx σ H') : sDPut td ty tv D σ H :=
  q_dput (tz := fun D => D.nx) (D := D) c hm h0 hl hv hd hk hR q
/-- the walk over a dict's keys: the dict is locked meanwhile -/
theorem ev_lock {t : TE} {d : Addr} {kvs : List (Key × V)} (hd : F d = some (.dK kvs)) (hl : M.l d = none) (h : ∀ ob, EvD t σ F (mlck M d ob) R) : EvD (tLockE t) σ F M R := fun F1 H e c Q q => by
  have hd1 := e _ _ hd
  have hH : H d = some (.dK kvs) := c.dkU hd1 hl
  have hM : M.f d = none := by
    cases z : M.f d with
    | none => rfl
    | some φ =>
      have := c.dis d (by rw [z]; intro y; cases y)
      rw [hd1] at this
      cases this
  refine ⟨d, .dK kvs, hH, trivial, fun od => ?_⟩
  have on : ∀ a u, a ≠ d → H a = some u → upd H d (.frz od (.dK kvs)) a = some u := fun a u z y => by rw [upd_ne z]; exact y
  have ls : ∀ a, a ≠ d → (mlck M d od).l a = M.l a := fun a z => if_neg z
  have ls0 : (mlck M d od).l d = some od := if_pos rfl
  have c1 : Cn F1 (mlck M d od) (upd H d (.frz od (.dK kvs))) := by
    refine ⟨fun a u y => ?_, fun a φ y => ?_, c.dis, fun a ob y => ?_, c.up⟩
    · by_cases z : a = d
      · subst z
        rw [hd1] at y
        cases y
        exact .inr ⟨od, kvs, ls0, rfl, upd_same⟩
      · rcases c.ex a u y with w | ⟨ob, k2, w, e2, w2⟩
        · exact .inl (on a u z w)
        · exact .inr ⟨ob, k2, by rw [ls a z]; exact w, e2, on a _ z w2⟩
    · obtain ⟨u, e1, e2⟩ := c.sat a φ y
      exact ⟨u, on a u (fun z => by rw [z] at y; rw [show M.f d = some φ from y] at hM; cases hM) e1, e2⟩
    · by_cases z : a = d
      · subst z
        rw [ls0] at y
        cases y
        exact ⟨kvs, upd_same⟩
      · rw [ls a z] at y
        obtain ⟨k2, e1⟩ := c.lk a ob y
        exact ⟨k2, on a _ z e1⟩
  refine h od F1 _ e c1 _ fun F2 H2 v g hv => ?_
  have h2 : H2 d = some (.frz od (.dK kvs)) := g.k d _ hM upd_same
  have hd2 := g.f _ _ hd1
  have on2 : ∀ a u, a ≠ d → H2 a = some u → upd H2 d (.dK kvs) a = some u := fun a u z y => by rw [upd_ne z]; exact y
  refine ⟨h2, q F2 _ v ⟨g.f, ⟨fun a u y => ?_, fun a φ y => ?_, g.c.dis, fun a ob y => ?_, g.c.up⟩, fun a u y w => ?_, fun a y w => g.n a y ?_, rfl, rfl⟩ hv⟩
  · by_cases z : a = d
    · subst z
      rw [hd2] at y
      cases y
      exact .inl upd_same
    · rcases g.c.ex a u y with w | ⟨ob, k2, w, e2, w2⟩
      · exact .inl (on2 a u z w)
      · rw [ls a z] at w
        exact .inr ⟨ob, k2, w, e2, on2 a _ z w2⟩
  · obtain ⟨u, e1, e2⟩ := g.c.sat a φ y
    exact ⟨u, on2 a u (fun z => by rw [z] at y; rw [show M.f d = some φ from y] at hM; cases hM) e1, e2⟩
  · have z : a ≠ d := fun z => by rw [z, hl] at y; cases y
    obtain ⟨k2, e1⟩ := g.c.lk a ob (by rw [ls a z]; exact y)
    exact ⟨k2, on2 a _ z e1⟩
  · by_cases z : a = d
    · subst z
      rw [hH] at w
      cases w
      exact upd_same
    · exact on2 a u z (g.k a u y (on a u z w))
  · by_cases z : a = d
    · rw [z, upd_same]
      intro x
      cases x
    · rw [upd_ne z]
      exact w
theorem wk_keys {d : Addr} {kvs : List (Key × V)} {ob : Obj} (h : EvD td σ F M (pV (.ref d))) (hd : F d = some (.dK kvs)) (hl : M.l d = some ob) : WkD (iKeys td) σ F M (kvs.map fun kv => pV (kV kv.1)) := fun F1 H e c R q =>
  h F1 H e c _ fun F2 H2 v g hv => by
    have hf : ∀ F3 M3 H3, Ex F2 F3 → M3.l = M.l → Cn F3 M3 H3 → H3 d = some (.frz ob (.dK kvs)) := fun F3 M3 H3 e3 l3 c3 => by
      obtain ⟨k2, e1⟩ := c3.lk d ob (by rw [l3]; exact hl)
      rcases c3.ex d _ (e3 _ _ (g.f _ _ (e _ _ hd))) with w | ⟨ob2, k3, _, e2, w⟩
      · rw [e1] at w; cases w
      · cases e2
        rw [e1] at w
        cases w
        exact e1
    refine ⟨d, ob, hv, .inl ⟨kvs, hf F2 M H2 (Ex.refl F2) rfl g.c, q _ F2 H2 g fun i F3 M3 H3 e3 l3 c3 => ?_⟩⟩
    have h3 := hf F3 M3 H3 e3 l3 c3
    refine ⟨fun hi => ⟨h3, (by rw [List.length_map] at hi; exact hi)⟩, fun Y hY => ?_⟩
    rw [List.getElem?_map] at hY
    cases z : kvs[i]? with
    | none => rw [z] at hY; cases hY
    | some kv =>
      rw [z] at hY
      cases hY
      refine ⟨⟨h3, (List.getElem?_eq_some_iff.mp z).1⟩, fun x H4 hy => ?_⟩
      obtain ⟨rfl, k, v2, h4, rfl⟩ := hy
      rw [z] at h4
      cases h4
      exact ⟨F3, Gr.refl c3, rfl⟩
end
end Fw
end

section
namespace Fw
open PySem L2
section
variable {X : L2.Cx} {x : Str} {pos : Pos}
theorem pe_globS {z : Str} (h : ∃ t, X.mg x = some (.str z t)) (hg : Gl X x) (hd : (x == ("__debug__" : Str)) = false := by decide) : PE X (.Name x pos) (tC (.str z)) := by
  obtain ⟨t, h⟩ := h
  exact pe_glob hg h ⟨t, rfl⟩ hd
theorem pe_globI {z : Int} (h : ∃ t, X.mg x = some (.int z t)) (hg : Gl X x) (hd : (x == ("__debug__" : Str)) = false := by decide) : PE X (.Name x pos) (tC (.int z)) := by
  obtain ⟨t, h⟩ := h
  exact pe_glob hg h ⟨t, rfl⟩ hd
end
section
variable {K : PySem.W.Frag} {σ : St} {F F' F0 H H0 : Hp} {M Me : MM} {tl te ta tb td ty tx tv : TE} {tas : TA} {R S T : VP} {Rs Ss : List VP} {D : Ends} {tz : TS} {f : Str} {v x : V}
theorem al_pV {F : Hp} : ∀ {ys xs : List V}, Al F (ys.map pV) xs → xs = ys
  | [], _, .nil => rfl
  | y :: ys, _, .cons a b => by rw [show _ = y from a, al_pV b]
theorem al_pV' {F : Hp} : ∀ (ys : List V), Al F (ys.map pV) ys
  | [] => .nil
  | y :: ys => .cons rfl (al_pV' ys)
theorem ent_cT {a : Addr} {ys : List V} (h : ∀ F, SqT K F a ys) : Ent F (pV (.ref a)) (pT K (ys.map pV)) := fun F1 v e hv => ⟨a, ys, hv, h F1, al_pV' ys⟩
theorem rv_inT {ys : List V} (he : Ent F T (pT K (ys.map pV))) (hx : flatV x = true) (hys : ys.all flatV = true) : RvD (rIn K false) (pV x) T F M (pB (inV x ys)) := fun F1 H x' y e c hx' hy Q q => by
  obtain ⟨a, xs, e1, hs, al⟩ := he F1 y e hy
  rw [al_pV al] at hs
  rw [show x' = x from hx']
  exact ⟨a, ys, e1, .inr (c.sqT hs), hx, hys, q F1 H _ (Gr.refl c) rfl⟩
theorem rv_inL {ys : List V} (he : Ent F T (pQ K (ys.map pV))) (hx : flatV x = true) (hys : ys.all flatV = true) : RvD (rIn K false) (pV x) T F M (pB (inV x ys)) := fun F1 H x' y e c hx' hy Q q => by
  obtain ⟨a, xs, e1, hs, al⟩ := he F1 y e hy
  rw [al_pV al] at hs
  rw [show x' = x from hx']
  exact ⟨a, ys, e1, .inl (c.sqL hs), hx, hys, q F1 H _ (Gr.refl c) rfl⟩
/-- a known value of a kind -/
def pKv (K : PySem.W.Frag) (k : DK) (v : V) : VP := fun F w => w = v ∧ TyX K F v k.t ∧ k.Ok K
instance {k : DK} {v : V} : Mono (pKv K k v) := ⟨fun F F' w e h => ⟨h.1, tyX_up e h.2.1, h.2.2⟩⟩
theorem pKv_kd {k : DK} {v : V} : Ent F (pKv K k v) (pKd K k) := fun F1 w e h => by rw [h.1]; exact h.2
theorem tyX_int {v : V} {t : Value} (h : TyX K F v t) (ht : t = .type "int") : ∃ i, v = .int i := by
  cases h with
  | base b => cases b <;> first | exact ⟨_, rfl⟩ | simp at ht
  | _ => simp at ht
theorem tyX_ofInt {i : Int} {t : Value} (h : TyX K F (.int i) t) : t = .type "int" := by
  cases h with
  | base b => cases b; rfl
end
end Fw
namespace Fw
open PySem L2
section
variable {K : PySem.W.Frag} {σ : St} {F F' : Hp} {M M1 M2 : MM} {ta : TE} {R S T P0 : VP} {C : Addr} {m : Str} {res : Hp → List (Str × V) → Prop}
theorem ev_meth (c : Con) (a : c.α) {t : TA} {Rs Ps Ds : List VP} {dvs : List V} {E : XK} (ha : EvM ta σ F M M1 S) (he0 : Ent F S P0) (hself : ∀ F, Ent F P0 (pIns C res)) (hno : ∀ F fs, res F fs → fs.lookup m = none) (h : EvAM t σ F M1 M2 Rs) (hd : Al F Ds dvs) (he : Ents F (Rs ++ Ds) Ps) (hp : c.pre a = P0 :: Ps) (hs : c.side a M2) (hm : Monos Ds) (hm0 : Mono P0) :
    EvM (tMeth C m c.sp dvs E ta t) σ F M (M2.add (c.cost a)) (c.res a) := fun F1 H e k Q q =>
  ha F1 H e k _ fun F2 H2 x g hx => by
    have hx0 := he0 F2 x (e.trans g.f) hx
    obtain ⟨ad, dx, fs, rfl, hi, hr⟩ := hself F2 F2 x (Ex.refl F2) hx0
    exact ⟨ad, dx, fs, rfl, g.c.ins hi, hno _ _ hr, h F2 H2 (e.trans g.f) g.c _ fun F3 H3 vs g2 hv =>
      ⟨F3, M2, a, g2.c, by rw [hp]; exact .cons (Mono.up F2 F3 _ g2.f hx0) (he.al ((e.trans g.f).trans g2.f) (hv.app (Monos.up F F3 _ ((e.trans g.f).trans g2.f) hd))), hs, fun F4 H4 v g3 r => q F4 H4 v ((g.trans g2).trans g3) r⟩⟩
end
end Fw
end

section
/-! own exceptions whose __init__ says Base.__init__(self, text), Base an own class over ValueError -/
namespace Fw
open PySem L2
section
variable {X : L2.Cx} {e : Expr} {es : List Expr} {ta : TA} {p1 p2 pos : Pos} {x : Str} {B : Addr}
/-- B.__init__(self, ..), B an own class that has ValueError's -/
structure BaseI (K : PySem.W.Frag) (B : Addr) : Prop where
  rd : PySem.W.readsIn K B (.type "type") = true
  ga : PySem.W.specialIn K (.ref B) "__getattribute__" = some (some (.builtin "type.__getattribute__"))
  at_ : PySem.W.findCls K (.ref B) (.type "type") "__init__" = some (.val (.builtin "ValueError.__init__"))
theorem pe_baseinit {pl : Sem Bool} (hg : Gl X x) (hm : X.mg x = some (.ref B)) (b : BaseI X.K B) (ha : PA X (e :: es) ta)
    (hc : eval (.Call (.Attribute (.Name x p1) "__init__" p2) (e :: es) [] pos) X.env = (do
      let ov ← eval (.Name x p1) X.env
      standAt p2.atName
      let (f, first) ← holding [ov] (getMethod ov "__init__" pl)
      callWith pos f first (backTo pos (starEach (e :: es) X.env)) (backToKw pos (keywordEach [] X.env))) := by rfl)
    (hd : (x == ("__debug__" : Str)) = false := by decide)
    (he : starEach (e :: es) X.env = (false, eval e X.env) :: starEach es X.env := by rfl) (hpl : (backTo pos (starEach es X.env)).any (·.1) = false := by rfl) :
    PE X (.Call (.Attribute (.Name x p1) "__init__" p2) (e :: es) [] pos) (tVeI X.K ta) := by
  refine ⟨fun pins s σ H Q I h => ?_⟩
  refine PySem.W.methodCall_KW (ld_glob I hg hm ?_ hd) hc
  obtain ⟨m, fr⟩ := I.fr
  refine PySem.W.method_cls (I.ok.mod.kin.keeps fr.keep) b.ga ?_
  refine PySem.W.cls_value (I.ok.mod.kin.keeps fr.keep) b.rd b.at_ (by decide +kernel) ?_
  show wpAny _ _ (callWith pos (Value.builtin "ValueError.__init__") [] (backTo pos (starEach (e :: es) X.env)) []) _ _ _
  refine PyProof.Rows.callWith_method1 (thn (ha.run pos pins _ σ H _ (I.tok _) h) fun us s1 ⟨vs, H1, I1, r1, a, C, ws, ev, hl, T, ea, q⟩ => ?_) he hpl
  subst ev
  cases r1 with
  | @cons _ u0 _ ur ra rw' =>
    obtain rfl : u0 = Value.ref a := ra
    have hlen : ur.length ≤ sizeLine := by
      rw [← Vals.length rw', sizeLine_eq]
      omega
    exact oinit_ok T I1 ea hlen fun s' J => ⟨.non, H1, J, rfl, q⟩
/-- what such an __init__(self, v) with one field does -/
def spX1 (C : Addr) (f : Str) : Sp := fun vs H Q _ => ∃ (a : Addr) (v : V), vs = [.ref a, v] ∧ H a = some (exo a C none) ∧ ∀ d, H d = none → d ≠ a → Q .non (upd (upd H d (exd d [(f, v)])) a (exo a C (some d)))
theorem rd_exc1 {K : PySem.W.Frag} {C : Addr} {f : Str} {m : V} {vs : List V} {H : Hp} {Q : VK} {E : XK} {N : List Str} {p q : Str} (hN : N = [p, q]) (h : spX1 C f vs H Q E) (T : OexC K C) (hno : PySem.W.findIn K (.ref C) f = some none) :
    tSeq (tDrop (tVeI K (tCons (tVar 0) (tCons (tC m) tNil)))) (tOst K f (tVar 0) (tVar 1)) { nx := fun _ H' => Q .non H', rt := Q } (L2.start N vs) H := by
  obtain ⟨a, v, rfl, ha, k⟩ := h
  subst hN
  refine ⟨_, rfl, a, C, [m], rfl, (by show 1 ≤ 1000; decide), T, ha, _, rfl, _, rfl, a, C, rfl, T, hno, .inl ⟨ha, fun d hd ne => k d hd ne⟩⟩
/-- no fields -/
def spX0 (C : Addr) : Sp := fun vs H Q _ => ∃ a : Addr, vs = [.ref a] ∧ H a = some (exo a C none) ∧ Q .non H
theorem rd_exc0 {K : PySem.W.Frag} {C : Addr} {m : V} {vs : List V} {H : Hp} {Q : VK} {E : XK} {N : List Str} {p : Str} (hN : N = [p]) (h : spX0 C vs H Q E) (T : OexC K C) :
    tDrop (tVeI K (tCons (tVar 0) (tCons (tC m) tNil))) { nx := fun _ H' => Q .non H', rt := Q } (L2.start N vs) H := by
  obtain ⟨a, rfl, ha, k⟩ := h
  subst hN
  exact ⟨_, rfl, a, C, [m], rfl, (by show 1 ≤ 1000; decide), T, ha, k⟩
/-- where it is all let go, d is new -/
theorem heap_exc1 {H : Hp} {a d C : Addr} {f : Str} {v : V} (ha : H a = none) (hd : upd H a (exo a C none) d = none) (ne : d ≠ a) :
    upd (del (upd (upd (upd H a (exo a C none)) d (exd d [(f, v)])) a (exo a C (some d))) a) d (.xd [(f, v)]) = upd H d (.xd [(f, v)]) := by
  funext b
  by_cases hb : b = d
  · rw [hb, upd_same, upd_same]
  · rw [upd_ne hb, upd_ne hb]
    by_cases hb2 : b = a
    · rw [hb2, del_same, ha]
    · rw [del_ne hb2, upd_ne hb2, upd_ne hb, upd_ne hb2]
/-- C(e) of a class with one field, raised: its reading -/
theorem mkO1 {σ : St} {F H : Hp} {M : MM} {C : Addr} {f : Str} {R : VP} (h : EvA ta σ F M [R]) (hm : Mono R) {F1 : Hp} (e : Ex F F1) (c : Cn F1 M H) {Q : XK}
    (q : ∀ F' H' d v, Gr M F1 H F' H' → H d = none → F' d = some (.xd [(f, v)]) → R F' v → Q (.ref C) (some d) H') : tMkO C (spX1 C f) [] ta σ H Q :=
  h F1 H e c _ fun F2 H2 vs g hv => by
    cases hv with
    | @cons _ v _ _ h1 h2 =>
      cases h2
      refine ⟨by show 1 ≤ 1000; decide, fun a ha => ⟨a, v, rfl, upd_same, fun d hd ne => ?_⟩⟩
      have hd2 : H2 d = none := by
        rw [upd_ne ne] at hd
        exact hd
      refine ⟨rfl, d, [(f, v)], upd_same, (by rw [upd_ne ne, upd_same]), hd2, ?_⟩
      rw [heap_exc1 ha hd ne]
      exact q (upd F2 d (.xd [(f, v)])) _ d v (g.trans (Gr.new g.c hd2)) (g.onone hd2) upd_same (Mono.up F2 _ _ (Ex.new (g.c.fnone hd2)) h1)
end
end Fw
end

section
/-! try with several clauses of one name; own exceptions in the air of ExcCtx -/
namespace Fw
open PySem PySem.Spec PyProof.Rows L2
def wManyA (K : PySem.W.Frag) (i : Nat) (Wout : WX) (D : Ends) : List (Value × (Addr → Value → Option Addr → TS)) → WX
  | [] => Wout
  | (c, ts) :: r => fun cls d σ H => ∃ b, PySem.W.exmOne K cls c = some b ∧ (b = true → ∀ a, H a = none → ts a cls d { nx := fun σ' H' => D.nx (σ'.set i none) H', rt := D.rt, bk := fun σ' H' => D.bk (σ'.set i none) H', ct := fun σ' H' => D.ct (σ'.set i none) H' } (σ.set i (some (.ref a))) H) ∧
    (b = false → wManyA K i Wout D r cls d σ H)
inductive HdsA (X : L2.Cx) (n : Str) : List ExceptHandler → List (Value × (Addr → Value → Option Addr → TS)) → Prop
  | nil : HdsA X n [] []
  | cons {x : Str} {c : Value} {ts : Addr → Value → Option Addr → TS} {b₀ : Stmt} {suite : List Stmt} {np pos' : Pos} {hds : List ExceptHandler} {l : List (Value × (Addr → Value → Option Addr → TS))} (hc : Names X x c)
      (hsu : ∀ (a : Addr) (oe : Obj) (cls : Value) (d : Option Addr) (pn : List (Addr × Obj)), L2N.Zn cls d oe → (∃ vs, oe.data = .fields vs) → PSs (X.suite a ((a, oe) :: pn)) (b₀ :: suite) (ts a cls d)) (r : HdsA X n hds l) :
      HdsA X n (.ExceptHandler (some (.Name x np)) (some n) (b₀ :: suite) pos' :: hds) ((c, ts) :: l)
section
variable {X : L2.Cx} {n : Str} {i : Nat} {body : List Stmt} {h₀ : ExceptHandler} {hds : List ExceptHandler} {l : List (Value × (Addr → Value → Option Addr → TS))} {pos : Pos} {tb : WX → TS} {Wout : WX}
theorem ps_try_manyA (hs : X.stack = X.env :: X.outer) (hf : X.env.frame = some X.env.locals) (hN : X.N.Nodup) (hi : X.N[i]? = some n) (hln : X.env.kindOf n = some .local) (tk : L2N.Takes X Wout)
    (hb : ∀ (W : WX) (pn : List (Addr × Obj)) (xe : Value → Shared → Prop), L2N.Takes (X.tr pn xe) W → PassesOwn (model X.prog X.w) X.A X.env xe → PSs (X.tr pn xe) body (tb W))
    (hh : HdsA X n (h₀ :: hds) l) : PS X (.Try body (h₀ :: hds) [] [] pos) (fun D σ H => tb (wManyA X.K i Wout D l) D σ H) := by
  refine ⟨fun pins s σ H D I h => ?_⟩
  have ok := I.ok
  have hfr : X.A.frames = some (X.env :: X.outer) := by rw [ok.frames, hs]
  have hloc : Loc X.env.scope n := .inl hln
  refine wpAny_Try_except ?_
  refine wpAny_mono ((hb (wManyA X.K i Wout D l) (X.pn ++ pins) (fun e s₁ => wpAny (model X.prog X.w) X.A (noteFrame e X.env) (fun _ s₂ => wpAny (model X.prog X.w) X.A (setFlight e none) (fun _ s₃ =>
    wpAny (model X.prog X.w) X.A (handleBy e X.env (h₀ :: hds)) (SP X pins D) X.xe s₃) X.xe s₂) X.xe s₁) (fun u s' xx => ?_) PassesOwn.looking).run [] s σ H D (I.toTry _) h) (fun f s1 hsp => ?_) (fun e s1 he => he)
  · obtain ⟨a, B, sI, pins', σ', H', cls, d, rfl, J', nb, up, sky, na, os, ag, w⟩ := xx
    have J : Inv X pins σ' H' sI := J'.ofTry ok
    have sky' : L2.Sky B (X.env :: X.outer) a (L2N.Zn cls d) X.env.locals s'.heap := by rw [← hs]; exact sky
    show wpAny (model X.prog X.w) X.A (noteFrame (.ref a) X.env) _ _ _
    refine L2N.Sky.land L2N.Zn.steady hfr hf sky' fun h3 fl3 up3 => ?_
    have J3 : Inv X pins σ' H' { s' with heap := h3 } := J.landed nb fl3.1 (up.trans up3) os ag
    obtain ⟨oe3, vs3, he3, hz3, hd3⟩ := fl3.there
    have nfr : a ∉ frs (X.env :: X.outer) := fun hm => by
      obtain ⟨_, o', e', hnf⟩ := (fl3.2.2.1).mem hm
      rw [he3] at e'; cases e'
      exact hnf _ hd3
    have nL : a ≠ X.env.locals := fun z => nfr (List.mem_filterMap.mpr ⟨X.env, List.mem_cons_self, by rw [hf, z]⟩)
    have nF : a ∉ X.fs := fun hm => by
      obtain ⟨e, he, q⟩ := List.mem_filterMap.mp hm
      exact nfr (List.mem_filterMap.mpr ⟨e, List.mem_cons_of_mem _ he, q⟩)
    have S3 := J3.suite he3 hd3 na nL nF
    have go : ∀ {hds' : List ExceptHandler} {l' : List (Value × (Addr → Value → Option Addr → TS))}, HdsA X n hds' l' → wManyA X.K i Wout D l' cls d σ' H' →
        wpAny (model X.prog X.w) X.A (handleBy (.ref a) X.env hds') (SP X pins D) X.xe { s' with heap := h3 } := by
      intro hds' l' hk
      induction hk with
      | nil =>
        intro w
        refine wpAny_handleBy_nil ?_
        obtain ⟨k1, k2, k3, oe, vs, T, oT, ts', he, hz, hd, h1, hr⟩ := id fl3
        unfold PySem.passOn
        refine wpAny_bind (wpAny_field he hd h1 ?_)
        rw [if_neg (show ¬ ((Value.ref T == Value.none) = true) from by simp)]
        have fin : wpAny (model X.prog X.w) X.A (setFlight (.ref a) X.env.frame) (fun _ s4 => wpAny (model X.prog X.w) X.A (throw (.ref a) : Sem Flow) (SP X pins D) X.xe s4) X.xe { s' with heap := h3 } := by
          rw [hf]
          refine HandSPX.setFlight_upZ fl3 fun h4 hh4 up4 => wpAny_throw (tk _ _ ?_)
          exact ⟨a, B, sI, pins, σ', H', cls, d, rfl, J, nb, (up.trans up3).trans up4, .inr (.inr (by rw [hs]; exact hh4)), na, os, ag, w⟩
        first
          | exact wpAny_bind (wpAny_pure (wpAny_bind fin))
          | exact wpAny_bind fin
      | @cons x c ts b₀ suite np pos' hds2 l2 hc hsu r ih =>
        intro w
        obtain ⟨b, hb1, hyes, hno⟩ := w
        refine wpAny_handleBy_cons (codeAny_handlers_test ?_) (by intro q; cases q)
        have LT : PySem.W.Looks (model X.prog X.w) h3 (typeOf (.ref a)) cls := fun A Q E s k q => wpAny_typeOf_ref (k _ _ he3) (by rw [hz3.1]; exact q)
        have LM := PySem.W.exm_one (M := model X.prog X.w) (J3.kIn) LT hb1
        have test : ∀ {Q : Value → Shared → Prop} {E : Value → Shared → Prop}, Q c { s' with heap := h3 } → wpAny (model X.prog X.w) (X.A.mark (some (.ref a))) (eval (.Name x np) X.env) Q E { s' with heap := h3 } := fun {Q E} q => by
          obtain ⟨hg, hdbg, hm | ⟨hm, hv, hnn⟩⟩ := hc
          · exact ld_glob (X := X.suite a ((a, oe3) :: (X.pn ++ pins))) S3 hg hm q hdbg
          · exact ld_blt (X := X.suite a ((a, oe3) :: (X.pn ++ pins))) S3 hg hm hv q hnn hdbg
        refine test (LM.here ?_)
        cases b with
        | true =>
          refine codeAny_handlers_suite_as ?_
          refine HandSPX.lands_againZ fl3 fun h4 fl4 up4 => ?_
          have J4 : Inv X pins σ' H' { s' with heap := h4 } := J.landed nb fl4.1 ((up.trans up3).trans up4) os ag
          obtain ⟨oe4, vs4, he4, hz4, hd4⟩ := fl4.there
          have S4 := J4.suite he4 hd4 na nL nF
          refine store_ok (X := X.suite a ((a, oe4) :: (X.pn ++ pins))) (v := .ref a) S4 hN hi hloc rfl (fun s5 S5 => ?_) (.inr hln)
          refine wpAny_mono ((hsu a oe4 cls d (X.pn ++ pins) hz4 ⟨_, hd4⟩).run [] s5 _ H' _ S5 (hyes rfl a na)) (fun f s6 hsp => ?_) (fun _ _ z => False.elim z)
          have end_ : ∀ {σ6 : L2.St} {H6 : Hp} {Q : Shared → Prop}, Inv (X.suite a ((a, oe4) :: (X.pn ++ pins))) [] σ6 H6 s6 → (∀ s7, Inv X pins (σ6.set i none) H6 s7 → Q s7) →
              wpAny (model X.prog X.w) X.A (do bindName X.env n .none; unbindBehindTheSuite X.env n pos') (fun _ s7 => Q s7) X.xe s6 := fun {σ6 H6 Q} S6 hq => gone_ok (S6.unsuite ok) hN hi hln hq
          cases f with
          | next =>
            obtain ⟨σ6, H6, S6, q6⟩ := hsp
            exact end_ S6 fun s7 J7 => ⟨_, _, J7, q6⟩
          | brk =>
            obtain ⟨σ6, H6, S6, q6⟩ := hsp
            exact end_ S6 fun s7 J7 => ⟨_, _, J7, q6⟩
          | cont =>
            obtain ⟨σ6, H6, S6, q6⟩ := hsp
            exact end_ S6 fun s7 J7 => ⟨_, _, J7, q6⟩
          | ret u =>
            obtain ⟨v6, σ6, H6, S6, r6, q6⟩ := hsp
            exact end_ S6 fun s7 J7 => ⟨_, _, _, J7, r6, q6⟩
        | false =>
          show wpAny _ X.A (handleBy (.ref a) X.env hds2) _ _ _
          exact ih (hno rfl)
    exact go hh w
  · cases f with
    | next =>
      obtain ⟨σ', H', J', q⟩ := hsp
      exact wpAny_execs_nil ⟨σ', H', J'.ofTry ok, q⟩
    | brk =>
      obtain ⟨σ', H', J', q⟩ := hsp
      exact ⟨σ', H', J'.ofTry ok, q⟩
    | cont =>
      obtain ⟨σ', H', J', q⟩ := hsp
      exact ⟨σ', H', J'.ofTry ok, q⟩
    | ret u =>
      obtain ⟨v, σ', H', J', r, q⟩ := hsp
      exact ⟨v, σ', H', J'.ofTry ok, r, q⟩
end
/-! ### own exceptions with an __init__ of their own -/
section
variable {X : L2.Cx} {e : Expr} {es : List Expr} {ta : TA} {p pos : Pos} {x : Str} {C fI : Addr} {k : Nat} {fd : FuncData} {ps : List Str} {sp : Sp} {CX : CXT}
theorem pmkN_oex (T : OexC X.K C) (iC : PySem.W.findIn X.K (.ref C) "__init__" = some (some (.ref fI))) (tI : PySem.W.typeIn X.K (.ref fI) = some (.type "function"))
    (F1 : FnOk X.prog X.w X.K X.mg X.base CX k fI fd ps sp) (hr : Room (k + 1) X.A) (hb : Binds X.K fd ps []) (hx : Passes CX X (fun _ _ _ => False)) (hg : Gl X x) (hm : X.mg x = some (.ref C)) (ha : PA X (e :: es) ta)
    (hdb : (x == ("__debug__" : Str)) = false := by decide) (he : starEach (e :: es) X.env = (false, eval e X.env) :: starEach es X.env := by rfl) (hpl : (backTo pos (starEach es X.env)).any (·.1) = false := by rfl) :
    L2N.PMk X (.Call (.Name x p) (e :: es) [] pos) (tMkO C sp [] ta) := by
  intro pins s σ H Q I h
  obtain ⟨nm, q, N, bs, bm, sn, sub, ab, col, dd, k0, k1, k2, k3, k5, hC, hbm⟩ := T.cls
  refine wpAny_Call_Name_kw (ld_glob I hg hm ?_ hdb)
  refine PySem.W.callWith_K (h₀ := X.base) I.ok.mod.kin T.kC (thn (ha.run pos pins s σ H _ I h) fun us s1 ⟨vs, H1, I1, r1, hz, q1⟩ => ⟨I1.kIn, ?_⟩) he hpl
  show wpAny _ _ (call (.ref C) us) _ _ _
  obtain ⟨hp, g, dr, tk, os⟩ := s1
  have hsz : hp.objs.size ≤ hp.objs.size + 1 := Nat.le_succ _
  have hn : H1 (hp.objs.size + 1) = none := I1.hok.fresh hsz
  have hq := q1 (hp.objs.size + 1) hn
  rw [List.append_nil] at hq
  have kk : ∀ b o, hp.get? b = some o → ((hp.push (PySem.W.kdv_tup us)).push (PySem.HandSPX.excO C hp.objs.size)).get? b = some o := fun b o e => Heap.get?_push_of_some _ (Heap.get?_push_of_some _ e)
  have hget : ((hp.push (PySem.W.kdv_tup us)).push (PySem.HandSPX.excO C hp.objs.size)).get? (hp.objs.size + 1) = some (PySem.HandSPX.excO C hp.objs.size) := by heap_get
  have I2 : Inv X pins σ (upd H1 (hp.objs.size + 1) (exo (hp.objs.size + 1) C none)) ⟨(hp.push (PySem.W.kdv_tup us)).push (PySem.HandSPX.excO C hp.objs.size), g, dr, tk, os⟩ :=
    I1.laid (t' := tk) (a := hp.objs.size + 1) (o := exo (hp.objs.size + 1) C none) (h' := (hp.push (PySem.W.kdv_tup us)).push (PySem.HandSPX.excO C hp.objs.size)) kk hsz (exo_ok hget)
  have r2 : Vals (V.ref (hp.objs.size + 1) :: vs) (Value.ref (hp.objs.size + 1) :: us) := .cons rfl r1
  have hl : (Value.ref (hp.objs.size + 1) :: us ++ []).length = ps.length := by
    have e := r2.length
    rw [F1.len _ _ _ _ hq] at e
    rw [List.append_nil]
    exact e.symm
  have hus : us.length ≤ sizeLine := by
    rw [← Paired.length r1, sizeLine_eq]
    omega
  have b2 := hb _ (Value.ref (hp.objs.size + 1) :: us) I2.kIn hl
  rw [List.append_nil] at b2
  refine wpAny_call (PySem.HandSPX.call_own F.excBase_ValueError (fun Y => PySem.HandSPX.refsVE_contains Y bm hbm) (I1.kIn _ _ hC) (PySem.W.looks_findIn I1.kIn iC) (fun self => PySem.W.bind_fn I1.kIn self tI) hus
    (codeAny_mono (F1.run _ X.stack _ _ ⟨Value.ref (hp.objs.size + 1) :: us, []⟩ (Value.ref (hp.objs.size + 1) :: us) _ _ (fun _ _ _ => False) (hr.make C us []) (I2.env0.make C us []) b2 r2 hq) fun r s' hq' => ?_))
  cases r with
  | error er => exact hx pins σ _ _ er s' I2 hq'
  | ok fl =>
    cases fl with
    | ret u =>
      obtain ⟨v, H2, os2, bare2, un2, hok2, rv, ev, d, fs, ea, ed, hd1, q2⟩ := hq'
      subst ev
      obtain ⟨h2, g2, d2, t2, os'⟩ := s'
      obtain ⟨t0, G, J, kG, ge, hoe, na⟩ := mk_end0 (d2 := d2) (t2 := t2) I1 hsz kk un2 hok2 os2 bare2 ea ed hd1
      exact ⟨rv, hp.objs.size + 1, _, _, ⟨G, g2, d2, t2, os'⟩, _, .ref C, some d, rfl, J, kG, ge, hoe, ⟨rfl, rfl, fun vs hv => by cases hv; rfl⟩, rfl, rfl, na, rfl, bare2, raises_own T.exC T.tyC, q2⟩
    | next => exact False.elim hq'
    | brk => exact False.elim hq'
    | cont => exact False.elim hq'
end
theorem takesN0 {X : L2.Cx} : L2N.Takes X (fun _ _ _ _ => False) := fun _ _ x => by
  obtain ⟨_, _, _, _, _, _, _, _, _, _, _, _, _, _, _, _, z⟩ := x
  exact z.elim
theorem passN {X : L2.Cx} : Passes (L2N.CX X.prog X.w) X E0 := fun _ _ _ _ _ _ _ h => by
  obtain ⟨_, _, _, _, _, _, _, _, _, _, _, _, z⟩ := h
  exact z.elim
end Fw
end

section
/-! a list comprehension over a list or a tuple while an exception is handled -/
namespace Fw
open PySem PySem.Spec PyProof.Rows L2 HotX
section
variable {prog : Program} {w : World} {A : Around} {E : Value → Shared → Prop} {s : Shared}
/-- the raise of the end -/
theorem stop_hot {α : Type} {x1 : Addr} (hot : HotAt A x1 s.heap) :
    wpAny (model prog w) A.in1 (newExc (.type "StopIteration") [] >>= fun e => (raiseNew e : Sem α)) (fun _ _ => False)
      (fun e s' => ∃ o, s'.heap.get? (match e with | .ref a => a | _ => 0) = some o ∧ o.cls = .type "StopIteration" ∧ (∃ a, e = .ref a) ∧ ∃ h', s' = { s with heap := h' } ∧ ∀ b o, s.heap.get? b = some o → h'.get? b = some o) s := by
  obtain ⟨hh, o1, vs1, h1, d1, c1⟩ := hot
  refine wpAny_bind ?_
  simp only [newExc, newTuple]
  refine wpAny_bind (wpAny_newObj_type ?_ (by size_fits))
  refine wpAny_bind (m := firstArgMember _ _) (wpAny_of_eq (a := Value.none) (by first | rfl | (simp only [firstArgMember]; rfl)) ?_)
  refine wpAny_newObj_type ?_ (by size_fits)
  refine raiseNew_hot ⟨hh, o1, vs1, Heap.get?_push_of_some _ (Heap.get?_push_of_some _ h1), d1, c1⟩ (Nat.ne_of_lt (Heap.lt_size (Heap.get?_push_of_some _ h1))) (Heap.get?_push_size _ rfl) rfl (by first | (simp; done) | (simp; omega) | (simp only [Array.size_append]; simp; omega)) ?_
  refine ⟨_, Heap.get?_update_self _ (Heap.get?_push_size _ rfl) rfl, rfl, ⟨_, rfl⟩, _, rfl, fun b o e => ?_⟩
  rw [Heap.get?_update_other _ _ (Nat.ne_of_gt (Heap.lt_size (Heap.get?_push_of_some _ e)))]
  exact Heap.get?_push_of_some _ (Heap.get?_push_of_some _ e)
theorem hotAt_keep {x1 : Addr} {h h' : Heap} (hot : HotAt A x1 h) (k : ∀ o, h.get? x1 = some o → h'.get? x1 = some o) : HotAt A x1 h' := by
  obtain ⟨hh, o1, vs1, h1, d1, c1⟩ := hot
  exact ⟨hh, o1, vs1, k _ h1, d1, c1⟩
theorem wpAny_pyNext_list_end_hot {it l x1 : Addr} {i : Nat} {items} {Q : Option Value → Shared → Prop} (hot : HotAt A x1 s.heap) (hne : x1 ≠ it)
    (hit : s.heap.IsListIter it l i) (hl : s.heap.IsList l items) (hx : items[i]? = none)
    (hQ : ∀ h', Heap.ExtBut it s.heap h' → Q none { s with heap := h' }) : wpAny (model prog w) A (pyNext (.ref it)) Q E s := by
  obtain ⟨o, ho, hc, hd⟩ := id hit
  obtain ⟨ol, hol, _, nl, hdl⟩ := hl
  unfold pyNext
  refine wpAny_bind (wpAny_attempt (wpAny_callSpecial?_slot (name := Str.ofString "__next__") hit.typeIs slot_listiter_next
    (wpAny_call_entry slot_listiter_next hit.typeIs entry_listiter_next ?_ (args_listiter_next _))))
  show wpAny _ _ (field (.ref it) 0 >>= _) _ _ s
  refine wpAny_bind (wpAny_field ho hd (x := .ref l) rfl ?_)
  show wpAny _ _ (if (Value.ref l == Value.none) = true then _ else _) _ _ s
  rw [if_neg (show ¬ ((Value.ref l == Value.none) = true) from Bool.false_ne_true)]
  show wpAny _ _ (field (.ref it) 1 >>= _) _ _ s
  refine wpAny_bind (wpAny_field ho hd (x := .int i 0) rfl ?_)
  show wpAny _ _ (seqItems? (.ref l) >>= _) _ _ s
  refine wpAny_bind (wpAny_seqItems hol hdl ?_)
  simp only [Int.toNat_natCast, hx]
  refine wpAny_bind (wpAny_rule (wpAny_bind (wpAny_setField ho hd (by simp) ?_)))
  show wpAny _ _ (newExc (.type "StopIteration") [] >>= _) _ _ _
  refine wpAny_mono (stop_hot (hotAt_keep hot fun o e => (Heap.get?_update_other _ _ (Ne.symm hne)).trans e)) (fun _ _ z => False.elim z) fun e s' hz => ?_
  obtain ⟨oe, he, hcl, ⟨a, rfl⟩, h', rfl, k⟩ := hz
  refine wpAny_bind (wpAny_isInstance (T := "StopIteration") (b := true) ⟨oe, he, hcl⟩ isSubtype_stop ?_)
  exact wpAny_pure (hQ _ fun b o hb e => k b o ((Heap.get?_update_other _ _ (Ne.symm hb)).trans e))
theorem wpAny_pyNext_tuple_end_hot {it t x1 : Addr} {i : Nat} {items} {Q : Option Value → Shared → Prop} (hot : HotAt A x1 s.heap) (hne : x1 ≠ it)
    (hit : s.heap.IsTupleIter it t i) (ht : s.heap.IsTuple t items) (hx : items[i]? = none)
    (hQ : ∀ h', Heap.ExtBut it s.heap h' → Q none { s with heap := h' }) : wpAny (model prog w) A (pyNext (.ref it)) Q E s := by
  obtain ⟨o, ho, hc, hd⟩ := id hit
  obtain ⟨ol, hol, _, nl, hdl⟩ := ht
  unfold pyNext
  refine wpAny_bind (wpAny_attempt (wpAny_callSpecial?_slot (name := Str.ofString "__next__") hit.typeIs F.slot_tuple_iterator_next
    (wpAny_call_entry F.slot_tuple_iterator_next hit.typeIs F.entry_tuple_iterator_next ?_ (F.args_tuple_iterator_next_1 _))))
  show wpAny _ _ (field (.ref it) 0 >>= _) _ _ s
  refine wpAny_bind (wpAny_field ho hd (x := .ref t) rfl ?_)
  show wpAny _ _ (if (Value.ref t == Value.none) = true then _ else _) _ _ s
  rw [if_neg (show ¬ ((Value.ref t == Value.none) = true) from Bool.false_ne_true)]
  show wpAny _ _ (field (.ref it) 1 >>= _) _ _ s
  refine wpAny_bind (wpAny_field ho hd (x := .int i 0) rfl ?_)
  show wpAny _ _ (seqItems? (.ref t) >>= _) _ _ s
  refine wpAny_bind (wpAny_seqItems hol hdl ?_)
  simp only [Int.toNat_natCast, hx]
  refine wpAny_bind (wpAny_rule (wpAny_bind (wpAny_setField ho hd (by simp) ?_)))
  show wpAny _ _ (newExc (.type "StopIteration") [] >>= _) _ _ _
  refine wpAny_mono (stop_hot (hotAt_keep hot fun o e => (Heap.get?_update_other _ _ (Ne.symm hne)).trans e)) (fun _ _ z => False.elim z) fun e s' hz => ?_
  obtain ⟨oe, he, hcl, ⟨a, rfl⟩, h', rfl, k⟩ := hz
  refine wpAny_bind (wpAny_isInstance (T := "StopIteration") (b := true) ⟨oe, he, hcl⟩ isSubtype_stop ?_)
  exact wpAny_pure (hQ _ fun b o hb e => k b o ((Heap.get?_update_other _ _ (Ne.symm hb)).trans e))
end
open L2H
theorem turn_listH {P : Program} {w : World} {K : PySem.W.Frag} {tg : Expr} (a it : Addr) : TurnH P w K tg (Itl K a) [it] it (fun i h => h.IsListIter it a i) where
  mem := by simp
  obj := (turn_list (P := P) (w := w) (K := K) (tg := tg) a it).obj
  keep := (turn_list (P := P) (w := w) (K := K) (tg := tg) a it).keep
  item := by
    intro X hP hw hK hc i pins s σ H E I hf st hg
    subst hP hw hK
    obtain ⟨xs, x, hq, hx⟩ := hg
    obtain ⟨its, rv, p, hz⟩ := I.list hq
    obtain ⟨u, hu, ru⟩ := rv.get hx
    obtain ⟨f0, f1, f2, f3, f4, f5⟩ := hf it (by simp)
    refine wpAny_pyNext_list_item st p.isList (x := u) (by simpa using hu) fun h' st' sb => ?_
    have I1 : Inv X pins σ H { s with heap := h' } := I.turned (t' := s.toks) (fun b o hb e => (sb.2 b hb).trans e) f0 f1 f3 f4 f5
    obtain ⟨o, e, c, d⟩ := id st'
    exact ⟨u, rfl, go_of (s := { s with heap := h' }) e c d (by decide) ⟨x, H, I1, ru, ⟨rfl, fun ys hy => by rw [I.list_inj hy hq]; exact hx⟩, st', fun b hb => (hf b hb).1⟩⟩
  done := by
    intro X hP hw hK hc i pins s σ H E I hf st hg
    subst hP hw hK
    obtain ⟨xs, hq, hx⟩ := hg
    obtain ⟨its, rv, p, hz⟩ := I.list hq
    obtain ⟨f0, f1, f2, f3, f4, f5⟩ := hf it (by simp)
    have hl := rv.length
    obtain ⟨pp, ⟨hh, v1, e1, c1⟩, hp⟩ := hc
    have hot : HotAt X.A pp.1 s.heap := ⟨hh, pp.2, v1, (I.pin pp (List.mem_append_left _ hp)).1, e1, c1⟩
    exact wpAny_pyNext_list_end_hot hot (f5 pp (List.mem_append_left _ hp)) st p.isList (by simp; omega) fun h' eb => ⟨rfl, I.turned (t' := s.toks) (fun b o hb e => eb b o hb e) f0 f1 f3 f4 f5⟩
  self := fun _ _ _ _ _ st h => wpAny_pyIter_listiter st h
theorem turn_tupleH {P : Program} {w : World} {K : PySem.W.Frag} {tg : Expr} (a it : Addr) : TurnH P w K tg (Itt K a) [it] it (fun i h => h.IsTupleIter it a i) where
  mem := by simp
  obj := (turn_tuple (P := P) (w := w) (K := K) (tg := tg) a it).obj
  keep := (turn_tuple (P := P) (w := w) (K := K) (tg := tg) a it).keep
  item := by
    intro X hP hw hK hc i pins s σ H E I hf st hg
    subst hP hw hK
    obtain ⟨xs, x, hq, hx⟩ := hg
    obtain ⟨its, rv, p, hz⟩ := I.tuple hq
    obtain ⟨u, hu, ru⟩ := rv.get hx
    obtain ⟨f0, f1, f2, f3, f4, f5⟩ := hf it (by simp)
    refine wpAny_pyNext_tuple_item st (show s.heap.IsTuple a its.toArray from p) (x := u) (by simpa using hu) fun h' st' sb => ?_
    have I1 : Inv X pins σ H { s with heap := h' } := I.turned (t' := s.toks) (fun b o hb e => (sb.2 b hb).trans e) f0 f1 f3 f4 f5
    obtain ⟨o, e, c, d⟩ := id st'
    exact ⟨u, rfl, go_of (s := { s with heap := h' }) e c d (by decide) ⟨x, H, I1, ru, ⟨rfl, fun ys hy => by rw [I.tuple_inj hy hq]; exact hx⟩, st', fun b hb => (hf b hb).1⟩⟩
  done := by
    intro X hP hw hK hc i pins s σ H E I hf st hg
    subst hP hw hK
    obtain ⟨xs, hq, hx⟩ := hg
    obtain ⟨its, rv, p, hz⟩ := I.tuple hq
    obtain ⟨f0, f1, f2, f3, f4, f5⟩ := hf it (by simp)
    have hl := rv.length
    obtain ⟨pp, ⟨hh, v1, e1, c1⟩, hp⟩ := hc
    have hot : HotAt X.A pp.1 s.heap := ⟨hh, pp.2, v1, (I.pin pp (List.mem_append_left _ hp)).1, e1, c1⟩
    exact wpAny_pyNext_tuple_end_hot hot (f5 pp (List.mem_append_left _ hp)) st (show s.heap.IsTuple a its.toArray from p) (by simp; omega) fun h' eb => ⟨rfl, I.turned (t' := s.toks) (fun b o hb e => eb b o hb e) f0 f1 f3 f4 f5⟩
  self := fun _ _ _ _ _ st h => wpAny_pyIter_tupleiter st h
/-- either -/
def iSeqB (K : PySem.W.Frag) (tl : TE) : TI := fun σ H R => tl σ H fun x H1 => ∃ a xs, x = .ref a ∧ ((SqL K H1 a xs ∧ R (Itl K a) H1) ∨ (SqT K H1 a xs ∧ R (Itt K a) H1))
theorem pi_seqH {X : L2.Cx} {tg l : Expr} {tl : TE} (hl : PE X l tl) : PIH X tg l (iSeqB X.K tl) := by
  refine ⟨fun pins s σ H R I h => ?_⟩
  refine thn (hl.run pins s σ H _ I h) fun v s1 ⟨x, H1, I1, r1, q1⟩ => ?_
  obtain ⟨a, xs, e, q⟩ := q1
  subst e
  cases r1
  rcases q with ⟨hq, q⟩ | ⟨hq, q⟩
  · obtain ⟨its, rv, p, hz⟩ := I1.list hq
    refine wpAny_pyIter_list p.isList ?_
    refine ⟨s1.heap.objs.size, [s1.heap.objs.size], _, _, H1, rfl, I1.kept (t' := s1.toks) fun b o e => Heap.get?_push_of_some _ e, turn_listH a _, ⟨_, Heap.get?_push_size _ rfl, rfl, rfl⟩, fun b hb => ?_, q⟩
    have e : b = s1.heap.objs.size := by simpa using hb
    subst e
    exact I1.fpOk (Nat.le_refl _) (I1.hok.fresh (Nat.le_refl _))
  · obtain ⟨its, rv, p, hz⟩ := I1.tuple hq
    refine wpAny_pyIter_tuple (show s1.heap.IsTuple a its.toArray from p) ?_
    refine ⟨s1.heap.objs.size, [s1.heap.objs.size], _, _, H1, rfl, I1.kept (t' := s1.toks) fun b o e => Heap.get?_push_of_some _ e, turn_tupleH a _, ⟨_, Heap.get?_push_size _ rfl, rfl, rfl⟩, fun b hb => ?_, q⟩
    have e : b = s1.heap.objs.size := by simpa using hb
    subst e
    exact I1.fpOk (Nat.le_refl _) (I1.hok.fresh (Nat.le_refl _))
theorem pi_seqB {X : L2.Cx} {tg l : Expr} {tl : TE} (hl : PE X l tl) : PI X tg l (iSeqB X.K tl) := by
  refine ⟨fun pins s σ H R I h => ?_⟩
  refine thn (hl.run pins s σ H _ I h) fun v s1 ⟨x, H1, I1, r1, q1⟩ => ?_
  obtain ⟨a, xs, e, q⟩ := q1
  subst e
  cases r1
  rcases q with ⟨hq, q⟩ | ⟨hq, q⟩
  · obtain ⟨its, rv, p, hz⟩ := I1.list hq
    refine wpAny_pyIter_list p.isList ?_
    refine ⟨s1.heap.objs.size, [s1.heap.objs.size], _, _, H1, rfl, I1.kept (t' := s1.toks) fun b o e => Heap.get?_push_of_some _ e, turn_list a _, ⟨_, Heap.get?_push_size _ rfl, rfl, rfl⟩, fun b hb => ?_, q⟩
    have e : b = s1.heap.objs.size := by simpa using hb
    subst e
    exact I1.fpOk (Nat.le_refl _) (I1.hok.fresh (Nat.le_refl _))
  · obtain ⟨its, rv, p, hz⟩ := I1.tuple hq
    refine wpAny_pyIter_tuple (show s1.heap.IsTuple a its.toArray from p) ?_
    refine ⟨s1.heap.objs.size, [s1.heap.objs.size], _, _, H1, rfl, I1.kept (t' := s1.toks) fun b o e => Heap.get?_push_of_some _ e, turn_tuple a _, ⟨_, Heap.get?_push_size _ rfl, rfl, rfl⟩, fun b hb => ?_, q⟩
    have e : b = s1.heap.objs.size := by simpa using hb
    subst e
    exact I1.fpOk (Nat.le_refl _) (I1.hok.fresh (Nat.le_refl _))
/-- the block of a comprehension there -/
abbrev blkH (X : L2.Cx) (p : Addr × Obj) (s : Shared) (H : Hp) (scope : Scope) (cenv : Env) (fp : List Addr) : L2.Cx := { X.blk s H scope cenv fp with pn := [p] }
section
variable {X : L2.Cx}
theorem lc_coreH {p : Addr × Obj} {pins : List (Addr × Obj)} {s : Shared} {σ : L2.St} {H : Hp} {Q : VK} {elt tg iter : Expr} {scope : Scope} {own : List (Str × Nat)} {pos pos' : Pos} {wi : TI} {g : TG} {te : TE} {use : Option (Value → Sem Unit)} {Qf : Value → Shared → Prop}
    (hot : Hot1 X.A p) (hp : p ∈ X.pn) (hN : X.N.Nodup) (I : Inv X pins σ H s) (hi : PIH X tg iter wi) (ok : BlkOk X.N X.env.scope scope own)
    (hg : ∀ (s : Shared) (H : Hp) (C : Addr) (cl : List (Str × Addr)) (fp : List Addr), PG (blkH X p s H scope (compEnvC scope cl C X.env) fp) tg g)
    (he : ∀ (s : Shared) (H : Hp) (C : Addr) (cl : List (Str × Addr)) (fp : List Addr), PE (blkH X p s H scope (compEnvC scope cl C X.env) fp) elt te) (hs : ∀ x, foldedSetIterable iter X.env x = pure x)
    (h : tLc wi g tYes te (own.map (·.2)) σ H Q)
    (hRR : ∀ D C s' m H', Inv X pins σ H' s' → Q (.ref D) H' → s'.heap.Ns C m → FpOk X pins H' C → compPost (model X.prog X.w) X.A X.xe use Qf (.ref D) C (.ok .next) s') :
    wpAny (model X.prog X.w) X.A (comprehension (.ListComp elt [⟨tg, iter, [], 0⟩] scope pos) scope X.env pos' (newList []) false (eval iter X.env) use) Qf X.xe s := by
  have hfree : ∀ y ∈ scope.names, y.2 = .free → ∃ c, X.env.cells.lookup y.1 = some c := fun y hy e => by
    rcases ok.free y hy e with k | k
    · exact I.ok.has _ (.inl k)
    · exact I.ok.has _ (.inr k)
  refine wpAny_comprehension_free (use := use) rfl hs (closure_ok hfree) ok.kind (fun y hy e => by rw [ok.uniq y hy, e])
    (thn (hi.run pins s σ H _ I h) fun xv s1 hx => thn hx fun itv s2 h2 => ?_)
  obtain ⟨it, fp, tn, J, H2, e, I2, T, st2, f2, q⟩ := h2
  subst e
  refine wpAny_newObj_type (newEnv_comp ?_) (by show 0 ≤ sizeLine; decide)
  generalize hD : s2.heap.objs.size = D
  have hDn : H2 D = none := I2.hok.fresh (Nat.le_of_eq hD)
  obtain ⟨W, ⟨m0, w0⟩, turn⟩ := q D hDn
  generalize hs3 : ({ s2 with heap := s2.heap.push { cls := .type "list", data := .seq ([] : List Value).toArray } } : Shared) = s3
  have I3 : Inv X pins σ (upd H2 D (.lst [])) s3 := by
    rw [← hs3]
    refine I2.laid (t' := s2.toks) (fun b o e => Heap.get?_push_of_some _ e) (Nat.le_of_eq hD) ⟨Nat.zero_le _, [], 0, .nil, ?_⟩
    rw [← hD]
    exact Heap.get?_push_size _ rfl
  have h3 : s3.heap = s2.heap.push { cls := .type "list", data := .seq ([] : List Value).toArray } := by rw [← hs3]
  have sz : ∀ b ∈ fp, b < s2.heap.objs.size := fun b hb => by
    obtain ⟨o, e, _⟩ := T.obj _ _ st2 b hb
    exact Heap.lt_size e
  have f3 : ∀ b ∈ fp, FpOk X pins (upd H2 D (.lst [])) b ∧ b < s3.heap.objs.size := fun b hb => by
    have hlt := sz b hb
    refine ⟨⟨?_, (f2 b hb).2⟩, by rw [h3, Heap.size_push]; exact Nat.lt_succ_of_lt hlt⟩
    rw [upd_ne (by rw [← hD]; exact Nat.ne_of_lt hlt)]
    exact (f2 b hb).1
  have st3 : tn 0 s3.heap := T.keep _ _ _ st2 fun b _ o e => by rw [h3]; exact Heap.get?_push_of_some _ e
  have pinF : ∀ b ∈ fp, p.1 ≠ b := fun b hb => (f2 b hb).2.2.2.2.2 p (List.mem_append_left _ hp)
  have P3 := I3.pin p (List.mem_append_left _ hp)
  have I4' := block_start I3 ok hN f3
  have I4 : Inv (blkH X p s3 (upd H2 D (.lst [])) scope (compEnvC scope (cellsFrom (s3.heap.objs.size + 1) scope.names (cloFrom X.env.cells scope.names [])) s3.heap.objs.size X.env) fp) [] (wipe σ (own.map (·.2))) (upd H2 D (.lst [])) { s3 with heap := pushCells (s3.heap.push { cls := .type "dict", data := .dict #[] }) scope.names } := by
    refine ⟨⟨I4'.ok.mod, I4'.ok.kind, I4'.ok.glob, I4'.ok.blt, I4'.ok.above, I4'.ok.inj, I4'.ok.has, I4'.ok.cab, I4'.ok.hd, I4'.ok.frames, I4'.ok.stk, I4'.ok.exf, I4'.ok.bs, I4'.ok.bsz, I4'.ok.noex, I4'.ok.exfs, I4'.ok.funs, I4'.ok.frf⟩,
      I4'.os, I4'.bare, I4'.base, I4'.loc, I4'.cell, I4'.free, I4'.freeC, fun q hq => ?_, I4'.hok, I4'.len⟩
    have eq : q = p := by simpa using (show q ∈ [p] ++ ([] : List (Addr × Obj)) from hq)
    subst eq
    refine ⟨pushCells_keeps _ _ _ _ (Heap.get?_push_of_some _ P3.1), P3.2.1, Nat.ne_of_lt (Heap.lt_size P3.1), ?_, P3.2.2.2.2⟩
    show q.1 ∉ frs X.stack
    exact fun hm => (List.mem_cons.mp (I3.stkSub q.1 hm)).elim P3.2.2.1 P3.2.2.2.1
  have pg := hg s3 (upd H2 D (.lst [])) s3.heap.objs.size (cellsFrom (s3.heap.objs.size + 1) scope.names (cloFrom X.env.cells scope.names [])) fp
  have pe := he s3 (upd H2 D (.lst [])) s3.heap.objs.size (cellsFrom (s3.heap.objs.size + 1) scope.names (cloFrom X.env.cells scope.names [])) fp
  show codeAny _ _ (.compStart (.ListComp elt [⟨tg, iter, [], 0⟩] scope pos) 0 (.ref it) (.ref D) (compEnvC scope (cellsFrom (s3.heap.objs.size + 1) scope.names (cloFrom X.env.cells scope.names [])) s3.heap.objs.size X.env)) (compPost (model X.prog X.w) X.A X.xe use Qf (.ref D) s3.heap.objs.size) { s3 with heap := pushCells (s3.heap.push { cls := .type "dict", data := .dict #[] }) scope.names }
  have nfp : ∀ b ∈ fp, (upd H2 D (.lst [])) b = none := fun b hb => (f3 b hb).1.1
  generalize hce : compEnvC scope (cellsFrom (s3.heap.objs.size + 1) scope.names (cloFrom X.env.cells scope.names [])) s3.heap.objs.size X.env = ce at I4 pg pe ⊢
  have cL : ce.locals = s3.heap.objs.size := by subst hce; rfl
  clear I4'
  generalize hH3 : upd H2 D (.lst []) = H3 at I3 I4 pg pe w0 nfp f3 P3
  generalize hs4 : ({ s3 with heap := pushCells (s3.heap.push { cls := .type "dict", data := .dict #[] }) scope.names } : Shared) = s4 at I4 ⊢
  have st4 : tn 0 s4.heap := T.keep _ _ _ st3 fun b _ o e => by rw [← hs4]; exact pushCells_keeps _ _ _ _ (Heap.get?_push_of_some _ e)
  have hc : HotC (blkH X p s3 H3 scope ce fp) := ⟨p, hot, List.mem_singleton.mpr rfl⟩
  have stat : ∀ {σ' : L2.St} {H' : Hp} {s' : Shared}, Inv (blkH X p s3 H3 scope ce fp) [] σ' H' s' → (∀ b ∈ fp, H' b = none) → ∀ b ∈ fp, FpOk (blkH X p s3 H3 scope ce fp) [] H' b := fun {σ' H' s'} I' hn b hb =>
    ⟨hn b hb, (I'.ok.exf b hb).1, I'.ok.exfs b hb, .inl hb, fun x c e => (I'.ok.exf b hb).2 x c e, fun q hq => by
      have eq : q = p := by simpa using (show q ∈ [p] ++ ([] : List (Addr × Obj)) from hq)
      rw [eq]
      exact pinF b hb⟩
  have loop : codeAny (model X.prog X.w) X.A (.compLoop (.ListComp elt [⟨tg, iter, [], 0⟩] scope pos) 0 (.ref it) (.ref D) ce) (compPost (model X.prog X.w) X.A X.xe use Qf (.ref D) s3.heap.objs.size) s4 := by
    refine compLoop_any (fun n s' => ∃ i H', Inv (blkH X p s3 H3 scope ce fp) [] (wipe σ (own.map (·.2))) H' s' ∧ tn i s'.heap ∧ (∀ b ∈ fp, H' b = none) ∧ W i n H') ?_ m0 ⟨0, H3, I4, st4, nfp, w0⟩
    rintro n s5 ⟨i, H5, I5, st5, n5, w5⟩
    rcases turn i n H5 w5 with ⟨stop, qq⟩ | ⟨go, Nx, hNx, step⟩
    · have td := T.done (blkH X p s3 H3 scope ce fp) rfl rfl rfl hc i [] s5 _ H5 (fun _ _ => False) I5 (stat I5 n5) st5 stop
      refine thnF td fun r s6 ⟨hr, I6⟩ => ?_
      subst hr
      have I7 : Inv X pins σ H5 s6 := I3.call' (ch := fp) I6.os I6.base I6.hok I6.bare fun b hb => ⟨(f3 b hb).1.2.2.2.1, (f3 b hb).1.2.1, (f3 b hb).1.2.2.2.2.1, (f3 b hb).1.2.2.2.2.2⟩
      have nC : H5 s3.heap.objs.size = none := by
        have z : H5 ce.locals = none := I6.free
        rw [cL] at z
        exact z
      obtain ⟨m, hn, _⟩ := I6.loc
      have hn : s6.heap.Ns ce.locals m := hn
      rw [cL] at hn
      exact hRR D s3.heap.objs.size s6 m H5 I7 qq hn (I3.fpOk (Nat.le_refl _) nC)
    · have ti := T.item (blkH X p s3 H3 scope ce fp) rfl rfl rfl hc i [] s5 _ H5 (fun _ _ => False) I5 (stat I5 n5) st5 go
      refine thnF ti fun r s6 ⟨u, hr, h6⟩ => ?_
      subst hr
      refine thnF h6 fun _ s7 ⟨x, H7, I7, r7, y7, st7, n7⟩ => ?_
      have I7' := I7.pinned (stat I7 n7) (T.obj _ _ st7)
      refine thnF (pg.run _ s7 _ H7 x u _ I7' r7 (step x H7 y7)) fun _ s8 ⟨σ8, H8, I8, hw8, q8⟩ => ?_
      refine wpAny_tests_nil ?_
      have fin : ∀ {s' : Shared} {H' : Hp}, Inv (blkH X p s3 H3 scope ce fp) ([] ++ pinsAt fp s7.heap) σ8 H' s' → Nx H' → ∃ m, m < n ∧ ∃ i H', Inv (blkH X p s3 H3 scope ce fp) [] (wipe σ (own.map (·.2))) H' s' ∧ tn i s'.heap ∧ (∀ b ∈ fp, H' b = none) ∧ W i m H' := fun {s' H'} I' nx => by
        obtain ⟨m', hm, w'⟩ := hNx H' nx
        have pin' : ∀ b ∈ fp, ∀ o, s7.heap.get? b = some o → s'.heap.get? b = some o ∧ H' b = none := fun b hb o e =>
          let z := I'.pin (b, o) (List.mem_append_right _ (List.mem_append_right _ (mem_pinsAt hb e)))
          ⟨z.1, z.2.1⟩
        have hl : (wipe σ (own.map (·.2))).length = σ8.length := by rw [← hw8, wipe_length]
        refine ⟨m', hm, i + 1, H', (I'.unpinned (pins := [])).weak hl (fun j v e => ?_), T.keep _ _ _ st7 fun b hb o e => (pin' b hb o e).1, fun b hb => ?_, w'⟩
        · rw [← hw8] at e
          exact (wipe_some e).1
        · obtain ⟨o, e, _⟩ := T.obj _ _ st7 b hb
          exact (pin' b hb o e).2
      have q9 : te σ8 H8 fun y H4 => ∃ acc, H4 D = some (.lst acc) ∧ acc.length < sizeLine ∧ Nx (upd H4 D (.lst (acc ++ [y]))) := by
        have q8' : (if true = true then te σ8 H8 fun y H4 => ∃ acc, H4 D = some (.lst acc) ∧ acc.length < sizeLine ∧ Nx (upd H4 D (.lst (acc ++ [y]))) else Nx H8) := q8
        rw [if_pos rfl] at q8'
        exact q8'
      simp only [if_true]
      refine thnF (pe.run _ s8 σ8 H8 _ I8 q9) fun z s10 ⟨yv, H10, I10, r10, acc, hD10, hz10, nx⟩ => ?_
      exact app_ok (X := blkH X p s3 H3 scope ce fp) I10 hD10 hz10 r10 fun s11 I11 => fin I11 nx
  exact codeAny_compStart_list loop (T.self X.A 0 _ _ _ st4 loop)
theorem pe_lcH {p : Addr × Obj} {elt tg iter : Expr} {scope : Scope} {own : List (Str × Nat)} {pos : Pos} {wi : TI} {g : TG} {te : TE} (hot : Hot1 X.A p) (hp : p ∈ X.pn) (hN : X.N.Nodup) (hi : PIH X tg iter wi) (ok : BlkOk X.N X.env.scope scope own)
    (hg : ∀ (s : Shared) (H : Hp) (C : Addr) (cl : List (Str × Addr)) (fp : List Addr), PG (blkH X p s H scope (compEnvC scope cl C X.env) fp) tg g)
    (he : ∀ (s : Shared) (H : Hp) (C : Addr) (cl : List (Str × Addr)) (fp : List Addr), PE (blkH X p s H scope (compEnvC scope cl C X.env) fp) elt te) (hs : ∀ x, foldedSetIterable iter X.env x = pure x := by intro _; rfl) :
    PE X (.ListComp elt [⟨tg, iter, [], 0⟩] scope pos) (tLc wi g tYes te (own.map (·.2))) := by
  refine ⟨fun pins s σ H Q I h => ?_⟩
  rw [eval_ListComp]
  refine lc_coreH hot hp hN I hi ok hg he hs h fun D C s' m H' I' q hn f => ⟨m, hn, fun h'' sb => ?_⟩
  obtain ⟨f0, f1, f2, f3, f4, f5⟩ := f
  exact ⟨.ref D, H', I'.turned (t' := s'.toks) (fun b o hb e => (sb.2 b hb).trans e) f0 f1 f3 f4 f5, rfl, q⟩
end
end Fw
end

section
namespace Fw
open PySem PySem.Spec PyProof.Rows L2
/-! ### calls whose errors are wished for at the caller's slots -/
def tMakeSD (C : Addr) (sp : Sp) (dvs : List V) (E : L2.St → XK) (t : TA) : TE := fun σ H Q => t σ H fun vs H1 => ∀ x dx, H1 x = none → H1 dx = none → dx ≠ x →
  sp (.ref x :: (vs ++ dvs)) (upd (upd H1 dx (.own x)) x (.ins C dx [])) (fun v H2 => v = .non ∧ Q (.ref x) H2) (E σ)
def tMethSD (C : Addr) (m : Str) (sp : Sp) (dvs : List V) (E : L2.St → XK) (ta : TE) (t : TA) : TE := fun σ H Q => ta σ H fun x H1 => ∃ a dx fs, x = .ref a ∧ H1 a = some (.ins C dx fs) ∧ fs.lookup m = none ∧ t σ H1 fun vs H2 => sp (x :: (vs ++ dvs)) H2 Q (E σ)
section
variable {X : L2.Cx} {CX : CXT} {k : Nat} {f C : Addr} {fd : FuncData} {ps : List Str} {sp : Sp} {dvs : List V} {ds : List Value} {E : L2.St → XK} {x m : Str} {p pos apos : Pos} {e o : Expr} {es : List Expr} {ta : TE} {t : TA}
theorem run_makeSD {pins : List (Addr × Obj)} {σ : L2.St} {H : Hp} {s : Shared} {Q : VK} {us : List Value} {vs : List V} (M : Mk X.K C f) (F : FnOk X.prog X.w X.K X.mg X.base CX k f fd ps sp) (hr : Room (k + 1) X.A) (hb : Binds X.K fd ps ds) (hd : Vals dvs ds)
    (hx : PassesAt CX X σ (E σ)) (I : Inv X pins σ H s) (r : Vals vs us)
    (h : ∀ x dx, H x = none → H dx = none → dx ≠ x → sp (.ref x :: (vs ++ dvs)) (upd (upd H dx (.own x)) x (.ins C dx [])) (fun v H2 => v = .non ∧ Q (.ref x) H2) (E σ)) :
    wpAny (model X.prog X.w) X.A (call (.ref C) us) (EP X pins σ Q) X.xe s := by
  have hq := h (s.heap.objs.size + 1) s.heap.objs.size (I.hok.fresh (Nat.le_succ _)) (I.hok.fresh (Nat.le_refl _)) (Nat.ne_of_lt (Nat.lt_succ_self _))
  have I2 := Inv.made (C := C) I
  have r2 : Vals (V.ref (s.heap.objs.size + 1) :: (vs ++ dvs)) (Value.ref (s.heap.objs.size + 1) :: (us ++ ds)) := .cons rfl (r.append hd)
  have hl : (Value.ref (s.heap.objs.size + 1) :: us ++ ds).length = ps.length := by
    have e := r2.length
    rw [F.len _ _ _ _ hq] at e
    exact e.symm
  refine wpAny_call (make_map (f := f) I.kIn M.makes M.init (beq_iff_eq.mp M.fn) (codeAny_mono (F.run _ X.stack _ _ ⟨Value.ref (s.heap.objs.size + 1) :: us, []⟩ (Value.ref (s.heap.objs.size + 1) :: (us ++ ds)) _ _ (E σ) (hr.make C us [])
    (I2.env0.make C us []) (hb _ (Value.ref (s.heap.objs.size + 1) :: us) I2.kIn hl) r2 hq) fun r s' hq' => ?_))
  cases r with
  | error e => exact hx pins _ _ e s' I2 hq'
  | ok fl =>
    cases fl with
    | ret u =>
      obtain ⟨v, H', I3, rv, ev, q3⟩ := I2.after hq'
      subst ev
      exact ⟨rv, ⟨V.ref (s.heap.objs.size + 1), H', I3, rfl, q3⟩⟩
    | next => exact False.elim hq'
    | brk => exact False.elim hq'
    | cont => exact False.elim hq'
theorem pe_makeSD (M : Mk X.K C f) (F : FnOk X.prog X.w X.K X.mg X.base CX k f fd ps sp) (hr : Room (k + 1) X.A) (hg : Gl X x) (hm : X.mg x = some (.ref C)) (hb : Binds X.K fd ps ds) (hd : Vals dvs ds) (hx : ∀ σ, PassesAt CX X σ (E σ))
    (ha : PA X (e :: es) t) (hdb : (x == ("__debug__" : Str)) = false := by decide) (he : starEach (e :: es) X.env = (false, eval e X.env) :: starEach es X.env := by rfl) (hpl : (backTo pos (starEach es X.env)).any (·.1) = false := by rfl) :
    PE X (.Call (.Name x p) (e :: es) [] pos) (tMakeSD C sp dvs E t) := by
  refine ⟨fun pins s σ H Q I h => ?_⟩
  refine wpAny_Call_Name_kw (ld_glob I hg hm ?_ hdb)
  refine PySem.W.callWith_K (h₀ := X.base) I.ok.mod.kin M.kp (thn (ha.run pos pins s σ H _ I h) fun us s1 ⟨vs, H1, I1, r, q⟩ => ⟨I1.kIn, ?_⟩) he hpl
  exact run_makeSD M F hr hb hd (hx σ) I1 r q
theorem pe_methSD {pl : Sem Bool} (he : PE X o ta) (c : Cls X.K C) (hm : Meth X.K C m f) (F : FnOk X.prog X.w X.K X.mg X.base CX k f fd ps sp) (hr : Room k X.A) (hb : Binds X.K fd ps ds) (hd : Vals dvs ds) (hx : ∀ σ, PassesAt CX X σ (E σ)) (ha : PA X (e :: es) t)
    (hst : starEach (e :: es) X.env = (false, eval e X.env) :: starEach es X.env := by rfl) (hpl : (backTo pos (starEach es X.env)).any (·.1) = false := by rfl)
    (ht : eval (.Call (.Attribute o m apos) (e :: es) [] pos) X.env = (do
      let ov ← eval o X.env
      standAt apos.atName
      let (f, first) ← holding [ov] (getMethod ov m pl)
      callWith pos f first (backTo pos (starEach (e :: es) X.env)) (backToKw pos (keywordEach [] X.env))) := by rfl) :
    PE X (.Call (.Attribute o m apos) (e :: es) [] pos) (tMethSD C m sp dvs E ta t) := by
  refine ⟨fun pins s σ H Q I h => ?_⟩
  refine PySem.W.methodCall_KW (pl := pl) (thn (he.run pins s σ H _ I h) fun u s1 ⟨x, H1, I1, rx, a, dx, fs, ex, ea, l, q⟩ => ?_) ht
  subst ex
  obtain rfl : u = Value.ref a := rx
  refine getmeth_ok I1 ea c hm l ?_
  refine PySem.W.callWith_K (first := [.ref a]) (h₀ := X.base) I.ok.mod.kin hm.kp (thn (ha.run pos pins s1 σ H1 _ I1 q) fun us s2 ⟨vs, H2, I2, r, q2⟩ => ⟨I2.kIn, ?_⟩) hst hpl
  exact run_fnSD (us := .ref a :: us) (vs := .ref a :: vs) F hr hb hd (hx σ) I2 (.cons rfl r) q2
theorem pe_methSD0 {pl : Sem Bool} (he : PE X o ta) (c : Cls X.K C) (hm : Meth X.K C m f) (F : FnOk X.prog X.w X.K X.mg X.base CX k f fd ps sp) (hr : Room k X.A) (hb : Binds X.K fd ps ds) (hd : Vals dvs ds) (hx : ∀ σ, PassesAt CX X σ (E σ))
    (ht : eval (.Call (.Attribute o m apos) [] [] pos) X.env = (do
      let ov ← eval o X.env
      standAt apos.atName
      let (f, first) ← holding [ov] (getMethod ov m pl)
      callWith pos f first (backTo pos (starEach [] X.env)) (backToKw pos (keywordEach [] X.env))) := by rfl) :
    PE X (.Call (.Attribute o m apos) [] [] pos) (tMethSD C m sp dvs E ta tNil) := by
  refine ⟨fun pins s σ H Q I h => ?_⟩
  refine PySem.W.methodCall_KW (pl := pl) (thn (he.run pins s σ H _ I h) fun u s1 ⟨x, H1, I1, rx, a, dx, fs, ex, ea, l, q⟩ => ?_) ht
  subst ex
  obtain rfl : u = Value.ref a := rx
  refine getmeth_ok I1 ea c hm l ?_
  exact PySem.W.callWith_K0 (first := [.ref a]) I1.kIn hm.kp (run_fnSD (us := [.ref a]) (vs := [.ref a]) F hr hb hd (hx σ) I1 (.cons rfl .nil) q)
end
/-! ### contracts of what may raise -/
inductive Out where
  | ok (R : VP)
  | ex (C : Addr) (f : Str) (R : VP)
  | ex0 (C : Addr)
def OutGo (o : Out) (M : MM) (F H : Hp) (Q : VK) (E : XK) : Prop :=
  match o with
  | .ok R => ∀ F' H' v, Gr M F H F' H' → R F' v → Q v H'
  | .ex C f R => ∀ F' H' d v, Gr M F H F' H' → F' d = some (.xd [(f, v)]) → R F' v → E (.ref C) (some d) H'
  | .ex0 C => ∀ F' H', Gr M F H F' H' → E (.ref C) none H'
structure ConX where
  α : Type
  pre : α → List VP
  side : α → MM → Prop
  out : α → Out
def ConX.sp (c : ConX) : Sp := fun vs H Q E => ∃ (F : Hp) (M : MM) (a : c.α), Cn F M H ∧ Al F (c.pre a) vs ∧ c.side a M ∧ OutGo (c.out a) M F H Q E
inductive OutI where
  | ok (res : Hp → List (Str × V) → Prop)
  | ex (C : Addr) (f : Str) (R : VP)
  | ex0 (C : Addr)
structure IniX where
  α : Type
  pre : α → List VP
  side : α → MM → Prop
  out : α → OutI
def OutIGo (o : OutI) (C : Addr) (M : MM) (F H1 : Hp) (x dx : Addr) (Q : VK) (E : XK) : Prop :=
  match o with
  | .ok res => ∀ F' H' fs, Gr M F H1 F' H' → F' x = none → H' x = some (.ins C dx fs) → res F' fs → Q .non H'
  | .ex D f R => ∀ F' H' d v, Gr M F H1 F' H' → F' d = some (.xd [(f, v)]) → R F' v → E (.ref D) (some d) H'
  | .ex0 D => ∀ F' H', Gr M F H1 F' H' → E (.ref D) none H'
def IniX.sp (C : Addr) (c : IniX) : Sp := fun vs H Q E => ∃ (F : Hp) (M : MM) (a : c.α) (H1 : Hp) (x dx : Addr) (ws : List V), vs = .ref x :: ws ∧ H = upd (upd H1 dx (.own x)) x (.ins C dx []) ∧ H1 x = none ∧ H1 dx = none ∧ dx ≠ x ∧ Cn F M H1 ∧ Al F (c.pre a) ws ∧ c.side a M ∧
  OutIGo (c.out a) C M F H1 x dx Q E
section
variable {K : PySem.W.Frag} {σ : L2.St} {F F' : Hp} {M M1 : MM} {ta tb te tx : TE} {R S T P0 : VP} {C D : Addr} {m f : Str}
/-- e raises D with its field f -/
def EvR (te : TE) (W : WX) (σ : L2.St) (F : Hp) (M M' : MM) (D : Addr) (f : Str) (R : VP) : Prop := ∀ F1 H, Ex F F1 → Cn F1 M H → (∀ F2 H2 d v, GrM M M' F1 H F2 H2 → F2 d = some (.xd [(f, v)]) → R F2 v → W (.ref D) (some d) σ H2) → ∀ Q, te σ H Q
def EvR0 (te : TE) (W : WX) (σ : L2.St) (F : Hp) (M M' : MM) (D : Addr) : Prop := ∀ F1 H, Ex F F1 → Cn F1 M H → (∀ F2 H2, GrM M M' F1 H F2 H2 → W (.ref D) none σ H2) → ∀ Q, te σ H Q
theorem ev_callX (c : ConX) (a : c.α) {t : TA} {Rs Ds : List VP} {dvs : List V} {E : L2.St → XK} (h : EvAM t σ F M M1 Rs) (hd : Al F Ds dvs) (he : Ents F (Rs ++ Ds) (c.pre a)) (hs : c.side a M1) (hm : Monos Ds) (ho : c.out a = .ok R) : EvM (tCallSD c.sp dvs E t) σ F M M1 R := fun F1 H e k Q q =>
  h F1 H e k _ fun F2 H2 vs g hv =>
    ⟨F2, M1, a, g.c, he.al (e.trans g.f) (hv.app (Monos.up F F2 _ (e.trans g.f) hd)), hs, by rw [ho]; exact fun F3 H3 v g2 r => q F3 H3 v (g.trans g2) r⟩
theorem er_callX (c : ConX) (a : c.α) {t : TA} {Rs Ds : List VP} {dvs : List V} {W : WX} (h : EvAM t σ F M M1 Rs) (hd : Al F Ds dvs) (he : Ents F (Rs ++ Ds) (c.pre a)) (hs : c.side a M1) (hm : Monos Ds) (ho : c.out a = .ex D f R) : EvR (tCallSD c.sp dvs (WE W) t) W σ F M M1 D f R := fun F1 H e k q Q =>
  h F1 H e k _ fun F2 H2 vs g hv =>
    ⟨F2, M1, a, g.c, he.al (e.trans g.f) (hv.app (Monos.up F F2 _ (e.trans g.f) hd)), hs, by rw [ho]; exact fun F3 H3 d v g2 h3 r => q F3 H3 d v (g.trans g2) h3 r⟩
theorem er_callX0 (c : ConX) (a : c.α) {t : TA} {Rs Ds : List VP} {dvs : List V} {W : WX} (h : EvAM t σ F M M1 Rs) (hd : Al F Ds dvs) (he : Ents F (Rs ++ Ds) (c.pre a)) (hs : c.side a M1) (hm : Monos Ds) (ho : c.out a = .ex0 D) : EvR0 (tCallSD c.sp dvs (WE W) t) W σ F M M1 D := fun F1 H e k q Q =>
  h F1 H e k _ fun F2 H2 vs g hv =>
    ⟨F2, M1, a, g.c, he.al (e.trans g.f) (hv.app (Monos.up F F2 _ (e.trans g.f) hd)), hs, by rw [ho]; exact fun F3 H3 g2 => q F3 H3 (g.trans g2)⟩
theorem ev_makeX (c : IniX) (a : c.α) {t : TA} {Rs Ds : List VP} {dvs : List V} {E : L2.St → XK} {res : Hp → List (Str × V) → Prop} (h : EvAM t σ F M M1 Rs) (hd : Al F Ds dvs) (he : Ents F (Rs ++ Ds) (c.pre a)) (hs : c.side a M1) (ho : c.out a = .ok res) (hr : ∀ F F' fs, Ex F F' → res F fs → res F' fs) (hm : Monos Ds) :
    EvM (tMakeSD C (c.sp C) dvs E t) σ F M M1 (pIns C res) := fun F1 H e k Q q =>
  h F1 H e k _ fun F2 H2 vs g hv x dx hx hdx ne =>
    ⟨F2, M1, a, H2, x, dx, vs ++ dvs, rfl, rfl, hx, hdx, ne, g.c, he.al (e.trans g.f) (hv.app (Monos.up F F2 _ (e.trans g.f) hd)), hs, by
      rw [ho]
      exact fun F3 H3 fs g2 f3 h3 r => ⟨rfl, q (upd F3 x (.ins C dx fs)) H3 _ (g.trans (g2.fix g.c hx h3)) ⟨x, dx, fs, rfl, upd_same, hr F3 _ fs (Ex.new f3) r⟩⟩⟩
theorem er_makeX (c : IniX) (a : c.α) {t : TA} {Rs Ds : List VP} {dvs : List V} {W : WX} (h : EvAM t σ F M M1 Rs) (hd : Al F Ds dvs) (he : Ents F (Rs ++ Ds) (c.pre a)) (hs : c.side a M1) (ho : c.out a = .ex D f R) (hm : Monos Ds) :
    EvR (tMakeSD C (c.sp C) dvs (WE W) t) W σ F M M1 D f R := fun F1 H e k q Q =>
  h F1 H e k _ fun F2 H2 vs g hv x dx hx hdx ne =>
    ⟨F2, M1, a, H2, x, dx, vs ++ dvs, rfl, rfl, hx, hdx, ne, g.c, he.al (e.trans g.f) (hv.app (Monos.up F F2 _ (e.trans g.f) hd)), hs, by
      rw [ho]
      exact fun F3 H3 d v g2 h3 r => q F3 H3 d v (g.trans g2) h3 r⟩
/-! where the error goes through -/
def ErA (ta : TA) (W : WX) (σ : L2.St) (F : Hp) (M M' : MM) (D : Addr) (f : Str) (R : VP) : Prop := ∀ F1 H, Ex F F1 → Cn F1 M H → (∀ F2 H2 d v, GrM M M' F1 H F2 H2 → F2 d = some (.xd [(f, v)]) → R F2 v → W (.ref D) (some d) σ H2) → ∀ Q, ta σ H Q
theorem ra_hd {W : WX} {tr : TA} (h : EvR te W σ F M M1 D f R) : ErA (tCons te tr) W σ F M M1 D f R := fun F1 H e c q Q => h F1 H e c q _
theorem ra_tl {W : WX} {tr : TA} (h : EvD te σ F M S) (hr : ErA tr W σ F M M1 D f R) : ErA (tCons te tr) W σ F M M1 D f R := fun F1 H e c q Q =>
  h F1 H e c _ fun F2 H2 v g _ => hr F2 H2 (e.trans g.f) g.c (fun F3 H3 d v g2 => q F3 H3 d v (g.trans g2)) _
theorem er_tup {W : WX} {t : TA} (h : ErA t W σ F M M1 D f R) : EvR (tTup t) W σ F M M1 D f R := fun F1 H e c q Q => h F1 H e c q _
theorem er_lst {W : WX} {t : TA} (h : ErA t W σ F M M1 D f R) : EvR (tLst t) W σ F M M1 D f R := fun F1 H e c q Q => h F1 H e c q _
theorem er_meth {W : WX} {sp : Sp} {dvs : List V} {E : XK} {t : TA} (h : EvR ta W σ F M M1 D f R) : EvR (tMeth C m sp dvs E ta t) W σ F M M1 D f R := fun F1 H e c q Q => h F1 H e c q _
theorem er_methSD {W : WX} {sp : Sp} {dvs : List V} {E : L2.St → XK} {t : TA} (h : EvR ta W σ F M M1 D f R) : EvR (tMethSD C m sp dvs E ta t) W σ F M M1 D f R := fun F1 H e c q Q => h F1 H e c q _
end
/-! ### a def keeps such a promise -/
section
variable {P : Program} {w : World} {K : PySem.W.Frag} {mg : Str → Option Value} {base : Heap} {x qual : Str} {params : Arguments} {body : List Stmt} {scope : Scope} {dvs : List V} {kws : List (Str × V)} {f C : Addr} {fd : FuncData}
theorem ConX.ok (c : ConX) {N ps : List Str} {k : Nat} (D : FunD K x qual params body scope dvs kws f fd) (S : FnScope N ps scope) (len : ∀ a, (c.pre a).length = ps.length)
    (hb : ∀ (cdv : Value) (A : Around) (outer : List Env) (s : Shared) (H : Hp) (E : XK), Room k (A.deeper (PyProof.Rows.envOfC qual scope s.heap.objs.size f cdv)) →
      L2N.Takes (cxOf (L2N.CX P w) P w K mg base N qual scope f cdv A outer s H E) (fun cls d _ H => E cls d H) →
      ∃ t, PSs (cxOf (L2N.CX P w) P w K mg base N qual scope f cdv A outer s H E) body t ∧ ∀ (F : Hp) (M : MM) (a : c.α) (vs : List V) (Q : VK), Bx F M H F M H → Al F (c.pre a) vs → c.side a M →
        OutGo (c.out a) M F H Q E → t { nx := fun _ H' => Q .non H', rt := Q } (L2.start N vs) H) : FnOk P w K mg base (L2N.CX P w) (k + 1) f fd ps c.sp := by
  refine D.ok S (fun vs H Q E h => ?_) (fun cdv A outer s H vs Q E hr h => ?_)
  · obtain ⟨F, M, a, cn, hv, -, -⟩ := h
    rw [← hv.length]
    exact len a
  · obtain ⟨t, ht, hq⟩ := hb cdv A outer s H E hr (L2N.takes_of rfl rfl rfl rfl)
    obtain ⟨F, M, a, cn, hv, hs, q⟩ := h
    exact ⟨t, ht, hq F M a vs Q (Bx.start cn) hv hs q⟩
theorem IniX.ok (c : IniX) {N ps : List Str} {k : Nat} (D : FunD K x qual params body scope dvs kws f fd) (S : FnScope N ps scope) (len : ∀ a, (c.pre a).length + 1 = ps.length)
    (hb : ∀ (cdv : Value) (A : Around) (outer : List Env) (s : Shared) (H : Hp) (E : XK), Room k (A.deeper (PyProof.Rows.envOfC qual scope s.heap.objs.size f cdv)) →
      L2N.Takes (cxOf (L2N.CX P w) P w K mg base N qual scope f cdv A outer s H E) (fun cls d _ H => E cls d H) →
      ∃ t, PSs (cxOf (L2N.CX P w) P w K mg base N qual scope f cdv A outer s H E) body t ∧ ∀ (F : Hp) (M : MM) (a : c.α) (vs : List V) (Q : VK) (x dx : Addr) (H1 H2 : Hp), Bx F M H1 F (mput M x (eqo (.ins C dx []))) H2 → H1 x = none → Al F (c.pre a) vs → c.side a M →
        OutIGo (c.out a) C M F H1 x dx Q E → t { nx := fun _ H' => Q .non H', rt := Q } (L2.start N (.ref x :: vs)) H2) : FnOk P w K mg base (L2N.CX P w) (k + 1) f fd ps (c.sp C) := by
  refine D.ok S (fun vs H Q E h => ?_) (fun cdv A outer s H vs Q E hr h => ?_)
  · obtain ⟨F, M, a, H1, x, dx, ws, rfl, -, -, -, -, cn, hv, -, -⟩ := h
    rw [← len a, hv.length]
    rfl
  · obtain ⟨t, ht, hq⟩ := hb cdv A outer s H E hr (L2N.takes_of rfl rfl rfl rfl)
    obtain ⟨F, M, a, H1, x, dx, ws, rfl, rfl, hx, hd, ne, cn, hv, hs, q⟩ := h
    exact ⟨t, ht, hq F M a ws Q x dx H1 _ (Bx.init cn hx hd ne) hx hv hs q⟩
/-- the same promise, cold or within an except suite -/
theorem Con.okH (c : Con) {N ps : List Str} {k : Nat} {params : Arguments} {doc pm cdv ct oc dV kV : Value} {an od : Option Addr} {osl : Array (Option Value)} {name : Str} (lk : K.lookup f = some ⟨oc, od, .func (PySem.W.fnOf name qual params body scope dV kV doc pm an cdv ct), osl⟩) (hcd : PySem.W.codeIn K cdv qual = true) (S : FnScope N ps scope) (len : ∀ a, (c.pre a).length = ps.length)
    (hb : ∀ (A : Around) (outer : List Env) (s : Shared) (H : Hp) (E : XK) (p : Addr × Obj), L2H.Hot1 A p → L2H.RoomH k (A.deeper (PyProof.Rows.envOfC qual scope s.heap.objs.size f cdv)) →
      ∃ t, PSs (L2H.cxH CX0 P w K mg base N qual scope f cdv A outer s H E p) body t ∧ ∀ (F : Hp) (M : MM) (a : c.α) (vs : List V) (Q : VK), Bx F (M.add (c.cost a)) H F M H → Al F (c.pre a) vs → c.side a M →
        (∀ F' H' v, Gr (M.add (c.cost a)) F H F' H' → c.res a F' v → Q v H') → t { nx := fun _ H' => Q .non H', rt := Q } (L2.start N vs) H) : L2H.FnH P w K mg base CX0 (k + 1) f (PySem.W.fnOf name qual params body scope dV kV doc pm an cdv ct) ps c.sp := by
  refine L2H.fn_ofH lk hcd S (fun vs H Q E h => ?_) (fun A outer s H vs Q E p hot hr h => ?_)
  · obtain ⟨F, M, a, cn, hv, -, -⟩ := h
    rw [← hv.length]
    exact len a
  · obtain ⟨t, ht, hq⟩ := hb A outer s H E p hot hr
    obtain ⟨F, M, a, cn, hv, hs, q⟩ := h
    exact ⟨t, ht, hq F M a vs Q (Bx.startK cn _) hv hs fun F' H' v g => q F' H' v ⟨g.f, g.c, g.k, g.n, rfl, rfl⟩⟩
end
/-! ### what may be called -/
structure CalX (P : Program) (w : World) (K : PySem.W.Frag) (mg : Str → Option Value) (base : Heap) (k : Nat) (x : Str) (ps : List Str) (dvs : List V) (sp : Sp) : Prop where
  ex : ∃ (f : Addr) (fd : FuncData) (ds : List Value), FnOk P w K mg base (L2N.CX P w) k f fd ps sp ∧ Binds K fd ps ds ∧ Vals dvs ds ∧ PySem.W.keepIn K (.ref f) = true ∧ mg x = some (.ref f)
structure CalKX (P : Program) (w : World) (K : PySem.W.Frag) (mg : Str → Option Value) (base : Heap) (k : Nat) (x : Str) (ps : List Str) (dvs : List V) (sp : Sp) : Prop where
  ex : ∃ (f : Addr) (fd : FuncData) (ds : List Value), FnOk P w K mg base (L2N.CX P w) k f fd ps sp ∧ Binds K fd ps ds ∧ Vals dvs ds ∧ Mk K (He.ga K x) f ∧ mg x = some (.ref (He.ga K x))
structure CalMX (P : Program) (w : World) (K : PySem.W.Frag) (mg : Str → Option Value) (base : Heap) (k : Nat) (C : Addr) (m : Str) (ps : List Str) (dvs : List V) (sp : Sp) : Prop where
  ex : ∃ (f : Addr) (fd : FuncData) (ds : List Value), FnOk P w K mg base (L2N.CX P w) k f fd ps sp ∧ Binds K fd ps ds ∧ Vals dvs ds ∧ Meth K C m f
structure CalH (P : Program) (w : World) (K : PySem.W.Frag) (mg : Str → Option Value) (base : Heap) (k : Nat) (x : Str) (ps : List Str) (sp : Sp) : Prop where
  ex : ∃ (f : Addr) (fd : FuncData), L2H.FnH P w K mg base CX0 k f fd ps sp ∧ Binds K fd ps [] ∧ PySem.W.keepIn K (.ref f) = true ∧ mg x = some (.ref f)
/-- an own error that may be made and raised -/
structure CalE (P : Program) (w : World) (K : PySem.W.Frag) (mg : Str → Option Value) (base : Heap) (k : Nat) (x : Str) (ps : List Str) (sp : Sp) : Prop where
  ex : ∃ (f : Addr) (fd : FuncData), FnOk P w K mg base CX0 k f fd ps sp ∧ Binds K fd ps [] ∧ OexC K (He.ga K x) ∧ PySem.W.findIn K (.ref (He.ga K x)) "__init__" = some (some (.ref f)) ∧ PySem.W.typeIn K (.ref f) = some (.type "function") ∧ mg x = some (.ref (He.ga K x))
section
variable {X : L2.Cx} {x m : Str} {k : Nat} {ps : List Str} {sp : Sp} {e o : Expr} {es : List Expr} {t : TA} {p pos apos : Pos} {dvs : List V} {ta : TE} {C : Addr} {W : WX}
theorem pe_callXC (c : CalX X.prog X.w X.K X.mg X.base k x ps dvs sp) (tk : L2N.Takes X W) (hr : Room k X.A) (hg : Gl X x) (ha : PA X (e :: es) t)
    (hdb : (x == ("__debug__" : Str)) = false := by decide) (he : starEach (e :: es) X.env = (false, eval e X.env) :: starEach es X.env := by rfl) (hpl : (backTo pos (starEach es X.env)).any (·.1) = false := by rfl) :
    PE X (.Call (.Name x p) (e :: es) [] pos) (tCallSD sp dvs (WE W) t) := by
  obtain ⟨f, fd, ds, F, b, hd, kp, g⟩ := c.ex
  exact pe_callSD F hr hg g kp b hd (L2N.passAt tk) ha hdb he hpl
theorem pe_makeXC (c : CalKX X.prog X.w X.K X.mg X.base k x ps dvs sp) (tk : L2N.Takes X W) (hr : Room (k + 1) X.A) (hg : Gl X x) (ha : PA X (e :: es) t)
    (hdb : (x == ("__debug__" : Str)) = false := by decide) (he : starEach (e :: es) X.env = (false, eval e X.env) :: starEach es X.env := by rfl) (hpl : (backTo pos (starEach es X.env)).any (·.1) = false := by rfl) :
    PE X (.Call (.Name x p) (e :: es) [] pos) (tMakeSD (He.ga X.K x) sp dvs (WE W) t) := by
  obtain ⟨f, fd, ds, F, b, hd, mk, g⟩ := c.ex
  exact pe_makeSD mk F hr hg g b hd (L2N.passAt tk) ha hdb he hpl
theorem pe_methXC {pl : Sem Bool} (c : CalMX X.prog X.w X.K X.mg X.base k C m ps dvs sp) (tk : L2N.Takes X W) (cl : Cls X.K C) (hr : Room k X.A) (ho : PE X o ta) (ha : PA X (e :: es) t)
    (he : starEach (e :: es) X.env = (false, eval e X.env) :: starEach es X.env := by rfl) (hpl : (backTo pos (starEach es X.env)).any (·.1) = false := by rfl)
    (hc : eval (.Call (.Attribute o m apos) (e :: es) [] pos) X.env = (do
      let ov ← eval o X.env
      standAt apos.atName
      let (f, first) ← holding [ov] (getMethod ov m pl)
      callWith pos f first (backTo pos (starEach (e :: es) X.env)) (backToKw pos (keywordEach [] X.env))) := by rfl) :
    PE X (.Call (.Attribute o m apos) (e :: es) [] pos) (tMethSD C m sp dvs (WE W) ta t) := by
  obtain ⟨f, fd, ds, F, b, hd, mt⟩ := c.ex
  exact pe_methSD ho cl mt F hr b hd (L2N.passAt tk) ha he hpl hc
theorem pe_methXC0 {pl : Sem Bool} (c : CalMX X.prog X.w X.K X.mg X.base k C m ps dvs sp) (tk : L2N.Takes X W) (cl : Cls X.K C) (hr : Room k X.A) (ho : PE X o ta)
    (hc : eval (.Call (.Attribute o m apos) [] [] pos) X.env = (do
      let ov ← eval o X.env
      standAt apos.atName
      let (f, first) ← holding [ov] (getMethod ov m pl)
      callWith pos f first (backTo pos (starEach [] X.env)) (backToKw pos (keywordEach [] X.env))) := by rfl) :
    PE X (.Call (.Attribute o m apos) [] [] pos) (tMethSD C m sp dvs (WE W) ta tNil) := by
  obtain ⟨f, fd, ds, F, b, hd, mt⟩ := c.ex
  exact pe_methSD0 ho cl mt F hr b hd (L2N.passAt tk) hc
theorem pe_callHC (c : CalH X.prog X.w X.K X.mg X.base k x ps sp) (hh : L2H.HotC X) (hr : L2H.RoomH k X.A) (hg : Gl X x) (ha : PA X (e :: es) t)
    (hdb : (x == ("__debug__" : Str)) = false := by decide) (he : starEach (e :: es) X.env = (false, eval e X.env) :: starEach es X.env := by rfl) (hpl : (backTo pos (starEach es X.env)).any (·.1) = false := by rfl) :
    PE X (.Call (.Name x p) (e :: es) [] pos) (tCallS sp (fun _ => E0) t) := by
  obtain ⟨f, fd, F, b, kp, g⟩ := c.ex
  exact L2H.pe_callH F hr hh hg g kp b (fun σ => fun _ _ _ _ _ _ h => h.elim) ha hdb he hpl
theorem ps_raiseE (c : CalE X.prog X.w X.K X.mg X.base k x ps sp) (hc : X.calm = true) (tk : L2N.Takes X W) (hr : Room (k + 1) X.A) (hg : Gl X x) (ha : PA X (e :: es) t)
    (hdb : (x == ("__debug__" : Str)) = false := by decide) (he : starEach (e :: es) X.env = (false, eval e X.env) :: starEach es X.env := by rfl) (hpl : (backTo p (starEach es X.env)).any (·.1) = false := by rfl) :
    PS X (.Raise (some (.Call (.Name x apos) (e :: es) [] p)) none pos) (fun _ σ H => tMkO (He.ga X.K x) sp [] t σ H fun cls d H' => W cls d σ H') := by
  obtain ⟨f, fd, F, b, T, iC, tI, g⟩ := c.ex
  exact L2N.ps_raise hc tk (pmkN_oex T iC tI F hr b pass0 hg g ha hdb he hpl)
end
section
variable {K : PySem.W.Frag} {σ : L2.St} {F F' : Hp} {M : MM} {R S : VP}
/-- a hot call -/
theorem ev_callH (c : Con) (a : c.α) {t : TA} {Rs : List VP} {E : L2.St → XK} (h : EvA t σ F M Rs) (he : Ents F Rs (c.pre a)) (hs : c.side a M) : EvM (tCallS c.sp E t) σ F M (M.add (c.cost a)) (c.res a) := fun F1 H e k Q q =>
  h F1 H e k _ fun F2 H2 vs g hv => ⟨F2, M, a, g.c, he.al (e.trans g.f) hv, hs, fun F3 H3 v g2 r => q F3 H3 v (g.trans g2) r⟩
end
end Fw
end

section
/-! enumerate of a list or a tuple -/
namespace PySem
open Sem (wp)
theorem fw_meets_enum {v : Value} {o : Obj} {H : Heap → Prop} (B : Begins v o H) :
    Meets (Builtin.«enumerate.__new__» ⟨[.type "enumerate", v], []⟩) (fun _ R s => H s.heap ∧
      R (.ok (.ret (.ref (s.heap.push o).objs.size))) { s with heap := (s.heap.push o).push { cls := .type "enumerate", data := .fields #[.none, .bool false, .ref s.heap.objs.size, rawInt 0, .none, .none] } }) :=
  .of_wp fun prog w A R s h => by
    obtain ⟨hp, g, d, tk, os⟩ := s; obtain ⟨h1, h⟩ := h
    have hsub := sub_enumerate
    have q1 : ∀ {A' : Around} {E : Value → Shared → Prop} {Q : Value → Shared → Prop}, Q (.ref hp.objs.size) ⟨hp.push o, g, d, tk, os⟩ → wpAny (model prog w) A' (pyIter v) Q E ⟨hp, g, d, tk, os⟩ :=
      fun q => B.iter prog w _ _ ⟨hp, g, d, tk, os⟩ _ h1 q
    wp_walk using q1
    refine wpAny_stack_any fun st => wpAny_pure ?_
    split
    · rename_i c _ _ _ _ _
      cases (c == Value.type "enumerate")
      · wp_walk using q1
        exact ⟨_, rfl, h⟩
      · wp_walk using q1
        exact ⟨_, rfl, h⟩
    · wp_walk using q1
      exact ⟨_, rfl, h⟩
theorem fw_call_enum {prog : Program} {w : World} {A : Around} {E : Value → Shared → Prop} {s : Shared} {v : Value} {o : Obj} {H : Heap → Prop} {Q : Value → Shared → Prop} (B : Begins v o H) (h1 : H s.heap)
    (h : ∀ h', IsEnum h' (s.heap.objs.size + 1) s.heap.objs.size 0 .none → h'.get? s.heap.objs.size = some o → h'.objs.size = s.heap.objs.size + 2 →
      (∀ b o, s.heap.get? b = some o → h'.get? b = some o) → Q (.ref (s.heap.objs.size + 1)) { s with heap := h' }) :
    wpAny (model prog w) A (call (.type "enumerate") [v]) Q E s := by
  refine callType_new F.called_enumerate (by decide) (F.typeCall_enumerate_1 _) (F.newCall_enumerate_1 _) (fun obj => F.args_object_init_2 obj _) F.entry_enumerate_new
    (fw_meets_enum B) ⟨h1, ?_⟩
  have hz : (s.heap.push o).objs.size = s.heap.objs.size + 1 := Heap.size_push ..
  show _ ∧ _
  rw [hz]
  have he : IsEnum ((s.heap.push o).push { cls := .type "enumerate", data := .fields #[.none, .bool false, .ref s.heap.objs.size, rawInt 0, .none, .none] }) (s.heap.objs.size + 1) s.heap.objs.size 0 .none := by
    have := Heap.get?_push_size (s.heap.push o) (o := { cls := .type "enumerate", data := .fields #[.none, .bool false, .ref s.heap.objs.size, rawInt 0, .none, .none] }) rfl
    rw [hz] at this; exact this
  refine ⟨⟨_, he, rfl⟩, h _ he (Heap.get?_push_of_some _ (Heap.get?_push_size _ B.free)) (by rw [Heap.size_push, hz]) fun b o x => Heap.get?_push_of_some _ (Heap.get?_push_of_some _ x)⟩
theorem fw_enum_endT {prog : Program} {w : World} {A : Around} {E : Value → Shared → Prop} {s : Shared} {e it t : Addr} {i : Nat} {items : Array Value} {old : Value} {Q : Option Value → Shared → Prop} (hh : A.handled = none)
    (he : IsEnum s.heap e it i old) (hit : s.heap.IsTupleIter it t i) (hl : s.heap.IsTuple t items) (hx : items[i]? = none)
    (hQ : ∀ h', Heap.ExtBut it s.heap h' → Q none { s with heap := h' }) : wpAny (model prog w) A (pyNext (.ref e)) Q E s := by
  have hT : s.TypeIs (.ref e) "enumerate" := ⟨_, he, rfl⟩
  unfold pyNext
  refine wpAny_bind (wpAny_attempt (wpAny_callSpecial?_slot (name := Str.ofString "__next__") hT F.slot_enumerate_next
    (wpAny_call_entry F.slot_enumerate_next hT F.entry_enumerate_next ?_ (F.args_enumerate_next_1 _))))
  show wpAny _ _ (field (.ref e) 2 >>= _) _ _ _
  refine wpAny_bind (wpAny_field he rfl (x := .ref it) rfl ?_)
  refine wpAny_bind (wpAny_nextOf_tuple_end hh hit hl hx fun h' x he' hx' => ?_)
  obtain ⟨o, ho, hc⟩ := hx'
  refine wpAny_bind (wpAny_isInstance (T := "StopIteration") (b := true) ⟨o, ho, hc⟩ isSubtype_stop ?_)
  exact wpAny_pure (hQ _ he')
end PySem
namespace Fw
open PySem PySem.Spec PyProof.Rows L2 RZ
def IteT (K : PySem.W.Frag) (a : Addr) : It :=
  ⟨fun i H => ∃ (xs : List V) (x : V), SqT K H a xs ∧ xs[i]? = some x, fun i H v H' => ∃ T x, v = .ref T ∧ H T = none ∧ H' = upd H T (.tup [.int (i : Nat), x]) ∧ ∀ xs, SqT K H a xs → xs[i]? = some x, fun i H => ∃ xs : List V, SqT K H a xs ∧ xs.length ≤ i⟩
theorem turn_enumT {P : Program} {w : World} {K : PySem.W.Frag} {elts : List Expr} {kk : Nat} {tpos : Pos} (a e it : Addr) (hai : a ≠ it) (hae : a ≠ e) :
    Turn P w K (.Tuple elts kk tpos) (IteT K a) [e, it] e (fun i h => (∃ old, IsEnum h e it ((i : Nat) : Int) old) ∧ h.IsTupleIter it a i ∧ e ≠ it) where
  mem := by simp
  obj := fun i h st b hb => by
    obtain ⟨⟨old, he⟩, ⟨o, ho, hc, hd⟩, _⟩ := st
    have e' : b = e ∨ b = it := by simpa using hb
    rcases e' with z | z
    · rw [z]; exact ⟨_, he, fun v q => nomatch q⟩
    · rw [z]; exact ⟨o, ho, fun v q => by rw [hd] at q; cases q⟩
  keep := fun i h h' st k => let ⟨⟨old, he⟩, hi, hne⟩ := st; ⟨⟨old, k e (by simp) _ he⟩, hi.at fun o q => k it (by simp) o q, hne⟩
  item := by
    intro X hP hw hK hc i pins s σ H E I hf st hg
    subst hP hw hK
    obtain ⟨⟨old, he⟩, hit, hne⟩ := st
    obtain ⟨xs, x, hq, hx⟩ := hg
    obtain ⟨its, rv, p, hz⟩ := I.tuple hq
    have p : s.heap.IsTuple a its.toArray := p
    obtain ⟨u, hu, ru⟩ := rv.get hx
    have hel : e < s.heap.objs.size := Heap.lt_size he
    have hil : it < s.heap.objs.size := by obtain ⟨_, q, _⟩ := hit; exact Heap.lt_size q
    have hlt : i < its.toArray.size := by
      have := (List.getElem?_eq_some_iff.mp hu).1
      simpa using this
    refine wpAny_pyNext_enum_itemD (D := Draws.tuple (prog := X.prog) (w := X.w) (A := X.A.in1) (I.ok.hd hc) it a hai its.toArray) he ⟨hit, p⟩ hlt hne (fun z => (List.mem_cons.mp z).elim hne fun z => hae (List.mem_singleton.mp z).symm) fun x2 h' tk hx2 ho hst' hT hsz hk => ?_
    have hx2 : its.toArray[i]? = some x2 := hx2
    have e2 : x2 = u := by
      have z : its[i]? = some x2 := by simpa using hx2
      rw [hu] at z
      exact (Option.some.inj z).symm
    subst e2
    obtain ⟨hit', -⟩ := hst'
    refine ⟨_, rfl, wpAny_letOwnedTupleGo_enum (s := { s with heap := h', toks := tk + 1 }) ho fun h'' he' sb => ?_⟩
    have hT2 : h''.get? s.heap.objs.size = some { cls := .type "tuple", data := .seq #[.int i tk, x2] } := (sb.2 _ (Nat.ne_of_gt hel)).trans hT
    have new : ObjOk X.prog X.w (upd H s.heap.objs.size (.tup [.int (i : Nat), x])) h'' s.heap.objs.size (.tup [.int (i : Nat), x]) :=
      ⟨by show 2 ≤ sizeLine; decide, [.int i tk, x2], .cons ⟨_, rfl⟩ (.cons ru .nil), ⟨_, hT2, rfl, _, rfl⟩⟩
    have I1 : Inv X pins σ (upd H s.heap.objs.size (.tup [.int (i : Nat), x])) { s with heap := h'', toks := tk + 1 } :=
      I.turnedNew (ch := [e, it]) (fun b ob hb q => (sb.2 b (fun z => hb (by simp [z]))).trans (hk b ob (fun z => hb (by simp [z])) (fun z => hb (by simp [z])) q)) hf (Nat.le_refl _) new
    refine ⟨.ref s.heap.objs.size, _, I1, rfl, ⟨_, x, rfl, I.hok.fresh (Nat.le_refl _), rfl, fun ys hy => by rw [I.tuple_inj hy hq]; exact hx⟩, ⟨⟨x2, ?_⟩, hit'.at fun o q => (sb.2 it (Ne.symm hne)).trans q, hne⟩, fun b hb => ?_⟩
    · have e1 : ((i + 1 : Nat) : Int) = (i : Int) + 1 := by omega
      rw [e1]; exact he'
    · have hb' : b < s.heap.objs.size := by
        have e' : b = e ∨ b = it := by simpa using hb
        rcases e' with z | z
        · rw [z]; exact hel
        · rw [z]; exact hil
      rw [upd_ne (Nat.ne_of_lt hb')]
      exact (hf b hb).1
  done := by
    intro X hP hw hK hc i pins s σ H E I hf st hg
    subst hP hw hK
    obtain ⟨⟨old, he⟩, hit, hne⟩ := st
    obtain ⟨xs, hq, hx⟩ := hg
    obtain ⟨its, rv, p, hz⟩ := I.tuple hq
    have p : s.heap.IsTuple a its.toArray := p
    obtain ⟨f0, f1, f2, f3, f4, f5⟩ := hf it (by simp)
    have hl := rv.length
    exact fw_enum_endT (I.ok.hd hc) he hit p (by simp; omega) fun h' eb => ⟨rfl, I.turned (t' := s.toks) (fun b o hb q => eb b o hb q) f0 f1 f3 f4 f5⟩
  self := fun A i s Q E st h => let ⟨⟨_, he⟩, _⟩ := st; wpAny_pyIter_enum he h
def iEnumB (K : PySem.W.Frag) (ta : TA) : TI := fun σ H R => ta σ H fun vs H1 => ∃ a xs, vs = [.ref a] ∧ ((SqL K H1 a xs ∧ R (Ite K a) H1) ∨ (SqT K H1 a xs ∧ R (IteT K a) H1))
theorem pi_enumB {X : L2.Cx} {e : Expr} {ta : TA} {p pos tpos : Pos} {elts : List Expr} {kk : Nat} (hg : Gl X "enumerate") (hm : X.mg "enumerate" = none) (ha : PA X [e] ta) (hs : starEach [e] X.env = [(false, eval e X.env)] := by rfl) :
    PI X (.Tuple elts kk tpos) (.Call (.Name "enumerate" p) [e] [] pos) (iEnumB X.K ta) := by
  refine ⟨fun pins s σ H R I h => ?_⟩
  refine Call_ (ld_blt I hg hm boot_enumerate (PyProof.Rows.callWith_type1 (thn (ha.run pos pins s σ H _ I h) fun us s1 ⟨vs, H1, I1, r1, q1⟩ => ?_) hs rfl))
  obtain ⟨a, xs, ex, q⟩ := q1
  subst ex
  cases r1 with
  | cons r rr =>
    cases rr
    cases r
    have fresh2 : ∀ b, b ∈ [s1.heap.objs.size + 1, s1.heap.objs.size] → FpOk X pins H1 b := fun b hb => by
      have e' : b = s1.heap.objs.size + 1 ∨ b = s1.heap.objs.size := by simpa using hb
      have hle : s1.heap.objs.size ≤ b := by
        rcases e' with z | z
        · rw [z]; exact Nat.le_add_right _ _
        · rw [z]; exact Nat.le_refl _
      exact I1.fpOk hle (I1.hok.fresh hle)
    rcases q with ⟨hq, q⟩ | ⟨hq, q⟩
    · obtain ⟨its, rv, p', hz⟩ := I1.list hq
      refine call_enumerate_list p'.isList fun h' he hit hsz hk => wpAny_pyIter_enum he ?_
      have I2 : Inv X pins σ H1 { s1 with heap := h' } := I1.kept (t' := s1.toks) hk
      exact ⟨s1.heap.objs.size + 1, [s1.heap.objs.size + 1, s1.heap.objs.size], _, _, H1, rfl, I2, turn_enum a (s1.heap.objs.size + 1) s1.heap.objs.size, ⟨⟨.none, he⟩, hit, Nat.succ_ne_self _⟩, fresh2, q⟩
    · obtain ⟨its, rv, p', hz⟩ := I1.tuple hq
      have p' : s1.heap.IsTuple a its.toArray := p'
      have lt : a < s1.heap.objs.size := by obtain ⟨_, q, _⟩ := id p'; exact Heap.lt_size q
      refine fw_call_enum (begins_tuple a its.toArray) p' fun h' he hit hsz hk => wpAny_pyIter_enum he ?_
      have I2 : Inv X pins σ H1 { s1 with heap := h' } := I1.kept (t' := s1.toks) hk
      exact ⟨s1.heap.objs.size + 1, [s1.heap.objs.size + 1, s1.heap.objs.size], _, _, H1, rfl, I2, turn_enumT a (s1.heap.objs.size + 1) s1.heap.objs.size (Nat.ne_of_lt lt) (Nat.ne_of_lt (Nat.lt_succ_of_lt lt)), ⟨⟨.none, he⟩, ⟨_, hit, rfl, rfl⟩, Nat.succ_ne_self _⟩, fresh2, q⟩
theorem pi_enumB' {X : L2.Cx} {K : PySem.W.Frag} {e : Expr} {ta : TA} {p pos tpos : Pos} {elts : List Expr} {kk : Nat} (e' : X.K = K) (hg : Gl X "enumerate") (hm : X.mg "enumerate" = none) (ha : PA X [e] ta) (hs : starEach [e] X.env = [(false, eval e X.env)] := by rfl) :
    PI X (.Tuple elts kk tpos) (.Call (.Name "enumerate" p) [e] [] pos) (iEnumB K ta) := e' ▸ pi_enumB hg hm ha hs
theorem pi_zipA' {X : L2.Cx} {K : PySem.W.Frag} {e e2 : Expr} {ta : TA} {p pos tpos : Pos} {elts : List Expr} {kk : Nat} (e' : X.K = K) (hg : Gl X "zip") (hm : X.mg "zip" = none) (ha : PA X [e, e2] ta)
    (hs : starEach [e, e2] X.env = (false, eval e X.env) :: starEach [e2] X.env := by rfl) (hpl : (backTo pos (starEach [e2] X.env)).any (·.1) = false := by rfl) :
    PI X (.Tuple elts kk tpos) (.Call (.Name "zip" p) [e, e2] [] pos) (iZipA K ta) := e' ▸ pi_zipA hg hm ha hs hpl
theorem pi_seqB' {X : L2.Cx} {K : PySem.W.Frag} {tg l : Expr} {tl : TE} (e' : X.K = K) (hl : PE X l tl) : PI X tg l (iSeqB K tl) := e' ▸ pi_seqB hl
/-! items of either -/
def rIxB (K : PySem.W.Frag) : R2 := fun x y H Q => rIxL K x y H Q ∨ rIxT K x y H Q
theorem ix_seqB {X : L2.Cx} : IxR X (rIxB X.K) := by
  intro value slice pins s σ H x y v u Q I rx ry h hs
  rcases h with h | h
  · exact ix_list value slice pins s σ H x y v u Q I rx ry h hs
  · exact ix_tup value slice pins s σ H x y v u Q I rx ry h hs
theorem ix_seqB' {X : L2.Cx} {K : PySem.W.Frag} (e' : X.K = K) : IxR X (rIxB K) := e' ▸ ix_seqB
section
variable {K : PySem.W.Frag} {σ : L2.St} {F : Hp} {M M1 : MM} {tl : TE} {ta : TA} {R S T : VP} {Rs Ss : List VP}
/-- a list or a tuple of such -/
def pSq (K : PySem.W.Frag) (tup : Bool) (Rs : List VP) : VP := if tup then pT K Rs else pQ K Rs
instance {b : Bool} [h : Monos Rs] : Mono (pSq K b Rs) := by
  cases b with
  | true => exact (inferInstance : Mono (pT K Rs))
  | false => exact (inferInstance : Mono (pQ K Rs))
theorem rv_ixB {i : Int} {b : Bool} (he : Ent F S (pSq K b Rs)) (ha : atI Rs i = some R) : RvD (rIxB K) S (pI i) F M R := fun F1 H x y e c hx hy Q q => by
  cases b with
  | true => exact .inr (rv_ixT (K := K) (Rs := Rs) he ha F1 H x y e c hx hy Q q)
  | false => exact .inl (rv_ixL (K := K) (Rs := Rs) he ha F1 H x y e c hx hy Q q)
theorem rc_lenB {b : Bool} (he : Ent F S (pSq K b Rs)) : RcD (rLenS K) [S] F M (pI (Rs.length : Int)) := by
  cases b with
  | true => exact rc_lenT he
  | false => exact rc_lenL he
theorem wk_seqB {b : Bool} (h : EvM tl σ F M M1 S) (he : Ent F S (pSq K b Rs)) (hm : Monos Rs) : WkM (iSeqB K tl) σ F M M1 Rs := fun F1 H e c R q => by
  cases b with
  | false =>
    refine h F1 H e c _ fun F2 H2 v g hv => ?_
    obtain ⟨a, xs, ev, hs, al⟩ := he F2 v (e.trans g.f) hv
    refine ⟨a, xs, ev, .inl ⟨g.c.sqL hs, q _ F2 H2 g fun i F3 M3 H3 e3 _ c3 => ?_⟩⟩
    have hs3 : SqL K H3 a xs := c3.sqL (e3.sqL hs)
    refine ⟨fun hi => ⟨xs, hs3, by rw [← al.length]; exact hi⟩, fun Y hY => ?_⟩
    obtain ⟨x, hx, hr⟩ := (Monos.up F2 F3 _ e3 al).get hY
    refine ⟨⟨xs, x, hs3, hx⟩, fun y H4 hy => ?_⟩
    obtain ⟨rfl, hy⟩ := hy
    have := hy xs hs3
    rw [hx] at this
    cases this
    exact ⟨F3, Gr.refl c3, hr⟩
  | true =>
    refine h F1 H e c _ fun F2 H2 v g hv => ?_
    obtain ⟨a, xs, ev, hs, al⟩ := he F2 v (e.trans g.f) hv
    refine ⟨a, xs, ev, .inr ⟨g.c.sqT hs, q _ F2 H2 g fun i F3 M3 H3 e3 _ c3 => ?_⟩⟩
    have hs3 : SqT K H3 a xs := c3.sqT (e3.sqT hs)
    refine ⟨fun hi => ⟨xs, hs3, by rw [← al.length]; exact hi⟩, fun Y hY => ?_⟩
    obtain ⟨x, hx, hr⟩ := (Monos.up F2 F3 _ e3 al).get hY
    refine ⟨⟨xs, x, hs3, hx⟩, fun y H4 hy => ?_⟩
    obtain ⟨rfl, hy⟩ := hy
    have := hy xs hs3
    rw [hx] at this
    cases this
    exact ⟨F3, Gr.refl c3, hr⟩
theorem wk_enumB {b : Bool} (h : EvAM ta σ F M M1 [S]) (he : Ent F S (pSq K b Rs)) (hm : Monos Rs) : WkM (iEnumB K ta) σ F M M1 (Rs.mapIdx fun i R => pTt [pI (i : Int), R]) := fun F1 H e c R q =>
  h F1 H e c _ fun F2 H2 vs g hv => by
    cases hv with
    | cons h1 h2 =>
      cases h2
      cases b with
      | false =>
        obtain ⟨a, xs, ev, hs, al⟩ := he F2 _ (e.trans g.f) h1
        refine ⟨a, xs, by rw [ev], .inl ⟨g.c.sqL hs, q _ F2 H2 g fun i F3 M3 H3 e3 _ c3 => ?_⟩⟩
        have hs3 : SqL K H3 a xs := c3.sqL (e3.sqL hs)
        refine ⟨fun hi => ⟨xs, hs3, by rw [← al.length]; simpa using hi⟩, fun Y hY => ?_⟩
        rw [List.getElem?_mapIdx] at hY
        cases z : Rs[i]? with
        | none => rw [z] at hY; cases hY
        | some R0 =>
          rw [z] at hY
          cases hY
          obtain ⟨x, hx, hr⟩ := (Monos.up F2 F3 _ e3 al).get z
          refine ⟨⟨xs, x, hs3, hx⟩, fun y H4 hy => ?_⟩
          obtain ⟨t, x', rfl, ht, rfl, hy⟩ := hy
          have := hy xs hs3
          rw [hx] at this
          cases this
          have al3 := (Monos.up F2 F3 _ e3 al)
          refine ⟨upd F3 t (.tup [.int (i : Int), x]), Gr.new c3 ht, t, _, rfl, upd_same, .cons rfl (.cons ?_ .nil)⟩
          obtain ⟨x2, hx2, hr2⟩ := (Monos.up F3 _ _ (Ex.new (o := .tup [.int (i : Int), x]) (c3.fnone ht)) al3).get z
          rw [hx] at hx2
          cases hx2
          exact hr2
      | true =>
        obtain ⟨a, xs, ev, hs, al⟩ := he F2 _ (e.trans g.f) h1
        refine ⟨a, xs, by rw [ev], .inr ⟨g.c.sqT hs, q _ F2 H2 g fun i F3 M3 H3 e3 _ c3 => ?_⟩⟩
        have hs3 : SqT K H3 a xs := c3.sqT (e3.sqT hs)
        refine ⟨fun hi => ⟨xs, hs3, by rw [← al.length]; simpa using hi⟩, fun Y hY => ?_⟩
        rw [List.getElem?_mapIdx] at hY
        cases z : Rs[i]? with
        | none => rw [z] at hY; cases hY
        | some R0 =>
          rw [z] at hY
          cases hY
          obtain ⟨x, hx, hr⟩ := (Monos.up F2 F3 _ e3 al).get z
          refine ⟨⟨xs, x, hs3, hx⟩, fun y H4 hy => ?_⟩
          obtain ⟨t, x', rfl, ht, rfl, hy⟩ := hy
          have := hy xs hs3
          rw [hx] at this
          cases this
          have al3 := (Monos.up F2 F3 _ e3 al)
          refine ⟨upd F3 t (.tup [.int (i : Int), x]), Gr.new c3 ht, t, _, rfl, upd_same, .cons rfl (.cons ?_ .nil)⟩
          obtain ⟨x2, hx2, hr2⟩ := (Monos.up F3 _ _ (Ex.new (o := .tup [.int (i : Int), x]) (c3.fnone ht)) al3).get z
          rw [hx] at hx2
          cases hx2
          exact hr2
/-- zip of two lists or two tuples -/
theorem wk_zipA {b : Bool} (h : EvAM ta σ F M M1 [S, T]) (he : Ent F S (pSq K b Rs)) (he2 : Ent F T (pSq K b Ss)) (hm : Monos Rs) (hm2 : Monos Ss) : WkM (iZipA K ta) σ F M M1 (List.zipWith (fun R S => pTt [R, S]) Rs Ss) := fun F1 H e c R q =>
  h F1 H e c _ fun F2 H2 vs g hv => by
    cases hv with
    | cons h1 h2 =>
      cases h2 with
      | cons h2 h3 =>
        cases h3
        cases b with
        | false =>
          obtain ⟨a, xs, ev, hs, al⟩ := he F2 _ (e.trans g.f) h1
          obtain ⟨b, ys, ev2, hs2, al2⟩ := he2 F2 _ (e.trans g.f) h2
          refine ⟨a, b, xs, ys, by rw [ev, ev2], .inl ⟨g.c.sqL hs, g.c.sqL hs2, q _ F2 H2 g fun i F3 M3 H3 e3 _ c3 => ?_⟩⟩
          have hs3 : SqL K H3 a xs := c3.sqL (e3.sqL hs)
          have hs4 : SqL K H3 b ys := c3.sqL (e3.sqL hs2)
          refine ⟨fun hi => ⟨xs, ys, hs3, hs4, ?_⟩, fun Y hY => ?_⟩
          · rw [List.length_zipWith] at hi
            rw [← al.length, ← al2.length]
            omega
          · rw [List.getElem?_zipWith] at hY
            cases z : Rs[i]? with
            | none => rw [z] at hY; cases hY
            | some R0 =>
              cases z2 : Ss[i]? with
              | none => rw [z, z2] at hY; cases hY
              | some S0 =>
                rw [z, z2] at hY
                cases hY
                obtain ⟨x, hx, hr⟩ := (Monos.up F2 F3 _ e3 al).get z
                obtain ⟨y, hy, hr2⟩ := (Monos.up F2 F3 _ e3 al2).get z2
                refine ⟨⟨xs, ys, x, y, hs3, hs4, hx, hy⟩, fun v H4 hv => ?_⟩
                obtain ⟨t, x', y', rfl, ht, rfl, k1, k2⟩ := hv
                have q1 := k1 xs hs3
                have q2 := k2 ys hs4
                rw [hx] at q1
                rw [hy] at q2
                cases q1
                cases q2
                have ext := Ex.new (o := .tup [x, y]) (c3.fnone ht)
                obtain ⟨x2, hx2, w1⟩ := (Monos.up F2 _ _ (e3.trans ext) al).get z
                obtain ⟨y2, hy2, w2⟩ := (Monos.up F2 _ _ (e3.trans ext) al2).get z2
                rw [hx] at hx2
                rw [hy] at hy2
                cases hx2
                cases hy2
                exact ⟨upd F3 t (.tup [x, y]), Gr.new c3 ht, t, _, rfl, upd_same, .cons w1 (.cons w2 .nil)⟩
        | true =>
          obtain ⟨a, xs, ev, hs, al⟩ := he F2 _ (e.trans g.f) h1
          obtain ⟨b, ys, ev2, hs2, al2⟩ := he2 F2 _ (e.trans g.f) h2
          refine ⟨a, b, xs, ys, by rw [ev, ev2], .inr ⟨g.c.sqT hs, g.c.sqT hs2, q _ F2 H2 g fun i F3 M3 H3 e3 _ c3 => ?_⟩⟩
          have hs3 : SqT K H3 a xs := c3.sqT (e3.sqT hs)
          have hs4 : SqT K H3 b ys := c3.sqT (e3.sqT hs2)
          refine ⟨fun hi => ⟨xs, ys, hs3, hs4, ?_⟩, fun Y hY => ?_⟩
          · rw [List.length_zipWith] at hi
            rw [← al.length, ← al2.length]
            omega
          · rw [List.getElem?_zipWith] at hY
            cases z : Rs[i]? with
            | none => rw [z] at hY; cases hY
            | some R0 =>
              cases z2 : Ss[i]? with
              | none => rw [z, z2] at hY; cases hY
              | some S0 =>
                rw [z, z2] at hY
                cases hY
                obtain ⟨x, hx, hr⟩ := (Monos.up F2 F3 _ e3 al).get z
                obtain ⟨y, hy, hr2⟩ := (Monos.up F2 F3 _ e3 al2).get z2
                refine ⟨⟨xs, ys, x, y, hs3, hs4, hx, hy⟩, fun v H4 hv => ?_⟩
                obtain ⟨t, x', y', rfl, ht, rfl, k1, k2⟩ := hv
                have q1 := k1 xs hs3
                have q2 := k2 ys hs4
                rw [hx] at q1
                rw [hy] at q2
                cases q1
                cases q2
                have ext := Ex.new (o := .tup [x, y]) (c3.fnone ht)
                obtain ⟨x2, hx2, w1⟩ := (Monos.up F2 _ _ (e3.trans ext) al).get z
                obtain ⟨y2, hy2, w2⟩ := (Monos.up F2 _ _ (e3.trans ext) al2).get z2
                rw [hx] at hx2
                rw [hy] at hy2
                cases hx2
                cases hy2
                exact ⟨upd F3 t (.tup [x, y]), Gr.new c3 ht, t, _, rfl, upd_same, .cons w1 (.cons w2 .nil)⟩
/-! list(..), tuple(..) of either -/
theorem en_listB {b : Bool} {tas : TA} (h : EvAM tas σ F M M1 [S]) (he : Ent F S (pSq K b Rs)) : EvNM (tCB (rListOf K) tas) σ F M M1 (fun F o => ∃ xs, o = .lst xs ∧ Al F Rs xs) := by
  cases b with
  | true => exact en_listT h he
  | false => exact en_list h he
end
end Fw
end

section
/-! things: what a caller may hand over -/
namespace Fw
open PySem L2
inductive Th where
  | non
  | bl (b : Bool)
  | int (i : Int)
  | str (s : Str)
  | seq (t : Bool) (xs : List Th)
  | dic (kvs : List (Key × V))
  | own (C : Addr)
mutual
def pTh (K : PySem.W.Frag) : Th → VP
  | .non => pN
  | .bl b => pB b
  | .int i => pI i
  | .str s => pS s
  | .seq t xs => pSq K t (pThs K xs)
  | .dic kvs => pDk kvs
  | .own C => pKd K (.own C)
def pThs (K : PySem.W.Frag) : List Th → List VP
  | [] => []
  | x :: xs => pTh K x :: pThs K xs
end
theorem pThs_map {K : PySem.W.Frag} : ∀ xs : List Th, pThs K xs = xs.map (pTh K)
  | [] => by simp [pThs]
  | x :: xs => by simp [pThs, pThs_map xs]
mutual
theorem pTh_mono {K : PySem.W.Frag} : ∀ t : Th, Mono (pTh K t)
  | .non => by unfold pTh; infer_instance
  | .bl b => by unfold pTh; infer_instance
  | .int i => by unfold pTh; infer_instance
  | .str s => by unfold pTh; infer_instance
  | .seq t xs => by
    have := pThs_mono (K := K) xs
    unfold pTh
    infer_instance
  | .dic kvs => by unfold pTh; infer_instance
  | .own C => by unfold pTh; infer_instance
theorem pThs_mono {K : PySem.W.Frag} : ∀ xs : List Th, Monos (pThs K xs)
  | [] => by unfold pThs; infer_instance
  | x :: xs => by
    have := pTh_mono (K := K) x
    have := pThs_mono (K := K) xs
    unfold pThs
    infer_instance
end
instance {K : PySem.W.Frag} {t : Th} : Mono (pTh K t) := pTh_mono t
def Th.kd : Th → DK
  | .non => .non
  | .bl _ => .bl
  | .int _ => .int
  | .str _ => .str
  | .seq t _ => if t then .tup else .lst
  | .dic _ => .dic
  | .own C => .own C
theorem pTh_seq {K : PySem.W.Frag} {t : Bool} {xs : List Th} : pTh K (.seq t xs) = pSq K t (xs.map (pTh K)) := by
  conv => lhs; unfold pTh
  rw [pThs_map]
theorem kd_pSq {K : PySem.W.Frag} {F : Hp} {t : Bool} {Rs : List VP} : Ent F (pSq K t Rs) (pKd K (if t then .tup else .lst)) := by
  cases t with
  | true => exact kd_pT
  | false => exact kd_pQ
theorem kd_th {K : PySem.W.Frag} {F : Hp} (t : Th) : Ent F (pTh K t) (pKd K t.kd) := by
  cases t with
  | non => unfold pTh; exact kd_non
  | bl b => unfold pTh; exact kd_bl
  | int i => unfold pTh; exact kd_int
  | str s => unfold pTh; exact kd_str
  | seq t xs => rw [pTh_seq]; exact kd_pSq
  | dic kvs => unfold pTh; exact kd_pDk
  | own C => unfold pTh; exact Ent.refl
theorem th_own {K : PySem.W.Frag} {C : Addr} : pTh K (.own C) = pKd K (.own C) := by unfold pTh; rfl
theorem th_int {K : PySem.W.Frag} {i : Int} : pTh K (.int i) = pI i := by unfold pTh; rfl
theorem th_bl {K : PySem.W.Frag} {b : Bool} : pTh K (.bl b) = pB b := by unfold pTh; rfl
theorem th_str {K : PySem.W.Frag} {s : Str} : pTh K (.str s) = pS s := by unfold pTh; rfl
theorem th_non {K : PySem.W.Frag} : pTh K .non = pN := by unfold pTh; rfl
theorem th_dic {K : PySem.W.Frag} {kvs : List (Key × V)} : pTh K (.dic kvs) = pDk kvs := by unfold pTh; rfl
theorem ent_of {F : Hp} {R S : VP} (h : R = S) : Ent F R S := h ▸ Ent.refl
end Fw
end

section
/-! dicts of ints, sorted lists of ints -/
namespace Fw
open PySem L2
def toK (l : List (Int × Int)) : List (Key × V) := l.map fun x => ((.inl x.1 : Key), V.int x.2)
def getI (l : List (Int × Int)) (k : Int) : Option Int := (l.find? fun x => decide (x.1 = k)).map (·.2)
def putI (l : List (Int × Int)) (k v : Int) : List (Int × Int) := if (l.any fun x => decide (x.1 = k)) = true then l.map (fun x => if x.1 = k then (x.1, v) else x) else l ++ [(k, v)]
theorem inl_eq {a b : Int} : ((.inl a : Key) = .inl b) ↔ a = b := ⟨fun h => Sum.inl.inj h, fun h => by rw [h]⟩
theorem valV_toK (l : List (Int × Int)) (k : Int) : valV (toK l) (.inl k) = (getI l k).map V.int := by
  unfold valV toK getI
  induction l with
  | nil => rfl
  | cons x l ih =>
    by_cases h : x.1 = k
    · simp [List.find?_cons, h, inl_eq]
    · have : ¬ ((.inl x.1 : Key) = .inl k) := fun z => h (inl_eq.mp z)
      simp only [List.map_cons, List.find?_cons, decide_eq_false this, decide_eq_false h]
      exact ih
theorem putK_toK (l : List (Int × Int)) (k v : Int) : putK (toK l) (.inl k) (.int v) = toK (putI l k v) := by
  have ha : ((toK l).any fun kv => decide (kv.1 = (.inl k : Key))) = (l.any fun x => decide (x.1 = k)) := by
    unfold toK
    induction l with
    | nil => rfl
    | cons x l ih =>
      simp only [List.map_cons, List.any_cons, ih]
      congr 1
      by_cases h : x.1 = k
      · simp [h]
      · have : ¬ ((.inl x.1 : Key) = .inl k) := fun z => h (inl_eq.mp z)
        rw [decide_eq_false this, decide_eq_false h]
  unfold putK putI
  rw [ha]
  split
  · unfold toK
    simp only [List.map_map]
    apply List.map_congr_left
    intro x _
    simp only [Function.comp]
    by_cases h : x.1 = k
    · simp [h]
    · have : ¬ ((.inl x.1 : Key) = .inl k) := fun z => h (inl_eq.mp z)
      rw [if_neg this, if_neg h]
  · simp [toK]
theorem len_putI (l : List (Int × Int)) (k v : Int) : (putI l k v).length ≤ l.length + 1 := by
  unfold putI
  split <;> simp
theorem toK_len (l : List (Int × Int)) : (toK l).length = l.length := by unfold toK; simp
theorem toK_keys (l : List (Int × Int)) : (toK l).map (fun kv => pV (kV kv.1)) = (l.map (·.1)).map (fun i => pI i) := by
  unfold toK
  simp [List.map_map, Function.comp_def, kV]
/-- keys once each -/
def KeysI (l : List (Int × Int)) : Prop := (l.map (·.1)).Nodup
theorem getI_none {l : List (Int × Int)} {k : Int} : getI l k = none ↔ k ∉ l.map (·.1) := by
  unfold getI
  simp only [Option.map_eq_none_iff, List.find?_eq_none, decide_eq_true_eq, List.mem_map, not_exists, not_and]
theorem getI_mem {l : List (Int × Int)} (h : KeysI l) {k v : Int} (m : (k, v) ∈ l) : getI l k = some v := by
  unfold getI
  induction l with
  | nil => cases m
  | cons x l ih =>
    have h' := List.nodup_cons.mp h
    rcases List.mem_cons.mp m with e | m
    · rw [← e]; simp
    · have hx : x.1 ≠ k := fun z => h'.1 (List.mem_map.mpr ⟨(k, v), m, z.symm⟩)
      rw [List.find?_cons, decide_eq_false hx]
      exact ih h'.2 m
theorem any_key {l : List (Int × Int)} {k : Int} : (l.any fun x => decide (x.1 = k)) = true ↔ k ∈ l.map (·.1) := by
  simp [List.any_eq_true]
theorem keys_putI (l : List (Int × Int)) (k v : Int) : (putI l k v).map (·.1) = if k ∈ l.map (·.1) then l.map (·.1) else l.map (·.1) ++ [k] := by
  unfold putI
  by_cases h : k ∈ l.map (·.1)
  · rw [if_pos (any_key.mpr h), if_pos h, List.map_map]
    apply List.map_congr_left
    intro x _
    simp only [Function.comp]
    split <;> rfl
  · rw [if_neg (fun z => h (any_key.mp z)), if_neg h]
    simp
theorem KeysI.put {l : List (Int × Int)} (h : KeysI l) (k v : Int) : KeysI (putI l k v) := by
  unfold KeysI
  rw [keys_putI]
  split
  · exact h
  · rename_i hk
    exact List.nodup_append.mpr ⟨h, by simp, fun a ha b hb => by
      have : b = k := by simpa using hb
      subst this
      exact fun z => hk (z ▸ ha)⟩
theorem getI_putI (l : List (Int × Int)) (k v j : Int) : getI (putI l k v) j = if j = k then some v else getI l j := by
  unfold putI
  by_cases h : (l.any fun x => decide (x.1 = k)) = true
  · rw [if_pos h]
    unfold getI
    induction l with
    | nil => simp at h
    | cons x l ih =>
      rw [List.map_cons, List.find?_cons]
      by_cases hx : x.1 = k
      · rw [if_pos hx]
        by_cases hj : j = k
        · simp [hx, hj]
        · have h1 : ¬ x.1 = j := fun z => hj (z ▸ hx)
          simp only [decide_eq_false h1]
          rw [if_neg hj, List.find?_cons, decide_eq_false h1]
          by_cases ha : (l.any fun x => decide (x.1 = k)) = true
          · have := ih ha
            rw [if_neg hj] at this
            exact this
          · have e : l.map (fun x => if x.1 = k then (x.1, v) else x) = l := by
              have : ∀ x ∈ l, ¬ x.1 = k := fun y hy z => ha (List.any_eq_true.mpr ⟨y, hy, decide_eq_true z⟩)
              rw [List.map_congr_left (g := id) (fun y hy => by rw [if_neg (this y hy)]; rfl)]
              simp
            rw [e]
      · have ha : (l.any fun x => decide (x.1 = k)) = true := by
          rw [List.any_cons, decide_eq_false hx, Bool.false_or] at h
          exact h
        rw [if_neg hx, List.find?_cons]
        by_cases hj : x.1 = j
        · simp only [decide_eq_true hj]
          have : ¬ j = k := fun z => hx (hj.trans z)
          rw [if_neg this]
        · simp only [decide_eq_false hj]
          exact ih ha
  · rw [if_neg h]
    have hk : k ∉ l.map (·.1) := fun z => h (any_key.mpr z)
    unfold getI
    rw [List.find?_append]
    by_cases hj : j = k
    · subst hj
      have : l.find? (fun x => decide (x.1 = j)) = none := by
        have := getI_none.mpr hk
        unfold getI at this
        simpa using this
      rw [this]
      simp
    · rw [if_neg hj]
      cases l.find? (fun x => decide (x.1 = j)) with
      | none => simp [List.find?_cons, decide_eq_false (Ne.symm hj)]
      | some y => simp
/-- putting new keys one after the other -/
theorem put_fresh {l : List (Int × Int)} {k v : Int} (h : k ∉ l.map (·.1)) : putI l k v = l ++ [(k, v)] := by
  unfold putI
  rw [if_neg fun z => h (any_key.mp z)]
theorem merge_fresh : ∀ (m l : List (Int × Int)), KeysI (l ++ m) → mergeK (toK l) (toK m) = toK (l ++ m)
  | [], l, _ => by simp [mergeK, toK]
  | x :: m, l, h => by
    have hx : x.1 ∉ l.map (·.1) := by
      unfold KeysI at h
      rw [List.map_append, List.map_cons] at h
      have := (List.nodup_append.mp h).2.2
      exact fun z => this x.1 z x.1 (by simp) rfl
    have e : mergeK (toK l) (toK (x :: m)) = mergeK (putK (toK l) (.inl x.1) (.int x.2)) (toK m) := rfl
    rw [e, putK_toK, put_fresh hx, merge_fresh m (l ++ [(x.1, x.2)]) (by rw [List.append_assoc]; exact h)]
    rw [List.append_assoc]
    rfl
theorem merge_all {l : List (Int × Int)} (h : KeysI l) : mergeK [] (toK l) = toK l := merge_fresh l [] h
/-! sorted -/
def srt (l : List Int) : List Int := l.mergeSort fun a b => decide (a ≤ b)
theorem srt_perm (l : List Int) : (srt l).Perm l := List.mergeSort_perm l _
theorem srt_pw (l : List Int) : (srt l).Pairwise (· ≤ ·) := by
  have := List.pairwise_mergeSort (le := fun a b : Int => decide (a ≤ b)) (fun a b c h1 h2 => by simp at *; omega) (fun a b => by simp; omega) l
  exact this.imp fun h => by simpa using h
theorem srt_eq {l m : List Int} (hp : m.Perm l) (hs : m.Pairwise (· ≤ ·)) : m = srt l :=
  List.Perm.eq_of_pairwise (le := fun a b : Int => a ≤ b) (fun a b _ _ h1 h2 => Int.le_antisymm h1 h2) hs (srt_pw l) (hp.trans (srt_perm l).symm)
section
variable {K : PySem.W.Frag} {σ : St} {F F' F0 H H0 : Hp} {M M1 Me : MM} {ta te : TE} {tas : TA} {R S T : VP} {D : Ends} {tz : TS}
theorem al_ints {F : Hp} {ns : List Int} {vs : List V} (h : Al F (ns.map fun i => pI i) vs) : vs = ns.map V.int := by
  have e : (ns.map fun i => pI i) = (ns.map V.int).map pV := by simp [List.map_map, Function.comp_def]
  rw [e] at h
  exact al_pV h
theorem rc_sortedI {ns : List Int} (he : Ent F S (pQ K (ns.map fun i => pI i))) : RcD (rSortedI K) [S] F M (pL ((srt ns).map fun i => pI i)) := fun F1 H vs e c hv Q q => by
  cases hv with
  | cons h1 h2 =>
    cases h2
    obtain ⟨a, xs, e1, hs, al⟩ := he F1 _ e h1
    rw [al_ints al] at hs
    refine ⟨a, ns, by rw [e1], c.sqL hs, fun ns' p hp hw hn => ?_⟩
    rw [srt_eq hp hw]
    refine q (upd F1 p (.lst ((srt ns).map V.int))) _ _ (Gr.new c hn) ⟨p, _, rfl, upd_same, ?_⟩
    have e2 : ((srt ns).map fun i => pI i) = ((srt ns).map V.int).map pV := by simp [List.map_map, Function.comp_def]
    rw [e2]
    exact al_pV' _
/-- dict(pairs) -/
theorem al_pairs {F : Hp} : ∀ {l : List (Int × Int)} {vs : List V}, Al F (l.map fun x => pT K [pI x.1, pI x.2]) vs → ∃ ps : List Addr, vs = ps.map V.ref ∧ Paired (fun p kv => SqT K F p [kV kv.1, kv.2]) ps (toK l)
  | [], _, .nil => ⟨[], rfl, .nil⟩
  | x :: l, _, .cons a b => by
    obtain ⟨ps, e, p⟩ := al_pairs b
    obtain ⟨ad, ys, e1, hs, al⟩ := a
    obtain ⟨u, v, e2, h1, h2⟩ := al2' al
    subst e2
    rw [show u = _ from h1, show v = _ from h2] at hs
    exact ⟨ad :: ps, by rw [e1, e]; rfl, .cons hs p⟩
theorem rc_dictP {l : List (Int × Int)} (he : Ent F S (pQ K (l.map fun x => pT K [pI x.1, pI x.2]))) (hk : KeysI l) : RcD (rDictP K) [S] F M (pDk (toK l)) := fun F1 H vs e c hv Q q => by
  cases hv with
  | cons h1 h2 =>
    cases h2
    obtain ⟨a, xs, e1, hs, al⟩ := he F1 _ e h1
    obtain ⟨ps, e2, hp⟩ := al_pairs al
    subst e2
    have hp' : Paired (fun p kv => SqT K H p [kV kv.1, kv.2]) ps (toK l) := by
      clear hs al e1
      generalize toK l = L at hp
      induction hp with
      | nil => exact .nil
      | cons a b ih => exact .cons (c.sqT a) ih
    refine ⟨a, ps, toK l, by rw [e1], c.sqL hs, hp', fun p hn => ?_⟩
    rw [merge_all hk]
    exact q (upd F1 p (.dK (toK l))) _ _ (Gr.new c hn) ⟨p, rfl, upd_same⟩
/-- raise C(e), one field -/
theorem s_raise1 {E : XK} {C : Addr} {f : Str} {t : TA} (c : Bx F0 Me H0 F M H) (h : EvA t σ F M [R]) (hm : Mono R) (q : ∀ F' H' d v, Gr Me F0 H0 F' H' → F' d = some (.xd [(f, v)]) → R F' v → E (.ref C) (some d) H') : tMkO C (spX1 C f) [] t σ H (fun cls d H' => E cls d H') :=
  mkO1 h hm (Ex.refl F) c.cn fun F' H' d v g _ h2 h3 => q F' H' d v (c.go g).gr h2 h3
theorem cr_sortedI' {X : L2.Cx} {K : PySem.W.Frag} (e : X.K = K) : CallR X (.builtin "sorted") (rSortedI K) := e ▸ cr_sortedI
theorem rc_int1 {i : Int} : RcD (fun xs H Q => (∃ i, xs = [.int i] ∧ Q (.int i) H) ∨ ∃ k, xs = [.bl k] ∧ Q (.int (if k then 1 else 0)) H) [pI i] F M (pI i) := fun F1 H vs e c hv Q q => by
  cases hv with
  | cons h1 h2 =>
    cases h2
    exact .inl ⟨i, by rw [show _ = V.int i from h1], q F1 H _ (Gr.refl c) rfl⟩
theorem rc_bool1 {k : Bool} : RcD (fun xs H Q => (∃ i, xs = [.int i] ∧ Q (.int i) H) ∨ ∃ k, xs = [.bl k] ∧ Q (.int (if k then 1 else 0)) H) [pB k] F M (pI (if k then 1 else 0)) := fun F1 H vs e c hv Q q => by
  cases hv with
  | cons h1 h2 =>
    cases h2
    exact .inr ⟨k, by rw [show _ = V.bl k from h1], q F1 H _ (Gr.refl c) rfl⟩
end
section
open PySem.Spec PyProof.Rows
variable {X : L2.Cx} {K : PySem.W.Frag} {x m : Str} {k : Nat} {ps : List Str} {sp : Sp} {e o : Expr} {es : List Expr} {t : TA} {p pos apos : Pos} {dvs : List V} {ta : TE} {C : Addr} {W : WX}
theorem ps_raiseE' (e' : X.K = K) (c : CalE X.prog X.w K X.mg X.base k x ps sp) (hc : X.calm = true) (tk : L2N.Takes X W) (hr : Room (k + 1) X.A) (hg : Gl X x) (ha : PA X (e :: es) t)
    (hdb : (x == ("__debug__" : Str)) = false := by decide) (he : starEach (e :: es) X.env = (false, eval e X.env) :: starEach es X.env := by rfl) (hpl : (backTo p (starEach es X.env)).any (·.1) = false := by rfl) :
    PS X (.Raise (some (.Call (.Name x apos) (e :: es) [] p)) none pos) (fun _ σ H => tMkO (He.ga K x) sp [] t σ H fun cls d H' => W cls d σ H') := by
  subst e'
  exact ps_raiseE c hc tk hr hg ha hdb he hpl
theorem pe_makeXC' (e' : X.K = K) (c : CalKX X.prog X.w K X.mg X.base k x ps dvs sp) (tk : L2N.Takes X W) (hr : Room (k + 1) X.A) (hg : Gl X x) (ha : PA X (e :: es) t)
    (hdb : (x == ("__debug__" : Str)) = false := by decide) (he : starEach (e :: es) X.env = (false, eval e X.env) :: starEach es X.env := by rfl) (hpl : (backTo pos (starEach es X.env)).any (·.1) = false := by rfl) :
    PE X (.Call (.Name x p) (e :: es) [] pos) (tMakeSD (He.ga K x) sp dvs (WE W) t) := by
  subst e'
  exact pe_makeXC c tk hr hg ha hdb he hpl
theorem pe_makeC' (e' : X.K = K) (c : CalK X.prog X.w K X.mg X.base k x ps dvs sp) (hr : Room (k + 1) X.A) (hg : Gl X x) (ha : PA X (e :: es) t)
    (hdb : (x == ("__debug__" : Str)) = false := by decide) (he : starEach (e :: es) X.env = (false, eval e X.env) :: starEach es X.env := by rfl) (hpl : (backTo pos (starEach es X.env)).any (·.1) = false := by rfl) :
    PE X (.Call (.Name x p) (e :: es) [] pos) (tMake (He.ga K x) sp dvs E0 t) := by
  subst e'
  exact pe_makeC c hr hg ha hdb he hpl
end
end Fw
end

section
/-! filters -/
namespace Fw
open PySem L2
def Th.isI : Th → Bool
  | .int _ => true
  | _ => false
theorem kd_isI (t : Th) : (t.kd.isInt && !t.kd.isBl) = t.isI := by
  cases t with
  | seq b xs => cases b <;> rfl
  | _ => rfl
def Th.isSq : Th → Bool
  | .seq _ _ => true
  | _ => false
theorem kd_isSq (t : Th) : t.kd.isSeq = t.isSq := by
  cases t with
  | seq b xs => cases b <;> rfl
  | _ => rfl
theorem sq_isSeq (b : Bool) : (if b then DK.tup else DK.lst).isSeq = true := by cases b <;> rfl
def Th.isPrime : Th → Bool
  | .int i => inV (.int i) [.int 2, .int 3, .int 5, .int 7]
  | _ => false
def Th.pr : Th → Option (Int × Int)
  | .seq _ [.int a, .int b] => some (a, b)
  | _ => none
def Th.isTerm (t : Th) : Bool := t.pr.isSome
theorem isTerm2 (b : Bool) (x y : Th) : Th.isTerm (.seq b [x, y]) = (x.isI && y.isI) := by cases x <;> cases y <;> rfl
theorem isTerm_len {b : Bool} {xs : List Th} (h : xs.length ≠ 2) : Th.isTerm (.seq b xs) = false := by
  match xs, h with
  | [], _ => rfl
  | [x], _ => cases x <;> rfl
  | [x, y], h => exact absurd rfl h
  | x :: y :: z :: r, _ => cases x <;> cases y <;> rfl
theorem len_two {α : Type} {xs : List α} (h : xs.length = 2) : ∃ x y, xs = [x, y] := by
  match xs, h with
  | [x, y], _ => exact ⟨x, y, rfl⟩
/-- the first thing that is no term -/
def firstBad : List Th → Option Nat
  | [] => none
  | t :: ts => if t.isTerm then (firstBad ts).map (· + 1) else some 0
theorem firstBad_at : ∀ {ts : List Th} {i : Nat} {t : Th}, (∀ (j : Nat) u, j < i → ts[j]? = some u → u.isTerm = true) → ts[i]? = some t → t.isTerm = false → firstBad ts = some i
  | [], i, t, _, h, _ => by simp at h
  | u :: ts, 0, t, _, h, hb => by
    have e : u = t := by simpa using h
    subst e
    simp [firstBad, hb]
  | u :: ts, i + 1, t, hg, h, hb => by
    have h0 := hg 0 u (by omega) rfl
    have := firstBad_at (ts := ts) (i := i) (fun j v hj hv => hg (j + 1) v (by omega) (by simpa using hv)) (by simpa using h) hb
    simp [firstBad, h0, this]
theorem firstBad_none : ∀ {ts : List Th}, (∀ (j : Nat) u, ts[j]? = some u → u.isTerm = true) → firstBad ts = none
  | [], _ => rfl
  | u :: ts, hg => by
    have h0 := hg 0 u rfl
    have := firstBad_none (ts := ts) fun j v hv => hg (j + 1) v (by simpa using hv)
    simp [firstBad, h0, this]
theorem isTerm_pr {t : Th} (h : t.isTerm = true) : ∃ b x y, t = .seq b [.int x, .int y] := by
  match t, h with
  | .seq b [.int x, .int y], _ => exact ⟨b, x, y, rfl⟩
/-- the pairs of good terms -/
def prs (ts : List Th) : List (Int × Int) := ts.filterMap Th.pr
def addT (p : Int) (s : List (Int × Int)) (x : Int × Int) : List (Int × Int) := putI s x.1 (((getI s x.1).getD 0 + x.2) % p)
def sumsOf (p : Int) (ts : List (Int × Int)) : List (Int × Int) := ts.foldl (addT p) []
theorem keys_sums (p : Int) (ts : List (Int × Int)) : KeysI (sumsOf p ts) := by
  unfold sumsOf
  have : ∀ (ts s : List (Int × Int)), KeysI s → KeysI (ts.foldl (addT p) s) := by
    intro ts
    induction ts with
    | nil => intro s h; exact h
    | cons x ts ih => intro s h; exact ih _ (h.put _ _)
  exact this ts [] (by simp [KeysI])
theorem len_sums (p : Int) (ts : List (Int × Int)) : (sumsOf p ts).length ≤ ts.length := by
  unfold sumsOf
  have : ∀ (ts s : List (Int × Int)), (ts.foldl (addT p) s).length ≤ s.length + ts.length := by
    intro ts
    induction ts with
    | nil => intro s; simp
    | cons x ts ih =>
      intro s
      have h1 := ih (addT p s x)
      have h2 := len_putI s x.1 (((getI s x.1).getD 0 + x.2) % p)
      unfold addT at h1
      simp only [List.foldl_cons, List.length_cons]
      unfold addT
      omega
  simpa using this ts []
/-- what a filter keeps, by its sums -/
def keptOf (s : List (Int × Int)) : List (Int × Int) := ((srt (s.map (·.1))).filter fun o => decide (0 < (getI s o).getD 0)).map fun o => (o, (getI s o).getD 0)
def heldOf (p : Int) (ts : List (Int × Int)) : List (Int × Int) := keptOf (sumsOf p ts)
theorem nodup_srt {l : List Int} (h : l.Nodup) : (srt l).Nodup := (srt_perm l).nodup_iff.mpr h
theorem keys_kept {s : List (Int × Int)} (h : KeysI s) : KeysI (keptOf s) := by
  unfold KeysI keptOf
  rw [List.map_map]
  have : ((fun x : Int × Int => x.1) ∘ fun o => (o, (getI s o).getD 0)) = id := rfl
  rw [this, List.map_id]
  exact (nodup_srt h).sublist List.filter_sublist
/-- a filter's fields -/
def resF (K : PySem.W.Frag) (p : Int) (l : List (Int × Int)) : Hp → List (Str × V) → Prop := fun F fs =>
  ∃ k h, fs = [(("prime" : Str), V.int p), (("kept" : Str), k), (("held" : Str), h)] ∧ pL (l.map fun x => pT K [pI x.1, pI x.2]) F k ∧ pDk (toK l) F h
def pF (K : PySem.W.Frag) (p : Int) (l : List (Int × Int)) : VP := pIns (He.ga K "Filter") (resF K p l)
theorem resF_up {K : PySem.W.Frag} {p : Int} {l : List (Int × Int)} (F F' : Hp) (fs : List (Str × V)) (e : Ex F F') (h : resF K p l F fs) : resF K p l F' fs := by
  obtain ⟨k, d, e1, h1, h2⟩ := h
  have : ∀ x : Int × Int, Mono (pT K [pI x.1, pI x.2]) := fun x => inferInstance
  exact ⟨k, d, e1, Mono.up F F' k e h1, Mono.up F F' d e h2⟩
instance {K : PySem.W.Frag} {p : Int} {l : List (Int × Int)} : Mono (pF K p l) := ⟨fun F F' v e h => by
  obtain ⟨a, dx, fs, e1, h1, h2⟩ := h
  exact ⟨a, dx, fs, e1, e _ _ h1, resF_up F F' fs e h2⟩⟩
theorem ent_F {K : PySem.W.Frag} {p : Int} {l : List (Int × Int)} {F : Hp} : Ent F (pF K p l) (pIns (He.ga K "Filter") (resF K p l)) := Ent.refl
theorem no_F {K : PySem.W.Frag} {p : Int} {l : List (Int × Int)} {m : Str} (h : m ≠ "prime" ∧ m ≠ "kept" ∧ m ≠ "held") : ∀ (F : Hp) fs, resF K p l F fs → fs.lookup m = none := fun F fs ⟨k, d, e, _, _⟩ => by
  subst e
  obtain ⟨h1, h2, h3⟩ := h
  simp only [List.lookup, beq_false_of_ne h1, beq_false_of_ne h2, beq_false_of_ne h3]
/-- its fields, read -/
theorem ev_prime {K : PySem.W.Frag} {σ : L2.St} {F : Hp} {M M1 : MM} {ta : TE} {S : VP} {p : Int} {l : List (Int × Int)} (ha : EvM ta σ F M M1 S) (he : Ent F S (pF K p l)) (hc : Cls K (He.ga K "Filter")) (hn : NoAttr K (He.ga K "Filter") "prime") : EvM (tFld K ta "prime") σ F M M1 (pI p) :=
  ev_fldT ha he hc hn fun F1 fs e ⟨k, d, e1, _, _⟩ => ⟨_, by subst e1; rfl, rfl⟩
theorem ev_kept {K : PySem.W.Frag} {σ : L2.St} {F : Hp} {M M1 : MM} {ta : TE} {S : VP} {p : Int} {l : List (Int × Int)} (ha : EvM ta σ F M M1 S) (he : Ent F S (pF K p l)) (hc : Cls K (He.ga K "Filter")) (hn : NoAttr K (He.ga K "Filter") "kept") : EvM (tFld K ta "kept") σ F M M1 (pL (l.map fun x => pT K [pI x.1, pI x.2])) :=
  ev_fldT ha he hc hn fun F1 fs e ⟨k, d, e1, h1, _⟩ => ⟨k, by subst e1; rfl, h1⟩
theorem ev_held {K : PySem.W.Frag} {σ : L2.St} {F : Hp} {M M1 : MM} {ta : TE} {S : VP} {p : Int} {l : List (Int × Int)} (ha : EvM ta σ F M M1 S) (he : Ent F S (pF K p l)) (hc : Cls K (He.ga K "Filter")) (hn : NoAttr K (He.ga K "Filter") "held") : EvM (tFld K ta "held") σ F M M1 (pDk (toK l)) :=
  ev_fldT ha he hc hn fun F1 fs e ⟨k, d, e1, _, h2⟩ => ⟨d, by subst e1; rfl, h2⟩
/-- a thing that is known -/
def pTv (K : PySem.W.Frag) (t : Th) (v : V) : VP := fun F w => w = v ∧ pTh K t F v
instance {K : PySem.W.Frag} {t : Th} {v : V} : Mono (pTv K t v) := ⟨fun F F' w e h => ⟨h.1, Mono.up F F' v e h.2⟩⟩
theorem ent_tv {K : PySem.W.Frag} {t : Th} {v : V} {F : Hp} (k : Kn (pTh K t) F v) : Ent F (pV v) (pTv K t v) := fun F1 w e h => ⟨h, Mono.up F F1 v e k.h⟩
theorem tv_th {K : PySem.W.Frag} {t : Th} {v : V} {F : Hp} : Ent F (pTv K t v) (pTh K t) := fun F1 w e h => by rw [h.1]; exact h.2
/-- what making a filter comes to -/
def outF (K : PySem.W.Frag) (tp : Th) (vp : V) (tt : Th) : OutI :=
  match tp.isPrime, tp, tt with
  | true, .int p, .seq _ ts => match firstBad ts with
    | none => .ok (resF K p (heldOf p (prs ts)))
    | some i => .ex (He.ga K "BadTerm") "index" (pI (i : Int))
  | true, _, _ => .ex (He.ga K "BadTerm") "index" (pI 0)
  | false, _, _ => .ex (He.ga K "BadPrime") "prime" (pV vp)
theorem prime_mem {p : Int} (h : Th.isPrime (.int p) = true) : p = 2 ∨ p = 3 ∨ p = 5 ∨ p = 7 := by
  unfold Th.isPrime inV at h
  simp [eqV] at h
  omega
theorem prime_int {t : Th} (h : t.isPrime = true) : ∃ p, t = .int p := by
  cases t with
  | int p => exact ⟨p, rfl⟩
  | _ => cases h
theorem outF_badp {K : PySem.W.Frag} {tp : Th} {vp : V} {tt : Th} (h : tp.isPrime = false) : outF K tp vp tt = .ex (He.ga K "BadPrime") "prime" (pV vp) := by
  unfold outF
  rw [h]
theorem outF_nosq {K : PySem.W.Frag} {p : Int} {vp : V} {tt : Th} (h : Th.isPrime (.int p) = true) (h2 : tt.isSq = false) : outF K (.int p) vp tt = .ex (He.ga K "BadTerm") "index" (pI 0) := by
  unfold outF
  rw [h]
  cases tt with
  | seq b ts => cases h2
  | _ => rfl
theorem outF_bad {K : PySem.W.Frag} {p : Int} {vp : V} {b : Bool} {ts : List Th} {i : Nat} (h : Th.isPrime (.int p) = true) (h2 : firstBad ts = some i) : outF K (.int p) vp (.seq b ts) = .ex (He.ga K "BadTerm") "index" (pI (i : Int)) := by
  unfold outF
  rw [h]
  show (match firstBad ts with | none => _ | some i => _) = _
  rw [h2]
theorem outF_ok {K : PySem.W.Frag} {p : Int} {vp : V} {b : Bool} {ts : List Th} (h : Th.isPrime (.int p) = true) (h2 : firstBad ts = none) : outF K (.int p) vp (.seq b ts) = .ok (resF K p (heldOf p (prs ts))) := by
  unfold outF
  rw [h]
  show (match firstBad ts with | none => _ | some i => _) = _
  rw [h2]
section
variable {K : PySem.W.Frag} {σ : L2.St} {F : Hp} {M M1 : MM} {ta te td ty tx : TE} {R S T : VP} {Rs Ss : List VP}
theorem ent_pL (h : Ents F Rs Ss) : Ent F (pL Rs) (pL Ss) := fun F1 v e ⟨a, xs, e1, h1, h2⟩ => ⟨a, xs, e1, h1, h.al e h2⟩
theorem ent_pQ (h : Ents F Rs Ss) : Ent F (pQ K Rs) (pQ K Ss) := fun F1 v e ⟨a, xs, e1, h1, h2⟩ => ⟨a, xs, e1, h1, h.al e h2⟩
theorem ents_map {α : Type} {f g : α → VP} : ∀ {l : List α}, (∀ a ∈ l, Ent F (f a) (g a)) → Ents F (l.map f) (l.map g)
  | [], _ => trivial
  | a :: l, h => ⟨h a List.mem_cons_self, ents_map fun b hb => h b (List.mem_cons_of_mem _ hb)⟩
theorem ev_dget2I {d : Addr} {l : List (Int × Int)} {k z : Int} (hd : EvD td σ F M (pV (.ref d))) (hk : EvD ty σ F M (pI k)) (hz : EvD tx σ F M (pI z)) (hv : DAt F M d (toK l)) : EvD (tDGet2 td ty tx) σ F M (pI ((getI l k).getD z)) :=
  EvM.ent (ev_dget2 (k := .inl k) hd hk hz hv) (Ent.eq (by rw [valV_toK]; cases getI l k <;> rfl))
theorem ev_dgetI {d : Addr} {l : List (Int × Int)} {k v : Int} (hd : EvD td σ F M (pV (.ref d))) (hk : EvD ty σ F M (pI k)) (hv : DAt F M d (toK l)) (hg : getI l k = some v) : EvD (tDGet td ty) σ F M (pI v) :=
  ev_dget (k := .inl k) hd hk hv (by rw [valV_toK, hg]; rfl)
/-- the keys of a dict of ints, by a comprehension -/
theorem wk_keysI {d : Addr} {l : List (Int × Int)} {ob : Obj} (h : EvD td σ F M (pV (.ref d))) (hd : F d = some (.dK (toK l))) (hl : M.l d = some ob) : WkD (iKeys td) σ F M ((l.map (·.1)).map fun i => pI i) := by
  have := wk_keys h hd hl
  rw [toK_keys] at this
  exact this
end
theorem getI_key {l : List (Int × Int)} {k : Int} (h : k ∈ l.map (·.1)) : ∃ v, getI l k = some v := by
  cases e : getI l k with
  | some v => exact ⟨v, rfl⟩
  | none => exact absurd h (getI_none.mp e)
theorem mem_srt {l : List Int} {k : Int} : k ∈ srt l ↔ k ∈ l := (srt_perm l).mem_iff
theorem prs_take {ts : List Th} {i : Nat} {b : Bool} {x y : Int} (h : ts[i]? = some (.seq b [.int x, .int y])) : prs (ts.take (i + 1)) = prs (ts.take i) ++ [(x, y)] := by
  unfold prs
  rw [List.take_add_one, h]
  simp [List.filterMap_append, Th.pr]
theorem sumsOf_snoc (p : Int) (ts : List (Int × Int)) (x : Int × Int) : sumsOf p (ts ++ [x]) = addT p (sumsOf p ts) x := by
  unfold sumsOf
  rw [List.foldl_append]
  rfl
end Fw
end

section
/-! things, told by a law; a law's box of numbers -/
namespace Fw
open PySem L2
mutual
def Th.dep : Th → Nat
  | .seq _ xs => Th.deps xs + 1
  | _ => 0
def Th.deps : List Th → Nat
  | [] => 0
  | x :: xs => max (Th.dep x) (Th.deps xs)
end
mutual
def Th.frozen : Th → Th
  | .seq _ xs => .seq true (Th.frozens xs)
  | t => t
def Th.frozens : List Th → List Th
  | [] => []
  | x :: xs => Th.frozen x :: Th.frozens xs
end
mutual
/-- short lists, no dicts but empty ones -/
def Th.okS : Th → Bool
  | .seq _ xs => decide (xs.length ≤ 50000) && Th.okSs xs
  | .dic kvs => kvs.isEmpty
  | .own _ => false
  | _ => true
def Th.okSs : List Th → Bool
  | [] => true
  | x :: xs => Th.okS x && Th.okSs xs
end
theorem frozens_map : ∀ xs : List Th, Th.frozens xs = xs.map Th.frozen
  | [] => by simp [Th.frozens]
  | x :: xs => by simp [Th.frozens, frozens_map xs]
theorem frozen_seq {b : Bool} {xs : List Th} : Th.frozen (.seq b xs) = .seq true (xs.map Th.frozen) := by
  conv => lhs; unfold Th.frozen
  rw [frozens_map]
theorem deps_mem : ∀ {xs : List Th} {x : Th}, x ∈ xs → x.dep ≤ Th.deps xs
  | y :: ys, x, h => by
    unfold Th.deps
    rcases List.mem_cons.mp h with e | h
    · rw [e]; exact Nat.le_max_left _ _
    · exact Nat.le_trans (deps_mem h) (Nat.le_max_right _ _)
theorem dep_mem {b : Bool} {xs : List Th} {x : Th} {n : Nat} (h : Th.dep (.seq b xs) < n + 1) (m : x ∈ xs) : x.dep < n := by
  have := deps_mem m
  unfold Th.dep at h
  omega
theorem okSs_mem : ∀ {xs : List Th} {x : Th}, Th.okSs xs = true → x ∈ xs → x.okS = true
  | y :: ys, x, h, m => by
    unfold Th.okSs at h
    rw [Bool.and_eq_true] at h
    rcases List.mem_cons.mp m with e | m
    · rw [e]; exact h.1
    · exact okSs_mem h.2 m
theorem okS_mem {b : Bool} {xs : List Th} {x : Th} (h : Th.okS (.seq b xs) = true) (m : x ∈ xs) : x.okS = true := by
  unfold Th.okS at h
  rw [Bool.and_eq_true] at h
  exact okSs_mem h.2 m
theorem okS_len {b : Bool} {xs : List Th} (h : Th.okS (.seq b xs) = true) : xs.length ≤ 50000 := by
  unfold Th.okS at h
  rw [Bool.and_eq_true] at h
  exact of_decide_eq_true h.1
theorem hu64_of {k : Nat} {A : Around} (r : Room k A) : A.units + 64 < cLine := by
  have := r.un
  omega
section
variable {K : PySem.W.Frag} {σ : St} {F F' F0 H H0 : Hp} {M M1 Me : MM} {ta tb te ti to : TE} {tas : TA} {R S T : VP} {Rs Ss : List VP} {D : Ends} {tz : TS} {k : DK}
theorem sqP {b : Bool} (h : Kn (pTh K (.seq b xs)) F v) : Kn (pSq K b (xs.map (pTh K))) F v := ⟨by
  have h := h.h
  rw [pTh_seq] at h
  exact h⟩
/-! isinstance of three -/
theorem kit_isl {k : DK} (h : k.Ok K) : PySem.W.kitAny K k.t [.type "int", .type "list", .type "tuple"] = some (k.isInt || k.isSeq) := by
  unfold PySem.W.kitAny
  rw [kit_int h, kit_seq h]
  cases k <;> rfl
theorem rc_isIsl (h : Ent F S (pKd K k)) : RcD (rIsiT K) [S, pTt [pV (.ty "int"), pV (.ty "list"), pV (.ty "tuple")]] F M (pB (k.isInt || k.isSeq)) := fun F1 H vs a cn hv Q q => by
  cases hv with
  | cons h1 h2 =>
    cases h2 with
    | cons h3 h4 =>
      cases h4
      obtain ⟨p, xs, e1, e2, e3⟩ := h3
      cases e3 with
      | cons a1 e3 =>
        cases e3 with
        | cons a2 e3 =>
          cases e3 with
          | cons a3 e3 =>
            cases e3
            rw [e1]
            rw [show _ = V.ty "int" from a1, show _ = V.ty "list" from a2, show _ = V.ty "tuple" from a3] at e2
            obtain ⟨t1, t2⟩ := h F1 _ a h1
            exact ⟨_, p, _, k.t, [.type "int", .type "list", .type "tuple"], _, rfl, cn.tup e2, .cons (.ty _) (.cons (.ty _) (.cons (.ty _) .nil)), tyX_cn cn t1, kit_isl t2, q F1 H _ (Gr.refl cn) rfl⟩
/-! x is False -/
def rIsBl : R2 := fun x y H Q => ∃ a b, x = .bl a ∧ y = .bl b ∧ Q (.bl (decide (a = b))) H
theorem op_isBl' {X : L2.Cx} : OpR X (compareOp .Is) rIsBl := op_is_bl
theorem rv_isBl {a b : Bool} : RvD rIsBl (pB a) (pB b) F M (pB (decide (a = b))) := fun F1 H x y _ c hx hy Q q => ⟨a, b, hx, hy, q F1 H _ (Gr.refl c) rfl⟩
/-! all -/
theorem al_bools {F : Hp} {bs : List Bool} {vs : List V} (h : Al F (bs.map fun b => pB b) vs) : vs = bs.map V.bl := by
  have e : (bs.map fun b => pB b) = (bs.map V.bl).map pV := by simp [List.map_map, Function.comp_def]
  rw [e] at h
  exact al_pV h
theorem rc_all {bs : List Bool} (he : Ent F S (pQ K (bs.map fun b => pB b))) : RcD (rAll K) [S] F M (pB (bs.all id)) := fun F1 H vs e c hv Q q => by
  cases hv with
  | cons h1 h2 =>
    cases h2
    obtain ⟨a, xs, e1, hs, al⟩ := he F1 _ e h1
    rw [al_bools al] at hs
    exact ⟨a, bs, by rw [e1], c.sqL hs, q F1 H _ (Gr.refl c) rfl⟩
theorem rc_any {bs : List Bool} (he : Ent F S (pQ K (bs.map fun b => pB b))) : RcD (rAny K) [S] F M (pB (bs.any id)) := fun F1 H vs e c hv Q q => by
  cases hv with
  | cons h1 h2 =>
    cases h2
    obtain ⟨a, xs, e1, hs, al⟩ := he F1 _ e h1
    rw [al_bools al] at hs
    exact ⟨a, bs, by rw [e1], c.sqL hs, q F1 H _ (Gr.refl c) rfl⟩
/-! == of flat things or of dicts -/
def rEqB (K : PySem.W.Frag) : R2 := fun x y H Q => rEq x y H Q ∨ rEqV K x y H Q
theorem op_eqB {X : L2.Cx} (hu : X.A.units + 64 < cLine) : OpR X (compareOp .Eq) (rEqB X.K) := by
  intro pins s σ H x y v u Q I rx ry h
  rcases h with h | h
  · exact op_eq pins s σ H x y v u Q I rx ry h
  · exact op_eqV hu pins s σ H x y v u Q I rx ry h
theorem op_eqB' {X : L2.Cx} {K : PySem.W.Frag} (e : X.K = K) (hu : X.A.units + 64 < cLine) : OpR X (compareOp .Eq) (rEqB K) := e ▸ op_eqB hu
theorem rv_eqB {x y : V} (h : scal x y = true) : RvD (rEqB K) (pV x) (pV y) F M (pB (decide (x = y))) := fun F1 H x' y' _ c hx hy Q q => by
  rw [show x' = x from hx, show y' = y from hy]
  exact .inl ⟨h, q F1 H _ (Gr.refl c) rfl⟩
theorem rv_eqD0 (hl : ∀ a, M.l a = none) : RvD (rEqB K) (pDk []) (pDk []) F M (pB true) := fun F1 H x y e c hx hy Q q => by
  obtain ⟨a, e1, h1⟩ := hx
  obtain ⟨b, e2, h2⟩ := hy
  exact .inr ⟨0, by decide, .inr ⟨a, b, [], [], e1, e2, c.dkU h1 (hl a), c.dkU h2 (hl b), rfl, fun p hp => by cases hp⟩, q F1 H _ (Gr.refl c) rfl⟩
/-! l[i] = e -/
theorem q_setL {p : Addr} {xs : List V} {i : Int} {j : Nat} (c : Bx F0 Me H0 F M H) (hm : M.f p = some (eqo (.lst xs))) (h0 : H0 p = none) (h : EvD te σ F M R) (ho : EvD to σ F M (pV (.ref p))) (hi : EvD ti σ F M (pI i)) (hj : ixN xs.length i = some j) (hR : Mono R)
    (q : ∀ F' H' M' v, Bx F0 Me H0 F' M' H' → Ex F F' → Mp M M' p (.lst (xs.set j v)) → Kn R F' v → tz D σ H') : tSeq (tAsg te (gSub to ti rSetL)) tz D σ H :=
  h F H (Ex.refl F) c.cn _ fun F1 H1 v g hv => ho F1 H1 g.f g.c _ fun F2 H2 x g2 hx => hi F2 H2 (g.f.trans g2.f) g2.c _ fun F3 H3 y g3 hy =>
    have b3 := ((c.go g).go g2).go g3
    ⟨p, xs, i, j, hx, hy, b3.at_ hm, hj, q F3 _ _ v (b3.put h0 hm fun _ _ z => by cases z) ((g.f.trans g2.f).trans g3.f) Mp.put ⟨Mono.up F1 F3 v (g2.f.trans g3.f) hv⟩⟩
theorem s_setL {p : Addr} {xs : List V} {i : Int} {j : Nat} (c : Bx F0 Me H0 F M H) (hm : M.f p = some (eqo (.lst xs))) (h0 : H0 p = none) (h : EvD te σ F M R) (ho : EvD to σ F M (pV (.ref p))) (hi : EvD ti σ F M (pI i)) (hj : ixN xs.length i = some j) (hR : Mono R)
    (q : ∀ F' H' M' v, Bx F0 Me H0 F' M' H' → Ex F F' → Mp M M' p (.lst (xs.set j v)) → Kn R F' v → D.nx σ H') : tAsg te (gSub to ti rSetL) D σ H :=
  q_setL (tz := fun D => D.nx) (D := D) c hm h0 h ho hi hj hR q
/-! name = l.pop(0) -/
theorem q_pop0 {p : Addr} {x : V} {xs : List V} {i : Nat} (c : Bx F0 Me H0 F M H) (hm : M.f p = some (eqo (.lst (x :: xs)))) (h0 : H0 p = none) (hl : (x :: xs).length < 2 ^ 63) (ho : EvD to σ F M (pV (.ref p))) (hi : EvD ti σ F M (pI 0))
    (q : ∀ F' H' M', Bx F0 Me H0 F' M' H' → Ex F F' → Mp M M' p (.lst xs) → tz D (σ.set i (some x)) H') : tSeq (tAsg (tBM K "list" rPopAt to (tCons ti tNil)) (gName i)) tz D σ H :=
  ho F H (Ex.refl F) c.cn _ fun F1 H1 w g hw => by
    rw [show w = V.ref p from hw]
    have b1 := c.go g
    refine ⟨.inl ⟨rfl, _, SqL.of (b1.at_ hm)⟩, hi F1 H1 g.f g.c _ fun F2 H2 v g2 hv => ?_⟩
    have b2 := b1.go g2
    refine ⟨p, x :: xs, 0, 0, x, rfl, by rw [show v = V.int 0 from hv], b2.at_ hm, by decide, by decide, ?_, rfl, q F2 _ _ (b2.put h0 hm fun _ _ z => by cases z) (g.f.trans g2.f) Mp.put⟩
    simp [seqIndex?]
end
section
open PySem.Spec PyProof.Rows
variable {X : L2.Cx} {K : PySem.W.Frag} {o e : Expr} {es : List Expr} {to : TE} {t : TA} {name : Str} {apos cpos : Pos} {T id : String} {r : V → List V → Hp → VK → Prop}
theorem pe_bm' (e' : X.K = K) (pa : PlainAttrs T) (slot : Slot T name id) (hty : typeOf (.builtin id) = pure (.type "method_descriptor")) (hm : MtR X id r) (ho : PE X o to) (ha : PA X (e :: es) t)
    (hbase : attributeBase o name X.env (eval o X.env) = eval o X.env := by rfl)
    (hfew : ((backTo cpos (starEach (e :: es) X.env)).all (fun x => !x.1) && (backToKw cpos (keywordEach [] X.env)).all (fun x => x.1.isSome)
      && decide ((e :: es).length + ([] : List Keyword).length + (if ([] : List Keyword).isEmpty then 0 else 1) < 30)) = true := by rfl)
    (hline : (apos.endLine == cpos.line) = true := by rfl) (hs : starEach (e :: es) X.env = (false, eval e X.env) :: starEach es X.env := by rfl) (hplain : (backTo cpos (starEach es X.env)).any (·.1) = false := by rfl) :
    PE X (.Call (.Attribute o name apos) (e :: es) [] cpos) (tBM K T r to t) := e' ▸ pe_bm pa slot hty hm ho ha hbase hfew hline hs hplain
end
/-! ### a box of two objects that a def may change -/
section
variable {F H : Hp} {M : MM} {b l : Addr} {φ ψ : Nat → HO → Prop}
theorem Cn.open2 (c : Cn F M H) (hb : M.f b = some φ) (hl : M.f l = some ψ) (ne : b ≠ l) (hφ : ∀ n o, φ n o → ∃ xs, o = .lst xs) (hψ : ∀ n o, ψ n o → ∃ xs, o = .lst xs) :
    ∃ ob ol H0 Me Mx, φ M.n ob ∧ ψ M.n ol ∧ H0 b = none ∧ H0 l = none ∧ Mx.f b = some (eqo ob) ∧ Mx.f l = some (eqo ol) ∧ Mx.l = M.l ∧ Mx.n = M.n ∧ Bx F Me H0 F Mx H ∧
      (∀ F' M' H' ob' ol', Bx F Me H0 F' M' H' → M'.f b = some (eqo ob') → M'.f l = some (eqo ol') → φ (M.n + 1) ob' → ψ (M.n + 1) ol' → GrM M (M.add 1) F H F' H') := by
  obtain ⟨ob, eb, wb⟩ := c.sat b φ hb
  obtain ⟨ol, el, wl⟩ := c.sat l ψ hl
  have Fb : F b = none := c.dis b (by rw [hb]; intro z; cases z)
  have Fl : F l = none := c.dis l (by rw [hl]; intro z; cases z)
  let H0 : Hp := fun a => if a = b then none else if a = l then none else H a
  let Me : MM := mdel (mdel M b) l
  have H0ne : ∀ a, a ≠ b → a ≠ l → H0 a = H a := fun a h1 h2 => by show (if a = b then none else if a = l then none else H a) = _; rw [if_neg h1, if_neg h2]
  have H0b : H0 b = none := by show (if b = b then none else _) = _; rw [if_pos rfl]
  have H0l : H0 l = none := by show (if l = b then none else if l = l then none else H l) = _; rw [if_neg (Ne.symm ne), if_pos rfl]
  have Meb : Me.f b = none := by show (mdel (mdel M b) l).f b = none; rw [mdel_ne ne]; exact mdel_same
  have Mel : Me.f l = none := mdel_same
  have Mene : ∀ a, a ≠ b → a ≠ l → Me.f a = M.f a := fun a h1 h2 => by show (mdel (mdel M b) l).f a = _; rw [mdel_ne h2, mdel_ne h1]
  have cx : Cn F (mput (mput M b (eqo ob)) l (eqo ol)) H := (c.put eb Fb rfl fun _ _ h => h).put el Fl rfl fun _ _ h => h
  have lkne : ∀ a ob', M.l a = some ob' → a ≠ b ∧ a ≠ l := fun a ob' q => by
    obtain ⟨kvs, e⟩ := c.lk a ob' q
    obtain ⟨xs, e1⟩ := hφ _ _ wb
    obtain ⟨ys, e2⟩ := hψ _ _ wl
    subst e1
    subst e2
    exact ⟨fun z => (by rw [z, eb] at e; cases e), fun z => (by rw [z, el] at e; cases e)⟩
  have cb : Cn F Me H0 := by
    refine ⟨fun a o q => ?_, fun a χ q => ?_, fun a q => ?_, fun a ob' q => ?_, fun a χ q => ?_⟩
    · have h1 : a ≠ b := fun z => by rw [z, Fb] at q; cases q
      have h2 : a ≠ l := fun z => by rw [z, Fl] at q; cases q
      rw [H0ne a h1 h2]
      exact c.ex a o q
    · have h1 : a ≠ b := fun z => by rw [z, Meb] at q; cases q
      have h2 : a ≠ l := fun z => by rw [z, Mel] at q; cases q
      rw [H0ne a h1 h2]
      exact c.sat a χ (by rw [← Mene a h1 h2]; exact q)
    · have h1 : a ≠ b := fun z => q (by rw [z, Meb])
      have h2 : a ≠ l := fun z => q (by rw [z, Mel])
      exact c.dis a (by rw [← Mene a h1 h2]; exact q)
    · obtain ⟨h1, h2⟩ := lkne a ob' q
      rw [H0ne a h1 h2]
      exact c.lk a ob' q
    · have h1 : a ≠ b := fun z => by rw [z, Meb] at q; cases q
      have h2 : a ≠ l := fun z => by rw [z, Mel] at q; cases q
      exact c.up a χ (by rw [← Mene a h1 h2]; exact q)
  refine ⟨ob, ol, H0, Me, mput (mput M b (eqo ob)) l (eqo ol), wb, wl, H0b, H0l, by rw [mput_ne ne]; exact mput_same, mput_same, rfl, rfl, ⟨cb, cx, Ex.refl F, fun a o _ q => ?_, fun a χ q => ?_, fun a q => ?_, rfl, fun a h _ => h, Nat.le_refl _⟩, ?_⟩
  · by_cases h1 : a = b
    · rw [h1, H0b] at q; cases q
    · by_cases h2 : a = l
      · rw [h2, H0l] at q; cases q
      · rw [← H0ne a h1 h2]; exact q
  · have h1 : a ≠ b := fun z => by rw [z, Meb] at q; cases q
    have h2 : a ≠ l := fun z => by rw [z, Mel] at q; cases q
    rw [mput_ne h2, mput_ne h1, ← Mene a h1 h2]
    exact q
  · by_cases h1 : a = b
    · exact .inr (by rw [h1]; exact H0b)
    · by_cases h2 : a = l
      · exact .inr (by rw [h2]; exact H0l)
      · rw [mput_ne h2, mput_ne h1] at q
        exact .inl (by rw [Mene a h1 h2]; exact q)
  · intro F' M' H' ob' ol' c' hb' hl' wb' wl'
    have fnb := c'.fn hb'
    have fnl := c'.fn hl'
    refine ⟨c'.f, ⟨fun a o q => ?_, fun a χ q => ?_, fun a q => ?_, fun a ob2 q => c'.cn.lk a ob2 (by rw [c'.l]; exact q), fun a χ q => c.up a χ q⟩, fun a o h1 q => ?_, fun a h1 h2 => ?_, rfl, rfl⟩
    · rcases c'.cn.ex a o q with z | ⟨ob2, kvs, y, z⟩
      · exact .inl z
      · exact .inr ⟨ob2, kvs, by rw [c'.l] at y; exact y, z⟩
    · have q : M.f a = some χ := q
      by_cases h1 : a = b
      · subst h1
        rw [hb] at q
        cases q
        exact ⟨_, c'.at_ hb', wb'⟩
      · by_cases h2 : a = l
        · subst h2
          rw [hl] at q
          cases q
          exact ⟨_, c'.at_ hl', wl'⟩
        · obtain ⟨o, e, w⟩ := c'.cn0.sat a χ (by rw [Mene a h1 h2]; exact q)
          exact ⟨o, e, c.up a χ q _ _ w⟩
    · have q : M.f a ≠ none := q
      by_cases h1 : a = b
      · rw [h1]; exact fnb
      · by_cases h2 : a = l
        · rw [h2]; exact fnl
        · cases z : M.f a with
          | none => exact absurd z q
          | some χ => exact c'.cn.dis a (by rw [c'.m a χ (by rw [Mene a h1 h2]; exact z)]; intro y; cases y)
    · have n1 : a ≠ b := fun z => by rw [z, hb] at h1; cases h1
      have n2 : a ≠ l := fun z => by rw [z, hl] at h1; cases h1
      exact c'.k a o (by rw [Mene a n1 n2]; exact h1) (by rw [H0ne a n1 n2]; exact q)
    · by_cases n1 : a = b
      · rw [n1]; exact fnb
      · by_cases n2 : a = l
        · rw [n2]; exact fnl
        · exact c'.n a h1 (by rw [H0ne a n1 n2]; exact h2)
end
section
open PySem.Spec PyProof.Rows
variable {P : Program} {w : World} {K : PySem.W.Frag} {mg : Str → Option Value} {base : Heap} {CX : CXT} {k : Nat} {f : Addr} {fd : FuncData} {ps N : List Str} {sp : Sp} {x qual : Str} {params : Arguments} {body : List Stmt} {scope : Scope} {dvs : List V} {kws : List (Str × V)}
theorem fn_none (h : ∀ vs H Q E, ¬ sp vs H Q E) : FnOk P w K mg base CX k f fd ps sp := by
  constructor
  · intro vs H Q E q
    exact absurd q (h _ _ _ _)
  · intros
    exact absurd ‹sp _ _ _ _› (h _ _ _ _)
theorem fnH_none (h : ∀ vs H Q E, ¬ sp vs H Q E) : L2H.FnH P w K mg base CX k f fd ps sp := by
  constructor
  · intro vs H Q E q
    exact absurd q (h _ _ _ _)
  · intros
    exact absurd ‹sp _ _ _ _› (h _ _ _ _)
theorem con_none (c : Con) (h : ∀ a M, ¬ c.side a M) : ∀ vs H Q E, ¬ c.sp vs H Q E := fun vs H Q E ⟨F, M, a, _, _, hs, _⟩ => h a M hs
theorem Con.okHD (c : Con) (D : FunD K x qual params body scope dvs kws f fd) (S : FnScope N ps scope) (len : ∀ a, (c.pre a).length = ps.length)
    (hb : ∀ (cdv : Value) (A : Around) (outer : List Env) (s : Shared) (H : Hp) (E : XK) (p : Addr × Obj), L2H.Hot1 A p → L2H.RoomH k (A.deeper (PyProof.Rows.envOfC qual scope s.heap.objs.size f cdv)) →
      ∃ t, PSs (L2H.cxH CX0 P w K mg base N qual scope f cdv A outer s H E p) body t ∧ ∀ (F : Hp) (M : MM) (a : c.α) (vs : List V) (Q : VK), Bx F (M.add (c.cost a)) H F M H → Al F (c.pre a) vs → c.side a M →
        (∀ F' H' v, Gr (M.add (c.cost a)) F H F' H' → c.res a F' v → Q v H') → t { nx := fun _ H' => Q .non H', rt := Q } (L2.start N vs) H) : L2H.FnH P w K mg base CX0 (k + 1) f fd ps c.sp := by
  obtain ⟨oc, od, dV, kV, doc, pm, an, cdv, ct, osl, rfl, lk, hcd, _, _⟩ := D.ex
  exact Con.okH c lk hcd S len fun A outer s H E p hot hr => hb cdv A outer s H E p hot hr
theorem hot_deep {A : Around} {p : Addr × Obj} {env : Env} (h : L2H.Hot1 A p) : L2H.Hot1 (A.deeper env) p := h
theorem hot_cx {A : Around} {p : Addr × Obj} {cdv : Value} {outer : List Env} {s : Shared} {H : Hp} {E : XK} (h : L2H.Hot1 A p) : L2H.HotC (L2H.cxH CX P w K mg base N qual scope f cdv A outer s H E p) := ⟨p, h, List.mem_singleton.mpr rfl⟩
theorem pn_cx {A : Around} {p : Addr × Obj} {cdv : Value} {outer : List Env} {s : Shared} {H : Hp} {E : XK} : p ∈ (L2H.cxH CX P w K mg base N qual scope f cdv A outer s H E p).pn := List.mem_singleton.mpr rfl
theorem hot_blk {X : L2.Cx} {p : Addr × Obj} {s : Shared} {H : Hp} {sc : Scope} {ce : Env} {fp : List Addr} (h : L2H.Hot1 X.A p) : L2H.HotC (blkH X p s H sc ce fp) := ⟨p, h, List.mem_singleton.mpr rfl⟩
theorem hot_suite {X : L2.Cx} {a : Addr} {oe : Obj} {cls : Value} {d : Option Addr} {pn : List (Addr × Obj)} (hz : L2N.Zn cls d oe) (hd : ∃ vs, oe.data = .fields vs) : L2H.HotC (X.suite a ((a, oe) :: pn)) := by
  obtain ⟨vs, hd⟩ := hd
  exact ⟨(a, oe), ⟨rfl, vs, hd, hz.2.2 vs hd⟩, List.mem_cons_self ..⟩
theorem roomH_suite {X : L2.Cx} {a : Addr} {pn : List (Addr × Obj)} {k j : Nat} (r : Room k X.A) (h : j ≤ k) : L2H.RoomH j (X.suite a pn).A := (L2H.roomH_mark r _).mono h
end
section
open PySem.Spec PyProof.Rows
variable {X : L2.Cx} {K : PySem.W.Frag}
theorem pi_seqH' {tg l : Expr} {tl : TE} (e' : X.K = K) (hl : PE X l tl) : L2H.PIH X tg l (iSeqB K tl) := e' ▸ pi_seqH hl
theorem pe_xf' {a C : Addr} {oe : Obj} {cls : Value} {d : Option Addr} {pn : List (Addr × Obj)} {e : Expr} {te : TE} {pos : Pos} {n : Str} (e' : X.K = K) (T : XfC K C) (hno : PySem.W.findIn K (.ref C) n = some none)
    (hz : Zc cls d oe) (hf : ∃ vs, oe.data = .fields vs) (he : PE (X.suite a ((a, oe) :: pn)) e te) (hb : attributeBase e n X.env (eval e X.env) = eval e X.env := by rfl) :
    PE (X.suite a ((a, oe) :: pn)) (.Attribute e n pos) (tXf a cls d C n te) := by
  subst e'
  exact pe_xf T hno hz hf he hb
end
theorem zip_self {α : Type} (f g : α → VP) : ∀ xs : List α, List.zipWith (fun R S => pTt [R, S]) (xs.map f) (xs.map g) = xs.map fun a => pTt [f a, g a]
  | [] => rfl
  | x :: xs => by simp [zip_self f g xs]
/-! lists of ints, compared -/
theorem dpAll_ints {K : PySem.W.Frag} {H : Hp} : ∀ ns : List Int, DpAll K H (ns.map V.int) (ns.map PyData.int)
  | [] => .nil
  | n :: ns => .cons (.int n) (dpAll_ints ns)
theorem lay_ints : ∀ ns : List Int, PyData.canLayAll0 (ns.map PyData.int) = true
  | [] => by simp [PyData.canLayAll0]
  | n :: ns => by simp [PyData.canLayAll0, PyData.canLay0, lay_ints ns]
theorem depth_ints : ∀ ns : List Int, PyData.depthAll (ns.map PyData.int) = 0
  | [] => by simp [PyData.depthAll]
  | n :: ns => by simp [PyData.depthAll, PyData.depth, depth_ints ns]
theorem shaped_ints (ns : List Int) : SeqAt.shaped (.list (ns.map PyData.int)) = true := by
  unfold SeqAt.shaped
  simp [PyData.canLay0, PyData.depth, lay_ints, depth_ints]
theorem op_neD' {X : L2.Cx} {K : PySem.W.Frag} (e : X.K = K) (hu : X.A.units + 64 < cLine) : OpR X (compareOp .NotEq) (rNeD K) := e ▸ op_neD hu
theorem op_eqD' {X : L2.Cx} {K : PySem.W.Frag} (e : X.K = K) (hu : X.A.units + 64 < cLine) : OpR X (compareOp .Eq) (rEqD K) := e ▸ op_eqD hu
theorem rv_neNil {K : PySem.W.Frag} {F : Hp} {M : MM} {l : Addr} {ns : List Int} (hm : M.f l = some (eqo (.lst (ns.map V.int)))) : RvD (rNeD K) (pV (.ref l)) (pL []) F M (pB (!ns.isEmpty)) := fun F1 H x y e c hx hy Q q => by
  obtain ⟨a, ys, e1, h1, al⟩ := hy
  cases al
  refine ⟨.list (ns.map PyData.int), .list [], by rw [show x = V.ref l from hx]; exact .lst (SqL.of (c.at2 hm)) (dpAll_ints ns), by rw [e1]; exact .lst (SqL.of (c.lst h1)) .nil, shaped_ints ns, shaped_ints [], ?_⟩
  have : PyData.eqv (.list (ns.map PyData.int)) (.list []) = ns.isEmpty := by
    cases ns <;> simp [PyData.eqv, PyData.eqvAll]
  rw [this]
  exact q F1 H _ (Gr.refl c) rfl
theorem rv_eqNil {K : PySem.W.Frag} {F : Hp} {M : MM} {l : Addr} {ns : List Int} (hm : M.f l = some (eqo (.lst (ns.map V.int)))) : RvD (rEqD K) (pV (.ref l)) (pL []) F M (pB ns.isEmpty) := fun F1 H x y e c hx hy Q q => by
  obtain ⟨a, ys, e1, h1, al⟩ := hy
  cases al
  refine ⟨.list (ns.map PyData.int), .list [], by rw [show x = V.ref l from hx]; exact .lst (SqL.of (c.at2 hm)) (dpAll_ints ns), by rw [e1]; exact .lst (SqL.of (c.lst h1)) .nil, shaped_ints ns, shaped_ints [], ?_⟩
  have : PyData.eqv (.list (ns.map PyData.int)) (.list []) = ns.isEmpty := by
    cases ns <;> simp [PyData.eqv, PyData.eqvAll]
  rw [this]
  exact q F1 H _ (Gr.refl c) rfl
/-! the spring of a law -/
def phiS (l : Addr) : Nat → HO → Prop := fun n o => ∃ (cur t st : Int), o = .lst [.ref l, .int cur, .int t, .int st] ∧ 0 ≤ cur ∧ 0 ≤ t ∧ t ≤ (n : Int) ∧ 0 ≤ st ∧ st < 2147483647
def phiL : Nat → HO → Prop := fun _ o => ∃ ns : List Int, o = .lst (ns.map V.int) ∧ ns.length ≤ 100
theorem phiS_up {l : Addr} : ∀ n o, phiS l n o → phiS l (n + 1) o := fun n o ⟨cur, t, st, h1, h2, h3, h4, h5⟩ => ⟨cur, t, st, h1, h2, h3, by omega, h5⟩
theorem phiL_up : ∀ n o, phiL n o → phiL (n + 1) o := fun _ _ h => h
structure Spring (f : Addr → Option (Nat → HO → Prop)) (b l : Addr) : Prop where
  hb : f b = some (phiS l)
  hl : f l = some phiL
  ne : b ≠ l
/-- a drawn number -/
abbrev pDr (many : Int) : VP := pEx fun d : {d : Int // 0 ≤ d ∧ d < many} => pI d.1
theorem pDr_mk {F : Hp} {many d : Int} (h0 : 0 ≤ d) (h1 : d < many) : Ent F (pI d) (pDr many) := fun F1 v e h => ⟨⟨d, h0, h1⟩, h⟩
section
variable {σ : St} {F0 H0 F H : Hp} {Me M M1 : MM} {te : TE} {R : VP} {D : Ends} {tA tz : TS}
theorem s_retB (c : Bx F0 Me H0 F M H) (h : EvD te σ F M R) (q : ∀ F' H' v, Bx F0 Me H0 F' M H' → Ex F F' → R F' v → D.rt v H') : tRet te D σ H :=
  h F H (Ex.refl F) c.cn _ fun F' H' v g r => q F' H' v (c.go g) g.f r
/-- what stands behind is shown once -/
theorem q_share (I : St → Hp → Prop) (h2 : ∀ σ' H', I σ' H' → tz D σ' H') (h1 : (∀ σ' H', I σ' H' → tz D σ' H') → tA { D with nx := tz D } σ H) : tSeq tA tz D σ H := h1 h2
end
/-- a spring is made -/
def spSpring (K : PySem.W.Frag) : Sp := fun vs H Q _ => ∃ (F : Hp) (M : MM) (ns : List Int), Cn F M H ∧ Al F [pQ K (ns.map fun i => pI i)] vs ∧ ns.length ≤ 100 ∧
  ∀ F' H' b l, Gr M F H F' H' → H b = none → H l = none → F' b = none → F' l = none → b ≠ l → H' b = some (.lst [.ref l, .int 0, .int 0, .int 7]) → H' l = some (.lst (ns.map V.int)) → Q (.ref b) H'
theorem q_spring {K : PySem.W.Frag} {σ : St} {F0 H0 F H : Hp} {Me M : MM} {t : TA} {S : VP} {E : XK} {D : Ends} {tz : TS} {i : Nat} {ns : List Int} (c : Bx F0 Me H0 F M H) (h : EvA t σ F M [S]) (he : Ent F S (pQ K (ns.map fun i => pI i))) (hn : ns.length ≤ 100)
    (q : ∀ F' H' M' b l, Bx F0 Me H0 F' M' H' → Ex F F' → Spring M'.f b l → M'.n = M.n → M'.l = M.l → (∀ a φ, M.f a = some φ → M'.f a = some φ) → tz D (σ.set i (some (.ref b))) H') : tSeq (tAsg (tCall (spSpring K) [] E t) (gName i)) tz D σ H :=
  h F H (Ex.refl F) c.cn _ fun F1 H1 vs g hv => by
    rw [List.append_nil]
    cases hv with
    | cons h1 h2 =>
      cases h2
      refine ⟨F1, M, ns, g.c, .cons (he F1 _ g.f h1) .nil, hn, fun F2 H2 b l g2 hb hl fb fl ne eb el => ?_⟩
      have b2 := (c.go g).go g2
      have ob := g.onone hb
      have ol := g.onone hl
      have cb := c.old ob
      have cl := c.old ol
      have b3 := b2.own cl el fl (φ := phiL) ⟨ns, rfl, hn⟩ phiL_up
      have b4 := b3.own cb eb fb (φ := phiS l) ⟨0, 0, 7, rfl, by omega, by omega, by omega, by omega, by omega⟩ phiS_up
      refine q F2 H2 _ b l b4 (g.f.trans g2.f) ⟨mput_same, by rw [mput_ne (Ne.symm ne)]; exact mput_same, ne⟩ rfl rfl fun a φ ha => ?_
      have n1 : a ≠ b := fun z => by rw [z, c.cn.mnone ob] at ha; cases ha
      have n2 : a ≠ l := fun z => by rw [z, c.cn.mnone ol] at ha; cases ha
      rw [mput_ne n1, mput_ne n2]
      exact ha
/-- what a def that makes one does -/
theorem spring_ok {K : PySem.W.Frag} {F H : Hp} {M : MM} {ns : List Int} {v : V} {te : TA} {σ : St} {Q : VK} (c : Cn F M H) (h : EvA te σ F M [pV v]) (hk : Kn (pQ K (ns.map fun i => pI i)) F v)
    (q : ∀ F' H' b l, Gr M F H F' H' → H b = none → H l = none → F' b = none → F' l = none → b ≠ l → H' b = some (.lst [.ref l, .int 0, .int 0, .int 7]) → H' l = some (.lst (ns.map V.int)) → Q (.ref b) H') :
    tLst (tCons (tCB (rListOf K) te) (tCons (tC (.int 0)) (tCons (tC (.int 0)) (tCons (tC (.int 7)) tNil)))) σ H Q :=
  en_list (K := K) h (Ent.var hk inferInstance) F H (Ex.refl F) c _ fun F2 H2 l o g h1 h2 h3 ⟨xs, eo, al⟩ => by
    refine ⟨by show 4 ≤ sizeLine; decide, fun b hb => ?_⟩
    subst eo
    rw [al_ints al] at h2
    have ne : b ≠ l := fun z => by rw [z, h2] at hb; cases hb
    exact q F2 _ b l (g.trans (Gr.lay g.c hb)) (g.onone hb) h1 (g.c.fnone hb) h3 ne upd_same (by rw [upd_ne (Ne.symm ne)]; exact h2)
section
variable {K : PySem.W.Frag} {σ : St} {F0 H0 F H : Hp} {Me M M1 M2 : MM} {te tf : TE} {R : VP} {D : Ends} {tA tz : TS} {i j : Nat}
/-- a, b = {}, {} -/
theorem q_parDD (c : Bx F0 Me H0 F M H) (q : ∀ H' M' p p2, Bx F0 Me H0 F M' H' → M'.f p = some (eqo (.dK [])) → M'.f p2 = some (eqo (.dK [])) → p ≠ p2 → H0 p = none → H0 p2 = none → (∀ a φ, M.f a = some φ → M'.f a = some φ) → M'.l = M.l → M'.n = M.n → tz D ((σ.set i (some (.ref p))).set j (some (.ref p2))) H') :
    tSeq (tPar i j (tCons tDNewK (tCons tDNewK tNil))) tz D σ H := fun p hp p2 hp2 => by
  refine ⟨.ref p, .ref p2, rfl, ?_⟩
  have c1 := c.go (Gr.lay (o := .dK []) c.cn hp)
  have hn : H p2 = none := by
    by_cases e : p2 = p
    · rw [e, upd_same] at hp2; cases hp2
    · rw [upd_ne e] at hp2; exact hp2
  have ne : p ≠ p2 := fun z => by rw [← z, upd_same] at hp2; cases hp2
  have c2 := c1.go (Gr.lay (o := .dK []) c1.cn hp2)
  have c3 := c2.own (c.old hp) (show _ = some (.dK []) by rw [upd_ne ne]; exact upd_same) (c.cn.fnone hp) (φ := eqo (.dK [])) rfl fun _ _ h => h
  have c4 := c3.own (c.old hn) (p := p2) upd_same (c.cn.fnone hn) (φ := eqo (.dK [])) rfl fun _ _ h => h
  refine q _ _ p p2 c4 (by rw [mput_ne ne]; exact mput_same) mput_same ne (c.old hp) (c.old hn) (fun a φ ha => ?_) rfl rfl
  have n1 : a ≠ p := fun z => by rw [z, c.cn.mnone hp] at ha; cases ha
  have n2 : a ≠ p2 := fun z => by rw [z, c.cn.mnone hn] at ha; cases ha
  rw [mput_ne n2, mput_ne n1]
  exact ha
/-- a, b = e, (something new that will change) -/
theorem q_parVN {O : Hp → HO → Prop} (c : Bx F0 Me H0 F M H) (h : EvM te σ F M M1 R) (h2 : EvNM tf σ F M1 M2 O) (hn : M2.n ≤ Me.n) (hR : Mono R)
    (q : ∀ F' H' M' v p o, Bx F0 Me H0 F' M' H' → Ex F F' → Mp M2 M' p o → H0 p = none → M2.f p = none → Kn R F' v → O F' o → tz D ((σ.set i (some v)).set j (some (.ref p))) H') : tSeq (tPar i j (tCons te (tCons tf tNil))) tz D σ H :=
  h F H (Ex.refl F) c.cn _ fun F1 H1 v g hv => h2 F1 H1 g.f g.c _ fun F2 H2 p o g2 h1 h3 h4 ho => by
    have g3 := g.trans g2
    have hp := g.onone h1
    exact ⟨v, .ref p, rfl, q F2 H2 _ v p o ((c.goM g3 hn).own (c.old hp) h3 h4 rfl fun _ _ h => h) g3.f Mp.put (c.old hp) (by rw [g3.ef]; exact c.cn.mnone hp) ⟨Mono.up F1 F2 v g2.f hv⟩ ho⟩
theorem ent_ref {a : Addr} {kvs : List (Key × V)} (h : F a = some (.dK kvs)) : Ent F (pV (.ref a)) (pDk kvs) := fun F1 v e hv => ⟨a, hv, e _ _ h⟩
theorem ent_refL {a : Addr} {xs : List V} {Rs : List VP} [hm : Monos Rs] (h : F a = some (.lst xs)) (al : Al F Rs xs) : Ent F (pV (.ref a)) (pL Rs) := fun F1 v e hv => ⟨a, xs, hv, e _ _ h, Monos.up F F1 _ e al⟩
end
theorem take_kept {ks : List Int} {P : Int → Bool} {g : Int → Int} {i : Nat} {o : Int} (hn : ks.Nodup) (h : ks[i]? = some o) :
    (((ks.take (i + 1)).filter P).map fun o => (o, g o)) = if P o then putI (((ks.take i).filter P).map fun o => (o, g o)) o (g o) else ((ks.take i).filter P).map fun o => (o, g o) := by
  rw [take_filter_map ks P (fun o => (o, g o)) i o h]
  cases z : P o with
  | false => simp
  | true =>
    simp only [if_true]
    rw [put_fresh]
    rw [List.map_map]
    intro hm
    obtain ⟨o', h1, h2⟩ := List.mem_map.mp hm
    have h2 : o' = o := h2
    subst h2
    have h3 := (List.mem_filter.mp h1).1
    obtain ⟨j, hj, e⟩ := List.mem_take_iff_getElem.mp h3
    obtain ⟨hi, e2⟩ := List.getElem?_eq_some_iff.mp h
    have : j = i := (List.getElem_inj hn).mp (by rw [e, e2])
    omega
/-- pairs, as a thing -/
def pairsT (l : List (Int × Int)) : Th := .seq false (l.map fun x => .seq true [.int x.1, .int x.2])
/-- what trying to make a filter is told as -/
def triedT (tp tt : Th) : Th :=
  match tp.isPrime, tp, tt with
  | true, .int p, .seq _ ts => match firstBad ts with
    | none => .seq true [.str "made", pairsT (heldOf p (prs ts))]
    | some i => .seq true [.str "term", .int (i : Int)]
  | true, _, _ => .seq true [.str "term", .int 0]
  | false, t, _ => .seq true [.str "prime", t.frozen]
section
variable {K : PySem.W.Frag} {σ : St} {F0 H0 F H : Hp} {Me M M1 M2 : MM} {te tf : TE} {R : VP} {Rs Ss : List VP} {D : Ends} {tA tz : TS} {i j : Nat}
theorem er_asg {W : WX} {C : Addr} {f : Str} (c : Bx F0 Me H0 F M H) (h : EvR te W σ F M M1 C f R) (hn : M1.n ≤ Me.n) (q : ∀ F' H' d v, Bx F0 Me H0 F' M1 H' → Ex F F' → F' d = some (.xd [(f, v)]) → R F' v → W (.ref C) (some d) σ H') : tAsg te (gName i) D σ H :=
  h F H (Ex.refl F) c.cn (fun F' H' d v g h2 h3 => q F' H' d v (c.goM g hn) g.f h2 h3) _
theorem ev_xf {a C d : Addr} {f : Str} {v : V} {fs : List (Str × V)} (h : EvD te σ F M (pV (.ref a))) (hd : F d = some (.xd fs)) (hl : fs.lookup f = some v) : EvD (tXf a (.ref C) (some d) C f te) σ F M (pV v) := fun F1 H e c Q q =>
  h F1 H e c _ fun F2 H2 x g hx => ⟨hx, rfl, d, fs, v, rfl, g.c.at_ (g.f _ _ (e _ _ hd)) (fun _ z => by cases z), hl, q F2 H2 v g rfl⟩
theorem ent_pTt (h : Ents F Rs Ss) : Ent F (pTt Rs) (pTt Ss) := fun F1 v e ⟨a, xs, e1, h1, h2⟩ => ⟨a, xs, e1, h1, h.al e h2⟩
theorem ent_pT (h : Ents F Rs Ss) : Ent F (pT K Rs) (pT K Ss) := fun F1 v e ⟨a, xs, e1, h1, h2⟩ => ⟨a, xs, e1, h1, h.al e h2⟩
theorem th_pair (x : Int × Int) : pTh K (.seq true [.int x.1, .int x.2]) = pT K [pI x.1, pI x.2] := by
  rw [pTh_seq]
  simp only [List.map_cons, List.map_nil, th_int]
  rfl
theorem th_pairs (l : List (Int × Int)) : pTh K (pairsT l) = pQ K (l.map fun x => pT K [pI x.1, pI x.2]) := by
  unfold pairsT
  rw [pTh_seq, List.map_map]
  show pQ K _ = _
  exact congrArg (pQ K) (List.map_congr_left fun x _ => th_pair x)
theorem th_2 {b : Bool} (x y : Th) : pTh K (.seq b [x, y]) = pSq K b [pTh K x, pTh K y] := by
  rw [pTh_seq]
  rfl
end
section
open PySem.Spec PyProof.Rows
variable {X : L2.Cx} {K : PySem.W.Frag} {n : Str} {i : Nat} {body : List Stmt} {h₀ : ExceptHandler} {hds : List ExceptHandler} {l : List (Value × (Addr → Value → Option Addr → TS))} {pos : Pos} {tb : WX → TS} {Wout : WX}
theorem ps_try_manyA' (e' : X.K = K) (hs : X.stack = X.env :: X.outer) (hf : X.env.frame = some X.env.locals) (hN : X.N.Nodup) (hi : X.N[i]? = some n) (hln : X.env.kindOf n = some .local) (tk : L2N.Takes X Wout)
    (hb : ∀ (W : WX) (pn : List (Addr × Obj)) (xe : Value → Shared → Prop), L2N.Takes (X.tr pn xe) W → PassesOwn (model X.prog X.w) X.A X.env xe → PSs (X.tr pn xe) body (tb W))
    (hh : HdsA X n (h₀ :: hds) l) : PS X (.Try body (h₀ :: hds) [] [] pos) (fun D σ H => tb (wManyA K i Wout D l) D σ H) := by
  subst e'
  exact ps_try_manyA hs hf hN hi hln tk hb hh
end
end Fw
end

section
/-! more for laws -/
namespace Fw
open PySem L2
section
open PySem.Spec PyProof.Rows
variable {X : L2.Cx} {x : Str} {k : Nat} {ps : List Str} {c : Con} {p pos : Pos}
theorem pe_callC0 (C : Cal X.prog X.w X.K X.mg X.base k x ps c.sp) (hr : Room k X.A) (hg : Gl X x) (hdb : (x == ("__debug__" : Str)) = false := by decide) :
    PE X (.Call (.Name x p) [] [] pos) (tCall c.sp [] E0 tNil) := by
  obtain ⟨f, fd, F, b, kp, g⟩ := C.ex
  exact pe_call0 F hr hg g kp b .nil pass0 hdb
end
section
open PySem.Spec PyProof.Rows
variable {X : L2.Cx} {x : Str} {k : Nat} {ps : List Str} {sp : Sp} {e : Expr} {es : List Expr} {t : TA} {p pos : Pos}
theorem pe_callR (C : Cal X.prog X.w X.K X.mg X.base k x ps sp) (hr : Room k X.A) (hg : Gl X x) (ha : PA X (e :: es) t)
    (hdb : (x == ("__debug__" : Str)) = false := by decide) (he : starEach (e :: es) X.env = (false, eval e X.env) :: starEach es X.env := by rfl) (hpl : (backTo pos (starEach es X.env)).any (·.1) = false := by rfl) :
    PE X (.Call (.Name x p) (e :: es) [] pos) (tCall sp [] E0 t) := by
  obtain ⟨f, fd, F, b, kp, g⟩ := C.ex
  exact pe_call F hr hg g kp b .nil pass0 ha hdb he hpl
end
/-- an instance of C is of no other kind -/
structure OwnI (K : PySem.W.Frag) (C : Addr) : Prop where
  cl : Cls K C
  ha : PySem.W.findIn K (.ref C) "__class__" = some (some (.builtin "object.__class__"))
  hn : PySem.W.specialIn K (.builtin "object.__class__") "__get__" = some (some (.builtin "getset_descriptor.__get__"))
  htk : PySem.W.takesIn K (.builtin "object.__class__") = some true
  hm : PySem.W.mroIn K C (.type "object") = some true
  ok : OwnC K C
theorem kd_ins {K : PySem.W.Frag} {F : Hp} {C : Addr} {res : Hp → List (Str × V) → Prop} (h : OwnI K C) : Ent F (pIns C res) (pKd K (.own C)) := fun F1 v e ⟨a, dx, fs, e1, h1, _⟩ => by
  rw [e1]
  exact ⟨.base (.ins h1 h.cl h.ha h.hn h.htk h.hm), h.ok⟩
section
variable {K : PySem.W.Frag} {σ : St} {F0 H0 F F' H : Hp} {Me M M1 M2 M3 : MM} {te tf ta tb ti to : TE} {R S T : VP} {Rs Ss : List VP} {D : Ends} {tA tz : TS} {i j : Nat}
/-! things, displayed -/
theorem et_tup {ts : List Th} (h : Ents F Rs (ts.map (pTh K))) : Ent F (pTt Rs) (pTh K (.seq true ts)) := by
  rw [pTh_seq]
  exact Ent.trans (ent_pTt h) Ent.tt
theorem et_lst {ts : List Th} (h : Ents F Rs (ts.map (pTh K))) : Ent F (pL Rs) (pTh K (.seq false ts)) := by
  rw [pTh_seq]
  exact Ent.trans (ent_pL h) Ent.lq
theorem et_non : Ent F pN (pTh K .non) := ent_of th_non.symm
theorem et_int {i : Int} : Ent F (pI i) (pTh K (.int i)) := ent_of th_int.symm
theorem et_bl {b : Bool} : Ent F (pB b) (pTh K (.bl b)) := ent_of th_bl.symm
theorem et_str {s : Str} : Ent F (pS s) (pTh K (.str s)) := ent_of th_str.symm
theorem et_dic {kvs : List (Key × V)} : Ent F (pDk kvs) (pTh K (.dic kvs)) := ent_of th_dic.symm
theorem et_own {C : Addr} {res : Hp → List (Str × V) → Prop} (h : OwnI K C) : Ent F (pIns C res) (pTh K (.own C)) := by
  rw [th_own]
  exact kd_ins h
theorem et_seqs {b : Bool} {ts : List Th} (h : Ents F Rs (ts.map (pTh K))) : Ent F (pSq K b Rs) (pTh K (.seq b ts)) := by
  rw [pTh_seq]
  cases b with
  | true => exact ent_pT h
  | false => exact ent_pQ h
theorem ev_dnew : EvD tDNewK σ F M (pDk []) := ev_N en_dnew fun F1 F2 p o _ _ ho _ h => ⟨p, rfl, by rw [h, ho]⟩
theorem ev_disp1 {k : Int} {v : V} : EvD (tDisp [(tC (.int k), tC v)]) σ F M (pDk [(.inl k, v)]) := fun F1 H e c Q q p hp => by
  have g1 : Gr M F1 H F1 (upd H p (.dK [])) := Gr.lay c hp
  refine ⟨upd_same, [(.inl k, v)], rfl, by show 1 ≤ 15; decide, ?_⟩
  have e2 : upd (upd H p (.dK [])) p (.dK (mergeK [] [((.inl k : Key), v)])) = upd H p (.dK [(.inl k, v)]) := by
    funext b
    by_cases z : b = p
    · rw [z, upd_same, upd_same]; rfl
    · rw [upd_ne z, upd_ne z, upd_ne z]
  rw [e2]
  exact q (upd F1 p (.dK [(.inl k, v)])) _ _ (Gr.new c hp) ⟨p, rfl, upd_same⟩
/-! a sum of lists that will change -/
theorem en_cat (ha : EvM ta σ F M M1 S) (hb : EvM tb σ F M1 M2 T) (he : Ent F S (pL Rs)) (he2 : Ent F T (pL Ss)) (hl : Rs.length + Ss.length ≤ 100000) (hS : Mono S) (hm : Monos Rs) : EvNM (tOp rCat ta tb) σ F M M2 (fun F o => ∃ xs, o = .lst xs ∧ Al F (Rs ++ Ss) xs) := fun F1 H e c Q q =>
  ha F1 H e c _ fun F2 H2 x g hx => hb F2 H2 (e.trans g.f) g.c _ fun F3 H3 y g2 hy => by
    obtain ⟨a, xs, e1, hs, al⟩ := he F3 x ((e.trans g.f).trans g2.f) (Mono.up F2 F3 x g2.f hx)
    obtain ⟨b, ys, e2, hs2, al2⟩ := he2 F3 y ((e.trans g.f).trans g2.f) hy
    have g3 := g.trans g2
    refine ⟨a, b, xs, ys, e1, e2, g2.c.lst hs, g2.c.lst hs2, sz_of (by rw [← al.length, ← al2.length]; exact hl), fun p hp => q F3 _ p _ (g3.trans (Gr.lay g2.c hp)) (g3.onone hp) upd_same (g2.c.fnone hp) ⟨_, rfl, al.app al2⟩⟩
/-! append, insert of what is drawn -/
theorem s_appM {p : Addr} {xs : List V} (c : Bx F0 Me H0 F M H) (hm : M.f p = some (eqo (.lst xs))) (h0 : H0 p = none) (hl : xs.length < 100000) (ha : EvD ta σ F M (pV (.ref p))) (h : EvM te σ F M M1 R) (hn : M1.n ≤ Me.n) (hR : Mono R)
    (q : ∀ F' H' M' v, Bx F0 Me H0 F' M' H' → Ex F F' → Mp M1 M' p (.lst (xs ++ [v])) → Kn R F' v → D.nx σ H') : tDrop (tBM K "list" rAppend ta (tCons te tNil)) D σ H :=
  ha F H (Ex.refl F) c.cn _ fun F1 H1 w g hw => by
    rw [show w = V.ref p from hw]
    have b1 := c.go g
    refine ⟨.inl ⟨rfl, xs, SqL.of (b1.at_ hm)⟩, h F1 H1 g.f g.c _ fun F2 H2 v g2 hv => ?_⟩
    have b2 := b1.goM g2 hn
    have hm2 : M1.f p = some (eqo (.lst xs)) := by rw [g2.ef]; exact hm
    exact ⟨p, xs, v, rfl, rfl, b2.at_ hm2, sz_lt hl, q F2 _ _ v (b2.put h0 hm2 fun _ _ z => by cases z) (g.f.trans g2.f) Mp.put ⟨hv⟩⟩
def rIns : V → List V → Hp → VK → Prop := fun x vs H Q => ∃ (l : Addr) (xs : List V) (i : Int) (y : V), x = .ref l ∧ vs = [.int i, y] ∧ H l = some (.lst xs) ∧ xs.length < sizeLine ∧ 0 ≤ i ∧ i < 2 ^ 63 ∧ Q .non (upd H l (.lst (xs.take i.toNat ++ [y] ++ xs.drop i.toNat)))
theorem s_insM {α : Type} {n : α → Int} {p : Addr} {xs : List V} (c : Bx F0 Me H0 F M H) (hm : M.f p = some (eqo (.lst xs))) (h0 : H0 p = none) (hl : xs.length < 100000) (ha : EvD ta σ F M (pV (.ref p))) (hi : EvM ti σ F M M1 (pEx fun a => pI (n a))) (hb : ∀ a, 0 ≤ n a ∧ n a < 2 ^ 63) (h : EvM te σ F M1 M2 R) (hn : M2.n ≤ Me.n) (hR : Mono R)
    (q : ∀ F' H' M' a v, Bx F0 Me H0 F' M' H' → Ex F F' → Mp M2 M' p (.lst (xs.take (n a).toNat ++ [v] ++ xs.drop (n a).toNat)) → Kn R F' v → D.nx σ H') : tDrop (tBM K "list" rIns ta (tCons ti (tCons te tNil))) D σ H :=
  ha F H (Ex.refl F) c.cn _ fun F1 H1 w g hw => by
    rw [show w = V.ref p from hw]
    have b1 := c.go g
    refine ⟨.inl ⟨rfl, xs, SqL.of (b1.at_ hm)⟩, hi F1 H1 g.f g.c _ fun F2 H2 x g2 ⟨a, hx⟩ => h F2 H2 (g.f.trans g2.f) g2.c _ fun F3 H3 v g3 hv => ?_⟩
    have g4 := g2.trans g3
    have b2 := b1.goM g4 hn
    have hm2 : M2.f p = some (eqo (.lst xs)) := by rw [g4.ef]; exact hm
    exact ⟨p, xs, n a, v, rfl, by rw [show x = V.int (n a) from hx], b2.at_ hm2, sz_lt hl, (hb a).1, (hb a).2, q F3 _ _ a v (b2.put h0 hm2 fun _ _ z => by cases z) (g.f.trans g4.f) Mp.put ⟨hv⟩⟩
/-- a call whose arguments are not known, but of a kind -/
theorem ev_callE {β : Type} (c : Con) (f : β → c.α) {k : Nat} {t : TA} {E : XK} (h : EvAM t σ F M M1 Rs) (hx : ∀ F1 vs, Ex F F1 → Al F1 Rs vs → ∃ b, Al F1 (c.pre (f b)) vs) (hs : ∀ b, c.side (f b) M1) (hk : ∀ b, c.cost (f b) = k) : EvM (tCall c.sp [] E t) σ F M (M1.add k) (pEx fun b => c.res (f b)) := fun F1 H e cn Q q =>
  h F1 H e cn _ fun F2 H2 vs g hv => by
    rw [List.append_nil]
    obtain ⟨b, hb⟩ := hx F2 vs (e.trans g.f) hv
    exact ⟨F2, M1, f b, g.c, hb, hs b, fun F3 H3 v g2 r => q F3 H3 v (g.trans (by rw [hk b] at g2; exact g2)) ⟨b, r⟩⟩
theorem q_whenM {P : Bool → Prop} {t : TT} {tu : TS} (c : Bx F0 Me H0 F M H) (h : EvTM t σ F M M1 P) (hn : M1.n ≤ Me.n) (h1 : P true → ∀ F' H', Bx F0 Me H0 F' M1 H' → Ex F F' → tu { D with nx := tz D } σ H') (h2 : P false → ∀ F' H', Bx F0 Me H0 F' M1 H' → Ex F F' → tz D σ H') : tSeq (tIfS t tu tNext) tz D σ H := q_ifM c h hn h1 h2
end
end Fw
end

section
/-! k02's things -/
namespace Fw
open PySem L2
def rowT (x : Int × Int) : Th := .seq true [.int x.1, .int x.2]
theorem rowT_term (x : Int × Int) : (rowT x).isTerm = true := rfl
theorem fb_pre : ∀ (xs : List Th) (i j : Nat) (r : List Th), firstBad xs = some i → i < j → firstBad (xs.take j ++ r) = some i
  | [], i, j, r, h, _ => by cases h
  | x :: xs, i, 0, r, _, hj => by omega
  | x :: xs, i, j + 1, r, h, hj => by
    unfold firstBad at h
    show firstBad (x :: (xs.take j ++ r)) = some i
    unfold firstBad
    cases hx : x.isTerm with
    | false =>
      rw [hx] at h
      exact h
    | true =>
      rw [hx] at h
      simp only [if_true] at h ⊢
      cases hf : firstBad xs with
      | none => rw [hf] at h; cases h
      | some k =>
        rw [hf] at h
        cases h
        have hj : k + 1 < j + 1 := hj
        rw [fb_pre xs k j r hf (by omega)]
        rfl
theorem fb_mid (l m : List (Int × Int)) (o : Th) (h : o.isTerm = false) : firstBad (l.map rowT ++ [o] ++ m.map rowT) = some l.length := by
  refine firstBad_at (t := o) (fun j u hj hu => ?_) ?_ h
  · rw [List.append_assoc, List.getElem?_append_left (by simpa using hj), List.getElem?_map] at hu
    cases z : l[j]? with
    | none => rw [z] at hu; cases hu
    | some x => rw [z] at hu; cases hu; rfl
  · rw [List.append_assoc, List.getElem?_append_right (by simp)]
    simp
theorem fb_ins {xs : List Th} {i j : Nat} {y : Th} (h : firstBad xs = some i) (hj : i < j) : firstBad (xs.take j ++ [y] ++ xs.drop j) = some i := by
  rw [List.append_assoc]
  exact fb_pre xs i j _ h hj
theorem al_app_inv {F : Hp} : ∀ {As Bs : List VP} {xs : List V}, Al F (As ++ Bs) xs → ∃ ys zs, xs = ys ++ zs ∧ Al F As ys ∧ Al F Bs zs
  | [], Bs, xs, h => ⟨[], xs, rfl, .nil, h⟩
  | A :: As, Bs, _, .cons a b => by
    obtain ⟨ys, zs, e, h1, h2⟩ := al_app_inv b
    exact ⟨_ :: ys, zs, by rw [e]; rfl, .cons a h1, h2⟩
theorem cut_to {α : Type} (xs : List α) (i : Nat) (h1 : i ≤ xs.length) : cutR xs none (some (i : Int)) = xs.take i := by
  unfold cutR
  rw [HT.sIx_nat, HT.sIx_none, List.drop_zero, Nat.sub_zero, Nat.min_eq_left h1]
theorem cut_from {α : Type} (xs : List α) (i : Nat) (h1 : i ≤ xs.length) : cutR xs (some (i : Int)) none = xs.drop i := by
  unfold cutR
  rw [HT.sIx_nat, HT.sIx_none, Nat.min_eq_left h1, List.take_of_length_le (by rw [List.length_drop]; exact Nat.le_refl _)]
theorem Spring.mp {M M' : MM} {b l r : Addr} {o : HO} (h : Spring M.f b l) (m : Mp M M' r o) (hr : M.f r = none) : Spring M'.f b l := ⟨m.keepN hr h.hb, m.keepN hr h.hl, h.ne⟩
theorem Spring.mp2 {M M' : MM} {b l r : Addr} {o : HO} (h : Spring M.f b l) (m : Mp M M' r o) (hb : b ≠ r) (hl : l ≠ r) : Spring M'.f b l := ⟨m.keep h.hb hb, m.keep h.hl hl, h.ne⟩
theorem Spring.del {M : MM} {b l r : Addr} (h : Spring M.f b l) (hb : b ≠ r) (hl : l ≠ r) : Spring (mdel M r).f b l := ⟨by rw [mdel_ne hb]; exact h.hb, by rw [mdel_ne hl]; exact h.hl, h.ne⟩
theorem row_of {K : PySem.W.Frag} {F : Hp} {v : V} {α β : Type} {f : α → Int} {g : β → Int} (h : (pTt [pEx fun a => pI (f a), pEx fun a => pI (g a)]) F v) : ∃ x : Int × Int, (pT K [pI x.1, pI x.2]) F v := by
  obtain ⟨a, xs, e1, h1, h2⟩ := h
  obtain ⟨x, y, rfl, ⟨p, hp⟩, ⟨q, hq⟩⟩ := al2' h2
  exact ⟨(f p, g q), a, _, e1, .inl (.inl h1), .cons hp (.cons hq .nil)⟩
theorem rows_th {K : PySem.W.Frag} (l : List (Int × Int)) : (l.map rowT).map (pTh K) = l.map fun x => pT K [pI x.1, pI x.2] := by
  rw [List.map_map]
  exact List.map_congr_left fun x _ => th_pair x
theorem alRows_up {K : PySem.W.Frag} {F F' : Hp} {rs : List (Int × Int)} {xs : List V} (e : Ex F F') (h : Al F (rs.map fun x => pT K [pI x.1, pI x.2]) xs) : Al F' (rs.map fun x => pT K [pI x.1, pI x.2]) xs := by
  have : Monos (rs.map fun x => pT K [pI x.1, pI x.2]) := Monos.map (h := fun _ => inferInstance)
  exact Monos.up F F' _ e h
theorem alThs_up {K : PySem.W.Frag} {F F' : Hp} {ts : List Th} {xs : List V} (e : Ex F F') (h : Al F (ts.map (pTh K)) xs) : Al F' (ts.map (pTh K)) xs := Monos.up F F' _ e h
/-- one of some things -/
def pOf (K : PySem.W.Frag) (ts : List Th) : VP := pEx fun t : {t : Th // t ∈ ts} => pTh K t.1
instance {K : PySem.W.Frag} {ts : List Th} : Mono (pOf K ts) := by unfold pOf; infer_instance
theorem pick_of {K : PySem.W.Frag} {F : Hp} {ts : List Th} : Ent F (pEx fun i : Fin (ts.map (pTh K)).length => (ts.map (pTh K)).get i) (pOf K ts) := fun F1 v e ⟨i, hi⟩ => by
  have hlt : i.1 < ts.length := by have := i.2; simpa using this
  refine ⟨⟨ts[i.1], List.getElem_mem hlt⟩, ?_⟩
  have hi : ((ts.map (pTh K)).get i) F1 v := hi
  rw [List.get_eq_getElem, List.getElem_map] at hi
  exact hi
theorem bad_of {K : PySem.W.Frag} {F : Hp} {rs : List (Int × Int)} {k : Nat} {ts : List Th} {xs : List V} (hk : k ≤ rs.length) (h : Al F ((cutR (rs.map fun x => pT K [pI x.1, pI x.2]) none (some (k : Int)) ++ [pOf K ts]) ++ cutR (rs.map fun x => pT K [pI x.1, pI x.2]) (some (k : Int)) none) xs) :
    ∃ o, o ∈ ts ∧ Al F (((rs.take k).map rowT ++ [o] ++ (rs.drop k).map rowT).map (pTh K)) xs := by
  rw [cut_to _ k (by rw [List.length_map]; exact hk), cut_from _ k (by rw [List.length_map]; exact hk)] at h
  obtain ⟨ys, zs, rfl, h1, h2⟩ := al_app_inv h
  obtain ⟨us, ws, rfl, h3, h4⟩ := al_app_inv h1
  cases h4 with
  | cons h5 h6 =>
    cases h6
    obtain ⟨⟨o, ho⟩, h5⟩ := h5
    refine ⟨o, ho, ?_⟩
    rw [List.map_append, List.map_append, rows_th, rows_th, List.map_take, List.map_drop]
    exact (h3.app (.cons h5 .nil)).app h2
theorem ins_of {K : PySem.W.Frag} {F : Hp} {bt ts : List Th} {xs : List V} {v : V} (j : Nat) (h : Al F (bt.map (pTh K)) xs) (hv : (pOf K ts) F v) : ∃ o, o ∈ ts ∧ Al F ((bt.take j ++ [o] ++ bt.drop j).map (pTh K)) (xs.take j ++ [v] ++ xs.drop j) := by
  obtain ⟨⟨o, ho⟩, hv⟩ := hv
  refine ⟨o, ho, ?_⟩
  rw [List.map_append, List.map_append, List.map_take, List.map_drop]
  exact ((h.take j).app (.cons hv .nil)).app (h.drop j)
section
variable {σ : St} {F0 H0 F H : Hp} {Me M M1 : MM} {t : TT} {tu tw : TS} {D : Ends}
theorem s_ifM {P : Bool → Prop} (c : Bx F0 Me H0 F M H) (h : EvTM t σ F M M1 P) (hn : M1.n ≤ Me.n) (h1 : P true → ∀ F' H', Bx F0 Me H0 F' M1 H' → Ex F F' → tu D σ H') (h2 : P false → ∀ F' H', Bx F0 Me H0 F' M1 H' → Ex F F' → tw D σ H') : tIfS t tu tw D σ H :=
  h F H (Ex.refl F) c.cn _ fun b F' H' g hb => by
    cases b with
    | true => exact h1 hb F' H' (c.goM g hn) g.f
    | false => exact h2 hb F' H' (c.goM g hn) g.f
end
theorem good_of {K : PySem.W.Frag} {F : Hp} : ∀ {rs : List (Int × Int)} {xs : List V}, Al F (rs.map fun x => pOf K [rowT x, .seq false [.int x.1, .int x.2]]) xs → ∃ ts : List Th, Al F (ts.map (pTh K)) xs ∧ prs ts = rs ∧ firstBad ts = none ∧ ts.length = rs.length
  | [], _, .nil => ⟨[], .nil, rfl, rfl, rfl⟩
  | x :: rs, _, .cons ⟨⟨t, ht⟩, hv⟩ b => by
    obtain ⟨ts, h1, h2, h3, h4⟩ := good_of b
    have e : ∃ bb, t = .seq bb [.int x.1, .int x.2] := by
      rcases List.mem_cons.mp ht with e | e
      · exact ⟨true, e⟩
      · exact ⟨false, List.mem_singleton.mp e⟩
    obtain ⟨bb, rfl⟩ := e
    refine ⟨.seq bb [.int x.1, .int x.2] :: ts, .cons hv h1, ?_, ?_, by simp [h4]⟩
    · unfold prs at h2 ⊢
      simp [Th.pr, h2]
    · unfold firstBad
      rw [h3]
      rfl
theorem tried_bad {p : Int} {b : Bool} {bt : List Th} {i : Nat} (hp : Th.isPrime (.int p) = true) (h : firstBad bt = some i) : triedT (.int p) (.seq b bt) = .seq true [.str "term", .int (i : Int)] := by
  unfold triedT
  rw [hp]
  show (match firstBad bt with | none => _ | some i => _) = _
  rw [h]
theorem tried_good {p : Int} {b : Bool} {bt : List Th} (hp : Th.isPrime (.int p) = true) (h : firstBad bt = none) : triedT (.int p) (.seq b bt) = .seq true [.str "made", pairsT (heldOf p (prs bt))] := by
  unfold triedT
  rw [hp]
  show (match firstBad bt with | none => _ | some i => _) = _
  rw [h]
theorem tried_nosq {p : Int} {t : Th} (hp : Th.isPrime (.int p) = true) (h : t.isSq = false) : triedT (.int p) t = .seq true [.str "term", .int 0] := by
  unfold triedT
  rw [hp]
  cases t with
  | seq b ts => cases h
  | _ => rfl
theorem tried_badp {tp t : Th} (hp : tp.isPrime = false) : triedT tp t = .seq true [.str "prime", tp.frozen] := by
  unfold triedT
  rw [hp]
theorem pairsT_ok (l : List (Int × Int)) (h : l.length ≤ 50000) : (pairsT l).okS = true ∧ (pairsT l).dep ≤ 2 := by
  have h1 : ∀ l : List (Int × Int), Th.okSs (l.map fun x => .seq true [.int x.1, .int x.2]) = true := by
    intro l
    induction l with
    | nil => simp [Th.okSs]
    | cons x l ih => simp [Th.okSs, Th.okS, ih]
  have h2 : ∀ l : List (Int × Int), Th.deps (l.map fun x => .seq true [.int x.1, .int x.2]) ≤ 1 := by
    intro l
    induction l with
    | nil => simp [Th.deps]
    | cons x l ih => simp [Th.deps, Th.dep]; omega
  unfold pairsT
  constructor
  · unfold Th.okS
    rw [h1, List.length_map, decide_eq_true h]
    rfl
  · unfold Th.dep
    have := h2 l
    omega
theorem dep2 {b : Bool} {x y : Th} {n : Nat} (h1 : x.dep < n) (h2 : y.dep < n) : Th.dep (.seq b [x, y]) < n + 1 := by
  simp [Th.dep, Th.deps]
  omega
theorem ok2 {b : Bool} {x y : Th} (h1 : x.okS = true) (h2 : y.okS = true) : Th.okS (.seq b [x, y]) = true := by
  simp [Th.okS, Th.okSs, h1, h2]
theorem len_kept (s : List (Int × Int)) : (keptOf s).length ≤ s.length := by
  unfold keptOf
  rw [List.length_map]
  have h := List.length_filter_le (fun o => decide (0 < (getI s o).getD 0)) (srt (s.map (·.1)))
  rw [(srt_perm _).length_eq, List.length_map] at h
  exact h
theorem len_held (p : Int) (ts : List (Int × Int)) : (heldOf p ts).length ≤ ts.length := by
  unfold heldOf
  exact Nat.le_trans (len_kept _) (len_sums p ts)
theorem keys_held (p : Int) (ts : List (Int × Int)) : KeysI (heldOf p ts) := keys_kept (keys_sums p ts)
end Fw
end

section
/-! a head's Hook over facts of one's own -/
namespace Fw
open PySem PySem.Spec PyProof.Rows L2 He
abbrev Fb : Type := PySem.W.Frag → Bool
def obsF (fs : List Fb) (fn : List DefD) (K : PySem.W.Frag) : AlD := ((fs.all fun f => f K) && fn.all fun d => d.ok K, fn.map fun d => fnW K d.at_)
def SaysF (fs : List Fb) (fn : List DefD) (K : PySem.W.Frag) : Prop := obsF fs fn K = valD fn
def obsFG (n : Nat) (fs : List Fb) (fn : List DefD) (g : Addr → Option Obj) : AlD := obsF fs fn (frG g (cStatics :: asD g n))
def hookF (n : Nat) (fs : List Fb) (fn : List DefD) : PySem.W.Hook where
  α := AlD
  obs := fun s => obsFG n fs fn s.heap.get?
  val := fun _ => valD fn
  says := fun _ h => ∃ K : PySem.W.Frag, K.In h ∧ SaysF fs fn K
  of := fun _ _ e => ⟨_, frG_in, e⟩
  keeps := fun _ _ _ ⟨K, hK, c⟩ k => ⟨K, PySem.W.Frag.In.keeps hK k, c⟩
theorem obsFG_eq {n : Nat} {fs : List Fb} {fn : List DefD} {g : Addr → Option Obj} {s : Shared} (h : ∀ a, g a = s.heap.get? a) : obsFG n fs fn g = (hookF n fs fn).obs s := by
  have e : g = s.heap.get? := funext h
  rw [e] <;> rfl
theorem SaysF.fact {fs : List Fb} {fn : List DefD} {K : PySem.W.Frag} (c : SaysF fs fn K) (i : Nat) {f : Fb} (h : fs[i]? = some f := by rfl) : f K = true := by
  have c1 := (ba (show ((fs.all fun f => f K) && fn.all fun d => d.ok K) = true from congrArg (fun z : AlD => z.1) c)).1
  exact List.all_eq_true.mp c1 f (List.mem_of_getElem? h)
theorem SaysF.def_ {fs : List Fb} {fn : List DefD} {K : PySem.W.Frag} (c : SaysF fs fn K) (i : Nat) {d : DefD} (h : fn[i]? = some d := by rfl) : ∃ fd, FunD K d.name d.qual d.params d.body d.scope (d.dvs K) (d.kws K) (fAd K d.at_) fd := by
  have c2 := (ba (show ((fs.all fun f => f K) && fn.all fun d => d.ok K) = true from congrArg (fun z : AlD => z.1) c)).2
  have e : fn.map (fun d => fnW K d.at_) = fn.map DefD.val := congrArg (fun z : AlD => z.2) c
  have e2 : (fn.map fun d => fnW K d.at_)[i]? = (fn.map DefD.val)[i]? := by rw [e]
  rw [List.getElem?_map, List.getElem?_map, h] at e2
  exact DefD.funD (Option.some.inj e2) (List.all_eq_true.mp c2 d (List.mem_of_getElem? h))
/-! facts -/
def oexB (K : PySem.W.Frag) (C : Addr) : Bool := (match K.lookup C with
  | some ⟨.type "type", _, .cls cd, sl⟩ => (match cd.mro, sl.toList with
    | .ref C' :: bm, [_, _, _, _, some (.builtin n), _] => C' == C && (n == "ValueError.__new__" && (!cd.hasDel && (cd.hasDict && PySem.HandSPX.refsVE bm)))
    | _, _ => false)
  | _ => false) && (eqO (PySem.W.findIn K (.ref C) "__setattr__") (some (some (.builtin "object.__setattr__"))) && (decide (PySem.W.subIn K (.ref C) (.type "BaseException") = some true) && (decide (PySem.W.typeIn K (.ref C) = some (.type "type")) && PySem.W.keepIn K (.ref C))))
theorem oexB_ok {K : PySem.W.Frag} {C : Addr} (h : oexB K C = true) : OexC K C := by
  obtain ⟨h1, h⟩ := ba h
  obtain ⟨h2, h⟩ := ba h
  obtain ⟨h3, h⟩ := ba h
  obtain ⟨h4, h5⟩ := ba h
  refine ⟨?_, eqO_ok h2, of_decide_eq_true h3, of_decide_eq_true h4, h5⟩
  split at h1
  · rename_i dd cd sl ho
    split at h1
    · rename_i C' bm k0 k1 k2 k3 n k5 hm hs
      obtain ⟨q1, q⟩ := ba h1
      obtain ⟨q2, q⟩ := ba q
      obtain ⟨q3, q⟩ := ba q
      obtain ⟨q4, q5⟩ := ba q
      have e1 := eq_of_beq q1
      have e2 := eq_of_beq q2
      subst e1 e2
      obtain ⟨nm, bs, mro, ns, qn, hd, sn, sub, ab, col, del⟩ := cd
      dsimp only at hm q3 q4
      have q3 : del = false := by cases del <;> first | rfl | cases q3
      subst hm q3 q4
      have hsl : sl = #[k0, k1, k2, k3, some (.builtin "ValueError.__new__"), k5] := by
        obtain ⟨l⟩ := sl
        simp only at hs
        rw [hs]
      subst hsl
      exact ⟨nm, qn, ns, bs, bm, sn, sub, ab, col, dd, k0, k1, k2, k3, k5, ho, q5⟩
    · cases h1
  · cases h1
def baseB (K : PySem.W.Frag) (B : Addr) : Bool := PySem.W.readsIn K B (.type "type") && (eqO (PySem.W.specialIn K (.ref B) "__getattribute__") (some (some (.builtin "type.__getattribute__"))) && (match PySem.W.findCls K (.ref B) (.type "type") "__init__" with
  | some (.val (.builtin n)) => n == "ValueError.__init__"
  | _ => false))
theorem baseB_ok {K : PySem.W.Frag} {B : Addr} (h : baseB K B = true) : BaseI K B := by
  obtain ⟨h1, h⟩ := ba h
  obtain ⟨h2, h3⟩ := ba h
  refine ⟨h1, eqO_ok h2, ?_⟩
  split at h3
  · rename_i n hn
    rw [hn, eq_of_beq h3]
  · cases h3
def ownB (K : PySem.W.Frag) (x : Str) : Bool := (Fa.cls x).ok K && (eqO (PySem.W.findIn K (.ref (ga K x)) "__class__") (some (some (.builtin "object.__class__"))) && (eqO (PySem.W.specialIn K (.builtin "object.__class__") "__get__") (some (some (.builtin "getset_descriptor.__get__"))) &&
  (decide (PySem.W.takesIn K (.builtin "object.__class__") = some true) && (decide (PySem.W.mroIn K (ga K x) (.type "object") = some true) && (decide (PySem.W.kitOne K (.ref (ga K x)) (.type "int") = some false) && (decide (PySem.W.kitOne K (.ref (ga K x)) (.type "bool") = some false) &&
  (decide (PySem.W.kitOne K (.ref (ga K x)) (.type "str") = some false) && (decide (PySem.W.kitOne K (.ref (ga K x)) (.type "list") = some false) && decide (PySem.W.kitOne K (.ref (ga K x)) (.type "tuple") = some false)))))))))
theorem ownB_ok {K : PySem.W.Frag} {x : Str} (h : ownB K x = true) : OwnI K (ga K x) := by
  obtain ⟨h1, h⟩ := ba h
  obtain ⟨h2, h⟩ := ba h
  obtain ⟨h3, h⟩ := ba h
  obtain ⟨h4, h⟩ := ba h
  obtain ⟨h5, h⟩ := ba h
  obtain ⟨h6, h⟩ := ba h
  obtain ⟨h7, h⟩ := ba h
  obtain ⟨h8, h⟩ := ba h
  obtain ⟨h9, h10⟩ := ba h
  exact ⟨cls_ok h1, eqO_ok h2, eqO_ok h3, of_decide_eq_true h4, of_decide_eq_true h5, of_decide_eq_true h6, of_decide_eq_true h7, of_decide_eq_true h8, of_decide_eq_true h9, of_decide_eq_true h10⟩
def tupAt (K : PySem.W.Frag) (a : Addr) (vs : List Dv) : Bool := match K.lookup a with
  | some ⟨.type c, _, .seq its _, _⟩ => decide (c = "tuple") && (decide (its.size ≤ sizeLine) && relAll (vs.map (Dv.v K)) its.toList)
  | _ => false
theorem tupAt_ok {K : PySem.W.Frag} {a : Addr} {vs : List Dv} (h : tupAt K a vs = true) (H : Hp) : SqT K H a (vs.map (Dv.v K)) := by
  unfold tupAt at h
  split at h
  · rename_i c dd its n sl q
    obtain ⟨h1, h2⟩ := ba h
    obtain ⟨h3, h4⟩ := ba h2
    exact .inr ⟨_, its, n, q, congrArg Value.type (of_decide_eq_true h1), rfl, of_decide_eq_true h3, relAll_ok h4⟩
  · cases h
end Fw
namespace Fw
open PySem PySem.Spec PyProof.Rows L2 He
theorem metB_ok {K : PySem.W.Frag} {x m : Str} (c : (Fa.meth x m).ok K = true) : PySem.W.findIn K (.ref (ga K x)) m = some (some (.ref (ma K (ga K x) m))) ∧ PySem.W.typeIn K (.ref (ma K (ga K x) m)) = some (.type "function") := by
  obtain ⟨c1, c⟩ := ba c
  obtain ⟨c2, _⟩ := ba c
  exact ⟨eqO_ok c1, beq_iff_eq.mp c2⟩
theorem Cn.whole {H : Hp} : Cn H M0 H := ⟨fun _ _ h => .inl h, fun _ _ h => (by cases h), fun _ h => absurd rfl h, fun _ _ h => (by cases h), fun _ _ h => (by cases h)⟩
theorem al_script {F : Hp} : ∀ ns : List Int, Al F (ns.map fun i => pI i) (ns.map V.int)
  | [] => .nil
  | n :: ns => .cons rfl (al_script ns)
end Fw
end

section
open PySem L2 Fw
local macro_rules | `(tactic| walk_at "ex") => `(tactic| first | exact Ex.refl _ | assumption | (refine' Ex.trans (by assumption) ?_; walk_at "ex"))
local macro_rules | `(tactic| walk_at "fa") => `(tactic| first | assumption | exact ⟨rfl⟩ | (refine' Kn.up (by assumption) ?_; walk_at "ex"))
local macro_rules | `(tactic| walk_at "en1") => `(tactic| first
  | with_reducible exact Ent.refl
  | with_reducible exact Ent.lq
  | with_reducible exact Ent.tt
  | with_reducible exact pKv_kd
  | with_reducible exact kd_int
  | with_reducible exact kd_th _
  | with_reducible exact tv_th
  | with_reducible exact kd_pSq
  | with_reducible exact kd_bl
  | with_reducible exact kd_str
  | with_reducible exact kd_non
  | with_reducible exact kd_pL
  | with_reducible exact kd_pQ
  | with_reducible exact kd_pT
  | with_reducible exact kd_pTt
  | with_reducible exact kd_pDk
  | with_reducible exact Ent.any)
local macro_rules | `(tactic| walk_at "en") => `(tactic| first
  | walk_at "en1"
  | ((with_reducible apply Ent.var); walk_at "fa"; infer_instance)
  | ((with_reducible apply Ent.trans); (with_reducible apply Ent.var); walk_at "fa"; infer_instance; walk_at "en1"))
local macro_rules | `(tactic| walk_at "ens") => `(tactic| first | exact True.intro | (apply And.intro; walk_at "en"; walk_at "ens"))
local macro_rules | `(tactic| walk_at "rv") => `(tactic| first
  | with_reducible exact rv_I0
  | with_reducible exact rv_eq rfl
  | with_reducible exact rv_ne rfl
  | with_reducible exact rv_isBl
  | with_reducible exact rv_eqB rfl
  | ((with_reducible apply rv_ixB); walk_at "en"; rfl)
  | ((with_reducible apply rv_ixL); walk_at "en"; rfl)
  | ((with_reducible apply rv_ixT); walk_at "en"; rfl)
  | ((with_reducible apply rv_ixM); assumption; rfl)
  | ((with_reducible apply rv_cat); walk_at "en"; walk_at "en"; exact Nat.le_of_ble_eq_true rfl; infer_instance; infer_instance)
  | ((with_reducible apply rv_I); walk_at "sc"))
local macro_rules | `(tactic| walk_at "th") => `(tactic| first
  | with_reducible exact et_non
  | with_reducible exact et_int
  | with_reducible exact et_bl
  | with_reducible exact et_str
  | with_reducible exact et_dic
  | ((with_reducible apply et_tup); walk_at "ths")
  | ((with_reducible apply et_lst); walk_at "ths"))
local macro_rules | `(tactic| walk_at "ths") => `(tactic| first | exact True.intro | (apply And.intro; walk_at "th"; walk_at "ths"))
local macro_rules | `(tactic| walk_at "sc") => `(tactic| first | assumption | decide | omega | exact Or.inr ⟨by omega, by omega⟩ | exact Or.inl ⟨by omega, by omega⟩ | exact ⟨by omega, by omega⟩ | exact ⟨by omega, by omega, by omega⟩)
local macro_rules | `(tactic| walk_at "rc") => `(tactic| first
  | with_reducible exact rc_int1
  | with_reducible exact rc_bool1
  | ((with_reducible apply rc_isInt); walk_at "en")
  | ((with_reducible apply rc_isBool); walk_at "en")
  | ((with_reducible apply rc_isStr); walk_at "en")
  | ((with_reducible apply rc_isList); walk_at "en")
  | ((with_reducible apply rc_isTuple); walk_at "en")
  | ((with_reducible apply rc_isSeq); walk_at "en")
  | ((with_reducible apply rc_isIsl); walk_at "en")
  | ((with_reducible apply rc_lenL); walk_at "en")
  | ((with_reducible apply rc_lenT); walk_at "en")
  | ((with_reducible apply rc_lenB); walk_at "en"))
local macro_rules | `(tactic| walk_at "ev") => `(tactic| first
  | ((with_reducible apply ev_varV); rfl)
  | with_reducible exact ev_c
  | with_reducible exact ev_dnew
  | with_reducible exact ev_disp1
  | ((with_reducible apply ev_un); walk_at "ev"; exact ru_neg)
  | ((with_reducible apply ev_op); walk_at "ev"; walk_at "ev"; walk_at "rv"; infer_instance)
  | ((with_reducible apply ev_cb); walk_at "ea"; walk_at "rc")
  | ((with_reducible apply ev_andV); walk_at "ev"; (intro _; walk_at "ev"))
  | ((with_reducible apply ev_orV); walk_at "ev"; (intro _; walk_at "ev"))
  | ((with_reducible apply ev_notV); walk_at "ev")
  | ((with_reducible apply ev_tup); walk_at "ea"; exact Nat.le_of_ble_eq_true rfl; infer_instance)
  | ((with_reducible apply ev_lst); walk_at "ea"; exact Nat.le_of_ble_eq_true rfl; infer_instance))
local macro_rules | `(tactic| walk_at "ea") => `(tactic| first
  | with_reducible exact ea_nil
  | ((with_reducible apply ea_cons); walk_at "ev"; walk_at "ea"; infer_instance))
local macro_rules | `(tactic| walk_at "et") => `(tactic| first
  | ((with_reducible apply et_test); walk_at "ev")
  | ((with_reducible apply et_B); walk_at "ev")
  | ((with_reducible apply et_and); walk_at "et"; (intro _; walk_at "et"))
  | ((with_reducible apply et_or); walk_at "et"; (intro _; walk_at "et"))
  | ((with_reducible apply et_not); walk_at "et")
  | with_reducible exact et_yes)
local macro_rules | `(tactic| walk_at "dv") => `(tactic| first | exact .nil | assumption)
local macro_rules | `(tactic| walk_at "sd") => `(tactic| first | trivial | assumption | exact ⟨by assumption, by (first | omega | (dsimp only [MM.add]; omega)), by omega, by omega⟩ | exact ⟨by assumption, by (first | omega | (dsimp only [MM.add]; omega))⟩)
namespace Pk
def top (i : Nat) : Stmt := PySem.Challenge.pw_seenrows_k02_filters_refused.main.body.getD i (.Pass ⟨0, 0, 0, 0⟩)
structure Txt (K : PySem.W.Frag) (mg : Str → Option Value) : Prop where
  b_SeenError : BaseI K (He.ga K "SeenError")
  cl_Filter : Cls K (He.ga K "Filter")
  g_BadPrime : mg "BadPrime" = some (.ref (He.ga K "BadPrime"))
  g_BadTerm : mg "BadTerm" = some (.ref (He.ga K "BadTerm"))
  g_PRIMES : mg "PRIMES" = some (.ref (He.ga K "PRIMES"))
  g_SeenError : mg "SeenError" = some (.ref (He.ga K "SeenError"))
  n_all : mg "all" = none
  n_bool : mg "bool" = none
  n_dict : mg "dict" = none
  n_enumerate : mg "enumerate" = none
  n_int : mg "int" = none
  n_isinstance : mg "isinstance" = none
  n_len : mg "len" = none
  n_list : mg "list" = none
  n_range : mg "range" = none
  n_sorted : mg "sorted" = none
  n_tuple : mg "tuple" = none
  n_zip : mg "zip" = none
  na_Filter_held : NoAttr K (He.ga K "Filter") "held"
  na_Filter_kept : NoAttr K (He.ga K "Filter") "kept"
  na_Filter_prime : NoAttr K (He.ga K "Filter") "prime"
  nf_BadPrime_prime : PySem.W.findIn K (.ref (He.ga K "BadPrime")) "prime" = some none
  nf_BadTerm_index : PySem.W.findIn K (.ref (He.ga K "BadTerm")) "index" = some none
  oe_BadPrime : OexC K (He.ga K "BadPrime")
  oe_BadTerm : OexC K (He.ga K "BadTerm")
  own_Filter : OwnI K (He.ga K "Filter")
  q_PRIMES : ∀ F, SqT K F (He.ga K "PRIMES") [.int 2, .int 3, .int 5, .int 7]
  xf_BadPrime : XfC K (He.ga K "BadPrime")
  xf_BadTerm : XfC K (He.ga K "BadTerm")
  xmf_BadTerm_BadPrime : PySem.W.exmOne K (.ref (He.ga K "BadTerm")) (.ref (He.ga K "BadPrime")) = some false
  xmt_BadPrime_BadPrime : PySem.W.exmOne K (.ref (He.ga K "BadPrime")) (.ref (He.ga K "BadPrime")) = some true
  xmt_BadTerm_BadTerm : PySem.W.exmOne K (.ref (He.ga K "BadTerm")) (.ref (He.ga K "BadTerm")) = some true
abbrev c_is_integer (K : PySem.W.Frag) : Con := ⟨(DK), fun k => [pKd K k], fun k M => True, fun k => pB (k.isInt && !k.isBl), fun k => 0⟩
theorem ev_is_integer {K : PySem.W.Frag} {σ : L2.St} {F : Hp} {M M1 : MM} {tA_ : TA} {As_ Ds_ : List VP} {dvs : List V} {E : XK} (k : DK) (h : EvAM tA_ σ F M M1 As_) (hd : Al F Ds_ dvs) (he : Ents F (As_ ++ Ds_) [pKd K k]) (hs : True) (hm : Monos Ds_) : EvM (tCall (c_is_integer K).sp dvs E tA_) σ F M M1 (pB (k.isInt && !k.isBl)) := ev_callD (c_is_integer K) k h hd he hs hm
theorem evh_is_integer {K : PySem.W.Frag} {σ : L2.St} {F : Hp} {M : MM} {tA_ : TA} {As_ : List VP} {E : L2.St → XK} (k : DK) (h : EvA tA_ σ F M As_) (he : Ents F As_ [pKd K k]) (hs : True) : EvD (tCallS (c_is_integer K).sp E tA_) σ F M (pB (k.isInt && !k.isBl)) := ev_callH (c_is_integer K) k h he hs
abbrev c_is_list (K : PySem.W.Frag) : Con := ⟨(DK), fun k => [pKd K k], fun k M => True, fun k => pB k.isSeq, fun k => 0⟩
theorem ev_is_list {K : PySem.W.Frag} {σ : L2.St} {F : Hp} {M M1 : MM} {tA_ : TA} {As_ Ds_ : List VP} {dvs : List V} {E : XK} (k : DK) (h : EvAM tA_ σ F M M1 As_) (hd : Al F Ds_ dvs) (he : Ents F (As_ ++ Ds_) [pKd K k]) (hs : True) (hm : Monos Ds_) : EvM (tCall (c_is_list K).sp dvs E tA_) σ F M M1 (pB k.isSeq) := ev_callD (c_is_list K) k h hd he hs hm
theorem evh_is_list {K : PySem.W.Frag} {σ : L2.St} {F : Hp} {M : MM} {tA_ : TA} {As_ : List VP} {E : L2.St → XK} (k : DK) (h : EvA tA_ σ F M As_) (he : Ents F As_ [pKd K k]) (hs : True) : EvD (tCallS (c_is_list K).sp E tA_) σ F M (pB k.isSeq) := ev_callH (c_is_list K) k h he hs
abbrev c_is_prime (K : PySem.W.Frag) : Con := ⟨(Th), fun t => [pTh K t], fun t M => True, fun t => pB t.isPrime, fun t => 0⟩
theorem ev_is_prime {K : PySem.W.Frag} {σ : L2.St} {F : Hp} {M M1 : MM} {tA_ : TA} {As_ Ds_ : List VP} {dvs : List V} {E : XK} (t : Th) (h : EvAM tA_ σ F M M1 As_) (hd : Al F Ds_ dvs) (he : Ents F (As_ ++ Ds_) [pTh K t]) (hs : True) (hm : Monos Ds_) : EvM (tCall (c_is_prime K).sp dvs E tA_) σ F M M1 (pB t.isPrime) := ev_callD (c_is_prime K) t h hd he hs hm
theorem evh_is_prime {K : PySem.W.Frag} {σ : L2.St} {F : Hp} {M : MM} {tA_ : TA} {As_ : List VP} {E : L2.St → XK} (t : Th) (h : EvA tA_ σ F M As_) (he : Ents F As_ [pTh K t]) (hs : True) : EvD (tCallS (c_is_prime K).sp E tA_) σ F M (pB t.isPrime) := ev_callH (c_is_prime K) t h he hs
abbrev c_is_term (K : PySem.W.Frag) : Con := ⟨(Th), fun t => [pTh K t], fun t M => True, fun t => pB t.isTerm, fun t => 0⟩
theorem ev_is_term {K : PySem.W.Frag} {σ : L2.St} {F : Hp} {M M1 : MM} {tA_ : TA} {As_ Ds_ : List VP} {dvs : List V} {E : XK} (t : Th) (h : EvAM tA_ σ F M M1 As_) (hd : Al F Ds_ dvs) (he : Ents F (As_ ++ Ds_) [pTh K t]) (hs : True) (hm : Monos Ds_) : EvM (tCall (c_is_term K).sp dvs E tA_) σ F M M1 (pB t.isTerm) := ev_callD (c_is_term K) t h hd he hs hm
theorem evh_is_term {K : PySem.W.Frag} {σ : L2.St} {F : Hp} {M : MM} {tA_ : TA} {As_ : List VP} {E : L2.St → XK} (t : Th) (h : EvA tA_ σ F M As_) (he : Ents F As_ [pTh K t]) (hs : True) : EvD (tCallS (c_is_term K).sp E tA_) σ F M (pB t.isTerm) := ev_callH (c_is_term K) t h he hs
def Th.len : Th → Nat
  | .seq _ ts => ts.length
  | _ => 0
abbrev c_Filter_dinit (K : PySem.W.Frag) : IniX := ⟨(Th) × (V) × (Th), fun z => [pTv K z.1 z.2.1, pTh K z.2.2], fun z M => Th.len z.2.2 ≤ 50000, fun z => outF K z.1 z.2.1 z.2.2⟩
theorem ev_Filter_dinit {E : L2.St → XK} {res : Hp → List (Str × V) → Prop} {K : PySem.W.Frag} {σ : L2.St} {F : Hp} {M M1 : MM} {tA_ : TA} {As_ Ds_ : List VP} {dvs : List V} (tp : Th) (vp : V) (tt : Th) (h : EvAM tA_ σ F M M1 As_) (hd : Al F Ds_ dvs) (he : Ents F (As_ ++ Ds_) [pTv K tp vp, pTh K tt]) (hs : Th.len tt ≤ 50000) (hm : Monos Ds_) (ho : (outF K tp vp tt) = OutI.ok res) (hr : ∀ F F' fs, Ex F F' → res F fs → res F' fs) : EvM (tMakeSD (He.ga K "Filter") ((c_Filter_dinit K).sp (He.ga K "Filter")) dvs E tA_) σ F M M1 (pIns (He.ga K "Filter") res) := ev_makeX (c_Filter_dinit K) (tp, vp, tt) h hd he hs ho hr hm
theorem er_Filter_dinit {W : WX} {D : Addr} {f : Str} {R : VP} {K : PySem.W.Frag} {σ : L2.St} {F : Hp} {M M1 : MM} {tA_ : TA} {As_ Ds_ : List VP} {dvs : List V} (tp : Th) (vp : V) (tt : Th) (h : EvAM tA_ σ F M M1 As_) (hd : Al F Ds_ dvs) (he : Ents F (As_ ++ Ds_) [pTv K tp vp, pTh K tt]) (hs : Th.len tt ≤ 50000) (hm : Monos Ds_) (ho : (outF K tp vp tt) = OutI.ex D f R) : EvR (tMakeSD (He.ga K "Filter") ((c_Filter_dinit K).sp (He.ga K "Filter")) dvs (WE W) tA_) W σ F M M1 D f R := er_makeX (c_Filter_dinit K) (tp, vp, tt) h hd he hs ho hm
section
variable {P : Program} {w : World} {K : PySem.W.Frag} {mg : Str → Option Value} {base : Heap} {dF : Addr}
abbrev s_BadPrime_dinit : Stmt := inClass (top 8) 0
theorem sc_BadPrime_dinit : FnScope ["self", "prime"] ["self", "prime"] (defScope s_BadPrime_dinit) := ⟨rfl, rfl, rfl, by decide +kernel, rfl, by decide +kernel, by decide +kernel⟩
theorem ok_BadPrime_dinit {f : Addr} {fd : FuncData} (D : FunD K "__init__" "BadPrime.__init__" (defArgs s_BadPrime_dinit) (defBody s_BadPrime_dinit) (defScope s_BadPrime_dinit) [] [] f fd) (T : Txt K mg) : FnOk P w K mg base CX0 1 f fd ["self", "prime"] (spX1 (He.ga K "BadPrime") "prime") := by
  refine D.ok sc_BadPrime_dinit (fun vs H Q E h => by obtain ⟨a, v, rfl, -, -⟩ := h; rfl) (fun cdv A outer s H vs Q E hr h => ⟨_, (pss_cons (ps_expr (pe_baseinit (by rfl) T.g_SeenError T.b_SeenError (pa_cons (pv 0) (pa_cons pe_str pa_nil)))) (pss_one (ps_ost (pv 0) (pv 1)))), rd_exc1 rfl h T.oe_BadPrime T.nf_BadPrime_prime⟩)
abbrev s_BadTerm_dinit : Stmt := inClass (top 9) 0
theorem sc_BadTerm_dinit : FnScope ["self", "index"] ["self", "index"] (defScope s_BadTerm_dinit) := ⟨rfl, rfl, rfl, by decide +kernel, rfl, by decide +kernel, by decide +kernel⟩
theorem ok_BadTerm_dinit {f : Addr} {fd : FuncData} (D : FunD K "__init__" "BadTerm.__init__" (defArgs s_BadTerm_dinit) (defBody s_BadTerm_dinit) (defScope s_BadTerm_dinit) [] [] f fd) (T : Txt K mg) : FnOk P w K mg base CX0 1 f fd ["self", "index"] (spX1 (He.ga K "BadTerm") "index") := by
  refine D.ok sc_BadTerm_dinit (fun vs H Q E h => by obtain ⟨a, v, rfl, -, -⟩ := h; rfl) (fun cdv A outer s H vs Q E hr h => ⟨_, (pss_cons (ps_expr (pe_baseinit (by rfl) T.g_SeenError T.b_SeenError (pa_cons (pv 0) (pa_cons pe_str pa_nil)))) (pss_one (ps_ost (pv 0) (pv 1)))), rd_exc1 rfl h T.oe_BadTerm T.nf_BadTerm_index⟩)
abbrev s_is_integer : Stmt := top 2
theorem sc_is_integer : FnScope ["thing"] ["thing"] (defScope s_is_integer) := ⟨rfl, rfl, rfl, by decide +kernel, rfl, by decide +kernel, by decide +kernel⟩
section
theorem ok_is_integer {f : Addr} {fd : FuncData} (D : FunD K "is_integer" "is_integer" (defArgs s_is_integer) (defBody s_is_integer) (defScope s_is_integer) [] [] f fd) (T : Txt K mg) : FnOk P w K mg base CX0 1 f fd ["thing"] ((c_is_integer K).sp) := by
  refine Con.ok _ D sc_is_integer (fun _ => rfl) fun cdv A outer s H E hr => ⟨_, (pss_one (ps_ret (pe_and (pe_callB (call_isi' (K := K) rfl) (by rfl) T.n_isinstance (by decide +kernel) (pa_cons (pv 0) (pa_cons (pe_bltn (v := .ty "int") (by rfl) T.n_int (by decide +kernel) rfl) pa_nil))) (pe_one (pe_not (pe_callB (call_isi' (K := K) rfl) (by rfl) T.n_isinstance (by decide +kernel) (pa_cons (pv 0) (pa_cons (pe_bltn (v := .ty "bool") (by rfl) T.n_bool (by decide +kernel) rfl) pa_nil)))))))), fun F M k vs Q c hv hs q => ?_⟩
  have hv' : Al F [pKd K k] vs := hv
  have hs' : True := hs
  have c : Bx F M H F M H := c
  have q' : ∀ F' H' v', Gr M F H F' H' → (pB (k.isInt && !k.isBl)) F' v' → Q v' H' := q
  clear hv hs q
  obtain ⟨v_thing, rfl, h_thing⟩ := al1 hv'
  clear hv'
  rw [show L2.start ["thing"] [v_thing] = [some v_thing] from rfl]
  apply s_retE c q'
  walk_at "ev"
  exact Ent.refl
end
abbrev s_is_list : Stmt := top 3
theorem sc_is_list : FnScope ["thing"] ["thing"] (defScope s_is_list) := ⟨rfl, rfl, rfl, by decide +kernel, rfl, by decide +kernel, by decide +kernel⟩
section
theorem ok_is_list {f : Addr} {fd : FuncData} (D : FunD K "is_list" "is_list" (defArgs s_is_list) (defBody s_is_list) (defScope s_is_list) [] [] f fd) (T : Txt K mg) : FnOk P w K mg base CX0 1 f fd ["thing"] ((c_is_list K).sp) := by
  refine Con.ok _ D sc_is_list (fun _ => rfl) fun cdv A outer s H E hr => ⟨_, (pss_one (ps_ret (pe_callB (call_isiT' (K := K) rfl) (by rfl) T.n_isinstance (by decide +kernel) (pa_cons (pv 0) (pa_cons (pe_tup (pa_cons (pe_bltn (v := .ty "list") (by rfl) T.n_list (by decide +kernel) rfl) (pa_cons (pe_bltn (v := .ty "tuple") (by rfl) T.n_tuple (by decide +kernel) rfl) pa_nil))) pa_nil))))), fun F M k vs Q c hv hs q => ?_⟩
  have hv' : Al F [pKd K k] vs := hv
  have hs' : True := hs
  have c : Bx F M H F M H := c
  have q' : ∀ F' H' v', Gr M F H F' H' → (pB k.isSeq) F' v' → Q v' H' := q
  clear hv hs q
  obtain ⟨v_thing, rfl, h_thing⟩ := al1 hv'
  clear hv'
  rw [show L2.start ["thing"] [v_thing] = [some v_thing] from rfl]
  apply s_retE c q'
  walk_at "ev"
  exact Ent.refl
end
abbrev s_is_prime : Stmt := top 4
theorem sc_is_prime : FnScope ["thing"] ["thing"] (defScope s_is_prime) := ⟨rfl, rfl, rfl, by decide +kernel, rfl, by decide +kernel, by decide +kernel⟩
section
local macro_rules | `(tactic| walk_at "ev") => `(tactic| ((with_reducible apply ev_is_integer); walk_at "ea"; walk_at "dv"; walk_at "ens"; walk_at "sd"; infer_instance))
theorem ok_is_prime {f : Addr} {fd : FuncData} (D : FunD K "is_prime" "is_prime" (defArgs s_is_prime) (defBody s_is_prime) (defScope s_is_prime) [] [] f fd) (T : Txt K mg) (h_is_integer : Cal P w K mg base 1 "is_integer" ["thing"] (c_is_integer K).sp) : FnOk P w K mg base CX0 2 f fd ["thing"] ((c_is_prime K).sp) := by
  refine Con.ok _ D sc_is_prime (fun _ => rfl) fun cdv A outer s H E hr => ⟨_, (pss_one (ps_ret (pe_and (pe_callC h_is_integer (hr.mono (by omega)) (by rfl) (pa_cons (pv 0) pa_nil)) (pe_one (pe_cmpR (op_in' (K := K) rfl) (pv 0) (pe_glob (v := .ref (He.ga K "PRIMES")) (by rfl) T.g_PRIMES rfl) (by rfl)))))), fun F M t vs Q c hv hs q => ?_⟩
  have hv' : Al F [pTh K t] vs := hv
  have hs' : True := hs
  have c : Bx F M H F M H := c
  have q' : ∀ F' H' v', Gr M F H F' H' → (pB t.isPrime) F' v' → Q v' H' := q
  clear hv hs q
  obtain ⟨v_thing, rfl, h_thing⟩ := al1 hv'
  clear hv'
  rw [show L2.start ["thing"] [v_thing] = [some v_thing] from rfl]
  refine s_retE c q' (R := pB ((t.kd.isInt && !t.kd.isBl) && t.isPrime)) (ev_andV (by walk_at "ev") fun z => ?_) (Ent.eq ?_)
  · cases t with
    | int i =>
      have h2 := h_thing.h
      rw [th_int] at h2
      cases h2
      exact ev_op (ev_varV rfl) ev_c (rv_inT (ent_cT T.q_PRIMES) rfl rfl) inferInstance
    | seq b xs => cases b <;> cases z
    | _ => cases z
  · cases t with
    | seq b xs => cases b <;> rfl
    | _ => rfl
end
abbrev s_is_term : Stmt := top 20
theorem sc_is_term : FnScope ["thing"] ["thing"] (defScope s_is_term) := ⟨rfl, rfl, rfl, by decide +kernel, rfl, by decide +kernel, by decide +kernel⟩
section
local macro_rules | `(tactic| walk_at "ev") => `(tactic| ((with_reducible apply ev_is_integer); walk_at "ea"; walk_at "dv"; walk_at "ens"; walk_at "sd"; infer_instance))
local macro_rules | `(tactic| walk_at "ev") => `(tactic| ((with_reducible apply ev_is_list); walk_at "ea"; walk_at "dv"; walk_at "ens"; walk_at "sd"; infer_instance))
theorem ok_is_term {f : Addr} {fd : FuncData} (D : FunD K "is_term" "is_term" (defArgs s_is_term) (defBody s_is_term) (defScope s_is_term) [] [] f fd) (T : Txt K mg) (h_is_integer : Cal P w K mg base 1 "is_integer" ["thing"] (c_is_integer K).sp) (h_is_list : Cal P w K mg base 1 "is_list" ["thing"] (c_is_list K).sp) : FnOk P w K mg base CX0 2 f fd ["thing"] ((c_is_term K).sp) := by
  refine Con.ok _ D sc_is_term (fun _ => rfl) fun cdv A outer s H E hr => ⟨_, (pss_one (ps_ret (pe_and (pe_callC h_is_list (hr.mono (by omega)) (by rfl) (pa_cons (pv 0) pa_nil)) (pe_and (pe_cmpR op_eq (pe_callB (call_len' (K := K) rfl) (by rfl) T.n_len PySem.boot_len (pa_cons (pv 0) pa_nil)) pe_int (nomark _)) (pe_and (pe_callC h_is_integer (hr.mono (by omega)) (by rfl) (pa_cons (pe_ix (ix_seqB' (K := K) rfl) (pv 0) pe_int (fun _ _ => rfl)) pa_nil)) (pe_one (pe_callC h_is_integer (hr.mono (by omega)) (by rfl) (pa_cons (pe_ix (ix_seqB' (K := K) rfl) (pv 0) pe_int (fun _ _ => rfl)) pa_nil)))))))), fun F M t vs Q c hv hs q => ?_⟩
  have hv' : Al F [pTh K t] vs := hv
  have hs' : True := hs
  have c : Bx F M H F M H := c
  have q' : ∀ F' H' v', Gr M F H F' H' → (pB t.isTerm) F' v' → Q v' H' := q
  clear hv hs q
  obtain ⟨v_thing, rfl, h_thing⟩ := al1 hv'
  clear hv'
  rw [show L2.start ["thing"] [v_thing] = [some v_thing] from rfl]
  cases t with
  | seq b xs =>
    have hk : Kn (pSq K b (xs.map (pTh K))) F v_thing := ⟨by have h := h_thing.h; rw [pTh_seq] at h; exact h⟩
    by_cases hl : xs.length = 2
    · obtain ⟨x, y, rfl⟩ : ∃ x y, xs = [x, y] := len_two hl
      apply s_retE c q'
      · walk_at "ev"
      · refine Ent.eq (congrArg V.bl ?_)
        rw [isTerm2, kd_isI, kd_isI, sq_isSeq]
        rfl
    · refine s_retE c q' (R := pB (true && (false && true))) (ev_andV (EvM.ent (by walk_at "ev") (Ent.eq (congrArg V.bl (sq_isSeq b)))) fun _ => ev_andV (EvM.ent (by walk_at "ev") (Ent.eq (congrArg V.bl (decide_eq_false fun z => hl ?_)))) fun z => by cases z) (Ent.eq (congrArg V.bl (isTerm_len hl).symm))
      injection z with z
      rw [List.length_map] at z
      omega
  | _ =>
    refine s_retE c q' (R := pB (false && true)) (ev_andV (EvM.ent (by walk_at "ev") (Ent.eq (by rfl))) fun z => by cases z) (Ent.eq rfl)
end
abbrev s_Filter_dinit : Stmt := inClass (top 22) 0
theorem sc_Filter_dinit : FnScope ["self", "prime", "terms", "sums", "index", "term", "offsets", "offset"] ["self", "prime", "terms"] (defScope s_Filter_dinit) := ⟨rfl, rfl, rfl, by decide +kernel, rfl, by decide +kernel, by decide +kernel⟩
section
local macro_rules | `(tactic| walk_at "ev") => `(tactic| ((with_reducible apply ev_is_term); walk_at "ea"; walk_at "dv"; walk_at "ens"; walk_at "sd"; infer_instance))
local macro_rules | `(tactic| walk_at "ev") => `(tactic| ((with_reducible apply ev_x_BadTerm); walk_at "ea"; walk_at "dv"; walk_at "ens"; walk_at "sd"; infer_instance))
local macro_rules | `(tactic| walk_at "ev") => `(tactic| ((with_reducible apply ev_is_list); walk_at "ea"; walk_at "dv"; walk_at "ens"; walk_at "sd"; infer_instance))
local macro_rules | `(tactic| walk_at "ev") => `(tactic| ((with_reducible apply ev_is_prime); walk_at "ea"; walk_at "dv"; walk_at "ens"; walk_at "sd"; infer_instance))
local macro_rules | `(tactic| walk_at "ev") => `(tactic| ((with_reducible apply ev_x_BadPrime); walk_at "ea"; walk_at "dv"; walk_at "ens"; walk_at "sd"; infer_instance))
theorem ok_Filter_dinit {f : Addr} {fd : FuncData} (D : FunD K "__init__" "Filter.__init__" (defArgs s_Filter_dinit) (defBody s_Filter_dinit) (defScope s_Filter_dinit) [.ref dF] [] f fd) (T : Txt K mg) (h_is_term : Cal P w K mg base 2 "is_term" ["thing"] (c_is_term K).sp) (h_x_BadTerm : CalE P w K mg base 1 "BadTerm" ["self", "index"] (spX1 (He.ga K "BadTerm") "index")) (h_is_list : Cal P w K mg base 1 "is_list" ["thing"] (c_is_list K).sp) (h_is_prime : Cal P w K mg base 2 "is_prime" ["thing"] (c_is_prime K).sp) (h_x_BadPrime : CalE P w K mg base 1 "BadPrime" ["self", "prime"] (spX1 (He.ga K "BadPrime") "prime")) : FnOk P w K mg base (L2N.CX P w) 3 f fd ["self", "prime", "terms"] ((c_Filter_dinit K).sp (He.ga K "Filter")) := by
  refine IniX.ok _ D sc_Filter_dinit (fun _ => rfl) fun cdv A outer s H E hr tk => ⟨_, (pss_cons (ps_if (pt_not (pt_val (pe_callC h_is_prime (hr.mono (by omega)) (by rfl) (pa_cons (pv 1) pa_nil)))) (pss_one (ps_raiseE' (K := K) rfl h_x_BadPrime rfl tk (hr.mono (by omega)) (by rfl) (pa_cons (pv 1) pa_nil))) pss_nil)
      (pss_cons (ps_if (pt_not (pt_val (pe_callC h_is_list (hr.mono (by omega)) (by rfl) (pa_cons (pv 2) pa_nil)))) (pss_one (ps_raiseE' (K := K) rfl h_x_BadTerm rfl tk (hr.mono (by omega)) (by rfl) (pa_cons pe_int pa_nil))) pss_nil)
      (pss_cons (ps_set (i := 3) sc_Filter_dinit.nd rfl (by first | exact Or.inl rfl | exact Or.inr rfl) pe_dnewK)
      (pss_cons (ps_for (passes_of rfl) rfl (pi_enumB' (K := K) rfl (by rfl) T.n_enumerate (pa_cons (pv 2) pa_nil)) (pg_tup' (K := K) (n := 2) rfl rfl (pgs_cons (pg_name (i := 4) sc_Filter_dinit.nd rfl (by first | exact Or.inl rfl | exact Or.inr rfl)) (pgs_cons (pg_name (i := 5) sc_Filter_dinit.nd rfl (by first | exact Or.inl rfl | exact Or.inr rfl)) pgs_nil))) (pss_cons (ps_if (pt_not (pt_val (pe_callC h_is_term (hr.mono (by omega)) (by rfl) (pa_cons (pv 5) pa_nil)))) (pss_one (ps_raiseE' (K := K) rfl h_x_BadTerm rfl tk (hr.mono (by omega)) (by rfl) (pa_cons (pv 4) pa_nil))) pss_nil)
      (pss_one (ps_dput (hu_of hr) (pv 3) (pe_ix (ix_seqB' (K := K) rfl) (pv 5) pe_int (fun _ _ => rfl)) (pe_op op_mod (pe_op op_add (pe_dget2 (hu_of hr) (pv 3) (pe_ix (ix_seqB' (K := K) rfl) (pv 5) pe_int (fun _ _ => rfl)) pe_int ⟨by rfl, by rfl, by rfl, by rfl⟩) (pe_ix (ix_seqB' (K := K) rfl) (pv 5) pe_int (fun _ _ => rfl))) (pv 1)) (by rfl)))))
      (pss_cons (ps_set (i := 6) sc_Filter_dinit.nd rfl (by first | exact Or.inl rfl | exact Or.inr rfl) (pe_callB (cr_sortedI' (K := K) rfl) (by rfl) T.n_sorted (by decide +kernel) (pa_cons (pe_lock (pe_lc (own := [("offset", 7)]) (g := (gName 7)) (tt := tYes) rfl sc_Filter_dinit.nd (pi_keys (pv 3)) (blkOk_by (N := ["self", "prime", "terms", "sums", "index", "term", "offsets", "offset"]) (sc := defScope s_Filter_dinit) (by decide +kernel)) (fun _ _ _ _ _ => (pg_name (i := 7) sc_Filter_dinit.nd rfl (by first | exact Or.inl rfl | exact Or.inr rfl))) (fun _ _ _ _ _ => pts_nil) (fun _ _ _ _ _ => (pe_callTy call_int1 (by rfl) T.n_int (by decide +kernel) (pa_cons (pv 7) pa_nil))))) pa_nil)))
      (pss_cons (ps_fld' (K := K) rfl (pv 0) (pv 1) (by rfl))
      (pss_cons (ps_fld' (K := K) rfl (pv 0) (pe_lc (own := [("offset", 7)]) (g := (gName 7)) rfl sc_Filter_dinit.nd (pi_list' (K := K) rfl (pv 6)) (blkOk_by (N := ["self", "prime", "terms", "sums", "index", "term", "offsets", "offset"]) (sc := defScope s_Filter_dinit) (by decide +kernel)) (fun _ _ _ _ _ => (pg_name (i := 7) sc_Filter_dinit.nd rfl (by first | exact Or.inl rfl | exact Or.inr rfl))) (fun _ _ _ _ _ => (pts_one (pt_cmpR op_gt (pe_dget (hu_of hr) (pv 3) (pv 7) (fun _ _ => rfl)) pe_int (nomark _)))) (fun _ _ _ _ _ => (pe_tup (pa_cons (pv 7) (pa_cons (pe_dget (hu_of hr) (pv 3) (pv 7) (fun _ _ => rfl)) pa_nil))))) (by rfl))
      (pss_one (ps_fld' (K := K) rfl (pv 0) (pe_callTy (call_dictP' (K := K) rfl rfl) (by rfl) T.n_dict (by decide +kernel) (pa_cons (pe_fld' (K := K) rfl (pv 0) (by rfl)) pa_nil)) (by rfl)))))))))), fun F M a vs Q self sd H0 H c c0 hv hs q => ?_⟩
  obtain ⟨tp, vp, tt⟩ := a
  have hv' : Al F [pTv K tp vp, pTh K tt] vs := hv
  have hs' : Th.len tt ≤ 50000 := hs
  have q' : OutIGo (outF K tp vp tt) (He.ga K "Filter") M F H0 self sd Q E := q
  clear hv hs q
  obtain ⟨v_prime, v_terms, rfl, h_prime, h_terms⟩ := al2 hv'
  clear hv'
  rw [show L2.start ["self", "prime", "terms", "sums", "index", "term", "offsets", "offset"] [.ref self, v_prime, v_terms] = [some (.ref self), some v_prime, some v_terms, none, none, none, none, none] from rfl]
  obtain ⟨hv1, hv2⟩ := id h_prime.h
  obtain rfl : v_prime = vp := hv1
  have hT : Kn (pTh K tp) F v_prime := ⟨hv2⟩
  cases hp : tp.isPrime with
  | false =>
    rw [outF_badp hp] at q'
    refine q_when c (et_not (et_is (et_B (by walk_at "ev")) hp)) (fun _ F1 H1 c1 e1 => ?_) (fun z => by cases z)
    exact s_raise1 (R := pV v_prime) c1 (ea_cons (ev_varV rfl) ea_nil inferInstance) inferInstance fun F' H' d v g h1 h2 => q' F' H' d v g h1 h2
  | true =>
    obtain ⟨p, rfl⟩ := prime_int hp
    have hpI := prime_mem hp
    have hvp : v_prime = .int p := by rw [th_int] at hv2; exact hv2
    subst hvp
    refine q_when c (et_not (et_is (et_B (by walk_at "ev")) hp)) (fun z => by cases z) (fun _ F1 H1 c1 e1 => ?_)
    cases hq : tt.isSq with
    | false =>
      rw [outF_nosq hp hq] at q'
      refine q_when c1 (et_not (et_is (et_B (by walk_at "ev")) ((kd_isSq _).trans hq))) (fun _ F2 H2 c2 e2 => ?_) (fun z => by cases z)
      exact s_raise1 (R := pI 0) c2 (ea_cons ev_c ea_nil inferInstance) inferInstance fun F' H' d v g h1 h2 => q' F' H' d v g h1 h2
    | true =>
      cases tt with
      | seq b ts =>
        refine q_when c1 (et_not (et_is (et_B (by walk_at "ev")) ((kd_isSq _).trans hq))) (fun z => by cases z) (fun _ F2 H2 c2 e2 => ?_)
        have ht2 : Kn (pSq K b (ts.map (pTh K))) F2 v_terms := ⟨by
          have h := (h_terms.up (e1.trans e2)).h
          rw [pTh_seq] at h
          exact h⟩
        have hlen : ts.length ≤ 50000 := hs'
        refine q_asgN c2 en_dnew fun F3 H3 M3 d o c3 e3 hm hd0 hdM ho => ?_
        subst ho
        have hmS : M3.f self = some (eqo (.ins (He.ga K "Filter") sd [])) := hm.keepN hdM mput_same
        have hmD : M3.f d = some (eqo (.dK (toK []))) := hm.at_
        have ne : self ≠ d := ne_mf hmS hmD (fun z => by cases z)
        refine q_for2 (K := K) ts.zipIdx (fun a => pI (a.2 : Int)) (fun a => pTh K a.1) (Z := (ts.map (pTh K)).mapIdx fun i R => pTt [pI (i : Int), R])
          (fun i σ1 F1 M1 => M1.f d = some (eqo (.dK (toK (sumsOf p (prs (ts.take i)))))) ∧ M1.f self = some (eqo (.ins (He.ga K "Filter") sd [])) ∧ M1.l = M3.l ∧ (∀ (j : Nat) u, j < i → ts[j]? = some u → u.isTerm = true) ∧ ∃ a4 a5, σ1 = [some (.ref self), some (.int p), some v_terms, some (.ref d), a4, a5, none, none])
          c3 (wk_enumB (ea_cons (ev_varV rfl) ea_nil inferInstance) (Ent.var (ht2.up e3) inferInstance) inferInstance) (by simp) (fun i a S F1 ha hS _ => ?_) (fun F1 _ => ⟨hmD, hmS, rfl, fun j u hj => absurd hj (Nat.not_lt_zero _), none, none, rfl⟩) (fun i σ1 F1 F2 M1 _ h => h) ?_ ?_
        · rw [List.getElem?_zipIdx] at ha
          rw [List.getElem?_mapIdx, List.getElem?_map] at hS
          cases z : ts[i]? with
          | none => rw [z] at ha; cases ha
          | some t =>
            rw [z] at ha hS
            cases ha
            cases hS
            simp only [Nat.zero_add]
            exact Ent.tt
        · intro F' e' i a x y σ1 F4 M4 H4 ha e4 c4 hI hx hy
          obtain ⟨hD, hS, hl4, hg, a4, a5, rfl⟩ := hI
          rw [List.getElem?_zipIdx] at ha
          cases z : ts[i]? with
          | none => rw [z] at ha; cases ha
          | some t =>
            rw [z] at ha
            cases ha
            simp only [Nat.zero_add] at hx hy ⊢
            have hx' : x = .int (i : Int) := hx.h
            subst hx'
            have hy : Kn (pTh K t) F4 y := hy
            show tSeq _ _ _ [some (.ref self), some (.int p), some v_terms, some (.ref d), some (.int (i : Int)), some y, none, none] H4
            cases htm : t.isTerm with
            | false =>
              rw [outF_bad hp (firstBad_at hg z htm)] at q'
              refine q_when c4 (et_not (et_is (et_B (by walk_at "ev")) htm)) (fun _ F5 H5 c5 e5 => ?_) (fun z => by cases z)
              exact s_raise1 (R := pI (i : Int)) c5 (ea_cons (ev_varV rfl) ea_nil inferInstance) inferInstance fun F' H' d v g h1 h2 => q' F' H' d v g h1 h2
            | true =>
              refine q_when c4 (et_not (et_is (et_B (by walk_at "ev")) htm)) (fun z => by cases z) (fun _ F5 H5 c5 e5 => ?_)
              obtain ⟨bt, x1, y1, rfl⟩ := isTerm_pr htm
              have hk : Kn (pSq K bt [pI x1, pI y1]) F5 y := ⟨by
                have h := (hy.up e5).h
                rw [pTh_seq] at h
                simpa [th_int] using h⟩
              have hlen2 : (toK (sumsOf p (prs (ts.take i)))).length < 100000 := by
                have h1 := len_sums p (prs (ts.take i))
                have h2 : (prs (ts.take i)).length ≤ (ts.take i).length := List.length_filterMap_le _ _
                rw [List.length_take] at h2
                rw [toK_len]
                omega
              refine s_dput (k := .inl x1) (R := pI (((getI (sumsOf p (prs (ts.take i))) x1).getD 0 + y1) % p)) c5 hD hd0 hlen2
                (ev_op (ev_op (ev_dget2I (ev_varV rfl) (ev_op (ev_varV rfl) ev_c (rv_ixB (Ent.var hk inferInstance) rfl) inferInstance) ev_c (.inr hD)) (ev_op (ev_varV rfl) ev_c (rv_ixB (Ent.var hk inferInstance) rfl) inferInstance) rv_I0 inferInstance) (ev_varV rfl) (rv_I (by omega)) inferInstance)
                (ev_varV rfl) (ev_op (ev_varV rfl) ev_c (rv_ixB (Ent.var hk inferInstance) rfl) inferInstance) inferInstance fun F6 H6 M6 v c6 e6 hm6 hv => ?_
              obtain rfl : v = _ := hv.h
              refine ⟨F6, M6, c6, e4.trans (e5.trans e6), ?_, hm6.keep hS ne, hm6.l.trans hl4, fun j u hj hu => ?_, some (.int (i : Int)), some y, rfl⟩
              · rw [hm6.at_, putK_toK, prs_take z, sumsOf_snoc]
                rfl
              · by_cases hji : j = i
                · rw [hji, z] at hu
                  cases hu
                  exact htm
                · exact hg j u (by omega) hu
        · intro σ1 F4 M4 H4 e4 c4 hI
          obtain ⟨hD, hS, hl4, hg, a4, a5, rfl⟩ := hI
          rw [List.length_zipIdx, List.take_length] at hD
          rw [List.length_zipIdx] at hg
          rw [outF_ok hp (firstBad_none fun j u hu => hg j u (List.getElem?_eq_some_iff.mp hu).1 hu)] at q'
          generalize hsum : sumsOf p (prs ts) = s0 at hD
          have hkeys : KeysI s0 := hsum ▸ keys_sums p (prs ts)
          have hlen0 : s0.length ≤ 50000 := by
            have h1 := len_sums p (prs ts)
            have h2 : (prs ts).length ≤ ts.length := List.length_filterMap_le _ _
            rw [hsum] at h1
            omega
          obtain ⟨c5, e5⟩ := c4.done hd0 hD
          have hS5 : (mdel M4 d).f self = some (eqo (.ins (He.ga K "Filter") sd [])) := (Md.del).keep hS ne
          generalize mdel M4 d = M5 at c5 hS5
          have hFd : (upd F4 d (.dK (toK s0))) d = some (.dK (toK s0)) := upd_same
          generalize upd F4 d (.dK (toK s0)) = F5 at c5 e5 hFd
          have hl5 : M5.l d = none := by
            rw [c5.l]
            exact c5.b.lnone hd0
          refine q_asg (R := pL ((srt (s0.map (·.1))).map fun i => pI i)) c5 ?_ fun F6 H6 v6 c6 e6 h6 => ?_
          · refine ev_cb (ea_cons (R := pL ((s0.map (·.1)).map fun i => pI i)) (ev_lock hFd hl5 fun ob => ?_) ea_nil inferInstance) (rc_sortedI Ent.lq)
            have hlk : (mlck M5 d ob).l d = some ob := if_pos rfl
            have := ev_lc (M := mlck M5 d ob) (F := F5) (σ := [some (.ref self), some (.int p), some v_terms, some (.ref d), a4, a5, none, none]) (j := 7) (vs := [7]) (wi := iKeys (tVar 3)) (tt := tYes)
              (te := tCB (fun xs H Q => (∃ i, xs = [V.int i] ∧ Q (V.int i) H) ∨ ∃ k, xs = [V.bl k] ∧ Q (V.int (if k = true then 1 else 0)) H) (tCons (tVar 7) tNil)) (s0.map (·.1)) (fun i => pI i) (fun _ => true) (fun i => pI i) (wk_keysI (ev_varV rfl) hFd hlk) (by rw [List.length_map]; omega) (fun _ => rfl)
              (fun a x F1 _ _ _ => et_yes) (fun a x F1 _ _ hx _ => by
                obtain rfl : x = _ := hx.h
                exact ev_cb (ea_cons (ev_varV rfl) ea_nil inferInstance) rc_int1) (fun _ => inferInstance)
            rw [List.filter_eq_self.mpr (fun _ _ => rfl)] at this
            exact this
          · have hF6 : F6 d = some (.dK (toK s0)) := e6 _ _ hFd
            refine q_fld c6 hS5 c0 T.cl_Filter T.na_Filter_prime (by decide) (ev_varV rfl) (ev_varV rfl) inferInstance fun F7 H7 M7 v7 c7 e7 hm7 hv7 => ?_
            obtain rfl : v7 = _ := hv7.h
            have hF7 : F7 d = some (.dK (toK s0)) := e7 _ _ hF6
            refine q_fld (R := pL ((keptOf s0).map fun x => pT K [pI x.1, pI x.2])) c7 hm7.at_ c0 T.cl_Filter T.na_Filter_kept (by show (1 : Nat) < 1000; decide) (EvM.ent (ev_lc (srt (s0.map (·.1))) (fun i => pI i) (fun o => decide (0 < (getI s0 o).getD 0)) (fun o => pTt [pI o, pI ((getI s0 o).getD 0)]) (wk_list (ev_varV rfl) (Ent.trans (Ent.var (h6.up e7) inferInstance) Ent.lq) inferInstance) (by rw [(srt_perm _).length_eq, List.length_map]; omega) (fun _ => rfl) (fun a x F1 ha e1 hx => ?_) (fun a x F1 ha e1 hx hp1 => ?_) (fun _ => inferInstance)) ?_) (ev_varV rfl) inferInstance fun F8 H8 M8 v8 c8 e8 hm8 hv8 => ?_
            · obtain rfl : x = _ := hx.h
              obtain ⟨v, hv⟩ := getI_key (mem_srt.mp ha)
              refine et_test (EvM.ent (ev_op (ev_dgetI (ev_varV rfl) (ev_varV rfl) (.inl (e1 _ _ hF7)) hv) ev_c rv_I0 inferInstance) (Ent.eq ?_))
              rw [hv]
              rfl
            · obtain rfl : x = _ := hx.h
              obtain ⟨v, hv⟩ := getI_key (mem_srt.mp ha)
              refine ev_tup (ea_cons (ev_varV rfl) (ea_cons (EvM.ent (ev_dgetI (ev_varV rfl) (ev_varV rfl) (.inl (e1 _ _ hF7)) hv) (Ent.eq ?_)) ea_nil inferInstance) inferInstance) (by show (2 : Nat) ≤ 100000; decide) inferInstance
              rw [hv]
              rfl
            · unfold keptOf
              rw [List.map_map]
              exact ent_pL (ents_map fun a _ => Ent.tt)
            · refine s_fld (R := pDk (toK (keptOf s0))) c8 hm8.at_ c0 T.cl_Filter T.na_Filter_held (by show (2 : Nat) < 1000; decide) (ev_cb (ea_cons (ev_fldM (ev_varV rfl) hm8.at_ T.cl_Filter T.na_Filter_kept rfl) ea_nil inferInstance) (rc_dictP (K := K) (Ent.trans (Ent.var hv8 inferInstance) Ent.lq) (keys_kept hkeys))) (ev_varV rfl) inferInstance fun F9 H9 M9 v9 c9 e9 hm9 hv9 => ?_
              obtain ⟨h10, h11⟩ := c9.made hm9.at_
              have hk9 := hv8.up e9
              refine q' F9 H9 _ c9.gr h11 h10 ⟨v8, v9, rfl, ?_, ?_⟩
              · show pL ((heldOf p (prs ts)).map _) F9 v8
                unfold heldOf
                rw [hsum]
                exact hk9.h
              · unfold heldOf
                rw [hsum]
                exact hv9.h
      | _ => cases hq
end
abbrev c_Filter_terms (K : PySem.W.Frag) : Con := ⟨(Int) × (List (Int × Int)), fun z => [pF K z.1 z.2], fun z M => True, fun z => pL (z.2.map fun x => pT K [pI x.1, pI x.2]), fun z => 0⟩
theorem ev_Filter_terms {K : PySem.W.Frag} {σ : L2.St} {F : Hp} {M M1 : MM} {ta : TE} {tA_ : TA} {M0 : MM} {S : VP} {As_ Ds_ : List VP} {dvs : List V} {E : XK} (p : Int) (l : List (Int × Int)) (ha : EvM ta σ F M0 M S) (he0 : Ent F S (pF K p l)) (h : EvAM tA_ σ F M M1 As_) (hd : Al F Ds_ dvs) (he : Ents F (As_ ++ Ds_) []) (hs : True) (hm : Monos Ds_) : EvM (tMeth (He.ga K "Filter") "terms" (c_Filter_terms K).sp dvs E ta tA_) σ F M0 M1 (pL (l.map fun x => pT K [pI x.1, pI x.2])) := ev_meth (c_Filter_terms K) (p, l) ha he0 (fun _ => ent_F) (no_F ⟨by decide, by decide, by decide⟩) h hd he rfl hs hm inferInstance
abbrev c__law_frozen (K : PySem.W.Frag) (n : Nat) : Con := ⟨(Th), fun t => [pTh K t], fun t M => t.dep < n ∧ t.okS = true, fun t => pTh K t.frozen, fun t => 0⟩
theorem ev__law_frozen {K : PySem.W.Frag} {n : Nat} {σ : L2.St} {F : Hp} {M M1 : MM} {tA_ : TA} {As_ Ds_ : List VP} {dvs : List V} {E : XK} (t : Th) (h : EvAM tA_ σ F M M1 As_) (hd : Al F Ds_ dvs) (he : Ents F (As_ ++ Ds_) [pTh K t]) (hs : t.dep < n ∧ t.okS = true) (hm : Monos Ds_) : EvM (tCall (c__law_frozen K n).sp dvs E tA_) σ F M M1 (pTh K t.frozen) := ev_callD (c__law_frozen K n) t h hd he hs hm
theorem evh__law_frozen {K : PySem.W.Frag} {n : Nat} {σ : L2.St} {F : Hp} {M : MM} {tA_ : TA} {As_ : List VP} {E : L2.St → XK} (t : Th) (h : EvA tA_ σ F M As_) (he : Ents F As_ [pTh K t]) (hs : t.dep < n ∧ t.okS = true) : EvD (tCallS (c__law_frozen K n).sp E tA_) σ F M (pTh K t.frozen) := ev_callH (c__law_frozen K n) t h he hs
abbrev c__law_same (K : PySem.W.Frag) (n : Nat) : Con := ⟨(Th), fun t => [pTh K t, pTh K t], fun t M => t.dep < n ∧ t.okS = true ∧ ∀ a, M.l a = none, fun t => pB true, fun t => 0⟩
theorem ev__law_same {K : PySem.W.Frag} {n : Nat} {σ : L2.St} {F : Hp} {M M1 : MM} {tA_ : TA} {As_ Ds_ : List VP} {dvs : List V} {E : XK} (t : Th) (h : EvAM tA_ σ F M M1 As_) (hd : Al F Ds_ dvs) (he : Ents F (As_ ++ Ds_) [pTh K t, pTh K t]) (hs : t.dep < n ∧ t.okS = true ∧ ∀ a, M1.l a = none) (hm : Monos Ds_) : EvM (tCall (c__law_same K n).sp dvs E tA_) σ F M M1 (pB true) := ev_callD (c__law_same K n) t h hd he hs hm
theorem evh__law_same {K : PySem.W.Frag} {n : Nat} {σ : L2.St} {F : Hp} {M : MM} {tA_ : TA} {As_ : List VP} {E : L2.St → XK} (t : Th) (h : EvA tA_ σ F M As_) (he : Ents F As_ [pTh K t, pTh K t]) (hs : t.dep < n ∧ t.okS = true ∧ ∀ a, M.l a = none) : EvD (tCallS (c__law_same K n).sp E tA_) σ F M (pB true) := ev_callH (c__law_same K n) t h he hs
abbrev s_Filter_terms : Stmt := inClass (top 22) 7
theorem sc_Filter_terms : FnScope ["self"] ["self"] (defScope s_Filter_terms) := ⟨rfl, rfl, rfl, by decide +kernel, rfl, by decide +kernel, by decide +kernel⟩
section
theorem ok_Filter_terms {f : Addr} {fd : FuncData} (D : FunD K "terms" "Filter.terms" (defArgs s_Filter_terms) (defBody s_Filter_terms) (defScope s_Filter_terms) [] [] f fd) (T : Txt K mg) : FnOk P w K mg base CX0 1 f fd ["self"] ((c_Filter_terms K).sp) := by
  refine Con.ok _ D sc_Filter_terms (fun _ => rfl) fun cdv A outer s H E hr => ⟨_, (pss_one (ps_ret (pe_callTy (call_list' (K := K) rfl) (by rfl) T.n_list (by decide +kernel) (pa_cons (pe_fld' (K := K) rfl (pv 0) (by rfl)) pa_nil)))), fun F M a vs Q c hv hs q => ?_⟩
  obtain ⟨p, l⟩ := a
  have hv' : Al F [pF K p l] vs := hv
  have hs' : True := hs
  have c : Bx F M H F M H := c
  have q' : ∀ F' H' v', Gr M F H F' H' → (pL (l.map fun x => pT K [pI x.1, pI x.2])) F' v' → Q v' H' := q
  clear hv hs q
  obtain ⟨v_self, rfl, h_self⟩ := al1 hv'
  clear hv'
  rw [show L2.start ["self"] [v_self] = [some v_self] from rfl]
  apply s_retE c q'
  · exact ev_ofN (en_list (ea_cons (ev_kept (ev_varV rfl) (Ent.var h_self inferInstance) T.cl_Filter T.na_Filter_kept) ea_nil inferInstance) Ent.lq) (Monos.map (h := fun _ => inferInstance))
  · exact Ent.refl
end
abbrev s__law_frozen : Stmt := top 31
theorem sc__law_frozen : FnScope ["_law_thing", "_law_part"] ["_law_thing"] (defScope s__law_frozen) := ⟨rfl, rfl, rfl, by decide +kernel, rfl, by decide +kernel, by decide +kernel⟩
section
local macro_rules | `(tactic| walk_at "ev") => `(tactic| ((with_reducible apply ev__law_frozen); walk_at "ea"; walk_at "dv"; walk_at "ens"; walk_at "sd"; infer_instance))
theorem ok__law_frozen {f : Addr} {fd : FuncData} (D : FunD K "_law_frozen" "_law_frozen" (defArgs s__law_frozen) (defBody s__law_frozen) (defScope s__law_frozen) [] [] f fd) (T : Txt K mg) (hb : Binds K fd ["_law_thing"] []) (hg : mg "_law_frozen" = some (.ref f)) : ∀ n, FnOk P w K mg base CX0 (1 + n) f fd ["_law_thing"] (c__law_frozen K n).sp := by
  intro n
  induction n with
  | zero => exact fn_none (con_none _ (fun a M h => absurd h.1 (Nat.not_lt_zero _)))
  | succ n ih =>
    have h__law_frozen : Cal P w K mg base (1 + n) "_law_frozen" ["_law_thing"] (c__law_frozen K n).sp := ⟨⟨f, fd, ih, hb, D.kp, hg⟩⟩
    refine Con.ok (c__law_frozen K (n + 1)) D sc__law_frozen (fun _ => rfl) fun cdv A outer s H E hr => have hr : Room (1 + n) _ := hr; ⟨_, (pss_one (ps_ret (pe_ifExp (pt_val (pe_callB (call_isiT' (K := K) rfl) (by rfl) T.n_isinstance (by decide +kernel) (pa_cons (pv 0) (pa_cons (pe_tup (pa_cons (pe_bltn (v := .ty "list") (by rfl) T.n_list (by decide +kernel) rfl) (pa_cons (pe_bltn (v := .ty "tuple") (by rfl) T.n_tuple (by decide +kernel) rfl) pa_nil))) pa_nil)))) (pe_callTy (call_tuple' (K := K) rfl) (by rfl) T.n_tuple (by decide +kernel) (pa_cons (pe_lc (own := [("_law_part", 1)]) (g := (gName 1)) (tt := tYes) rfl sc__law_frozen.nd (pi_seqB' (K := K) rfl (pv 0)) (blkOk_by (N := ["_law_thing", "_law_part"]) (sc := defScope s__law_frozen) (by decide +kernel)) (fun _ _ _ _ _ => (pg_name (i := 1) sc__law_frozen.nd rfl (by first | exact Or.inl rfl | exact Or.inr rfl))) (fun _ _ _ _ _ => pts_nil) (fun _ _ _ _ _ => (pe_callC h__law_frozen (hr.mono (by omega)) (by rfl) (pa_cons (pv 1) pa_nil)))) pa_nil)) (pv 0)))), fun F M t vs Q c hv hs q => ?_⟩
    have hv' : Al F [pTh K t] vs := hv
    have hs' : t.dep < (n + 1) ∧ t.okS = true := hs
    have c : Bx F M H F M H := c
    have q' : ∀ F' H' v', Gr M F H F' H' → (pTh K t.frozen) F' v' → Q v' H' := q
    clear hv hs q
    obtain ⟨v__law_thing, rfl, h__law_thing⟩ := al1 hv'
    clear hv'
    rw [show L2.start ["_law_thing", "_law_part"] [v__law_thing] = [some v__law_thing, none] from rfl]
    cases t with
    | seq b xs =>
      have hlen := okS_len hs'.2
      refine s_retE c q' (R := pT K ((xs.map Th.frozen).map (pTh K))) (ev_if (b := true) (et_is (et_B (by walk_at "ev")) ((kd_isSq (.seq b xs)).trans rfl)) (fun _ => EvM.ent (ev_tupleL (Rs := (xs.map Th.frozen).map (pTh K)) (ea_cons (R := pL ((xs.filter fun _ => true).map fun x => pTh K x.frozen)) (ev_lc xs (pTh K) (fun _ => true) (fun x => pTh K x.frozen) (wk_seqB (ev_varV rfl) (Ent.var (sqP h__law_thing) inferInstance) inferInstance) (by omega) (fun _ => rfl) (fun a x F1 _ _ _ => et_yes) (fun a x F1 ha e1 hx _ => ?_) (fun _ => inferInstance)) ea_nil inferInstance) ?_ inferInstance) Ent.tt) (fun z => by cases z)) ?_
      · have h1 := dep_mem hs'.1 ha
        have h2 := okS_mem hs'.2 ha
        have hs2 : a.dep < n ∧ a.okS = true := ⟨h1, h2⟩
        walk_at "ev"
      · rw [List.filter_eq_self.mpr (fun _ _ => rfl), List.map_map]
        exact Ent.lq
      · rw [frozen_seq, pTh_seq]
        exact Ent.refl
    | _ =>
      refine s_retE c q' (R := pTh K _) (ev_if (b := false) (et_is (et_B (by walk_at "ev")) ((kd_isSq _).trans rfl)) (fun z => by cases z) (fun _ => EvM.ent (ev_varV rfl) (Ent.var h__law_thing inferInstance))) Ent.refl
end
section
local macro_rules | `(tactic| walk_at "ev") => `(tactic| ((with_reducible apply evh__law_frozen); walk_at "ea"; walk_at "ens"; walk_at "sd"))
theorem ok__law_frozen_H {f : Addr} {fd : FuncData} (D : FunD K "_law_frozen" "_law_frozen" (defArgs s__law_frozen) (defBody s__law_frozen) (defScope s__law_frozen) [] [] f fd) (T : Txt K mg) (hb : Binds K fd ["_law_thing"] []) (hg : mg "_law_frozen" = some (.ref f)) : ∀ n, L2H.FnH P w K mg base CX0 (1 + n) f fd ["_law_thing"] (c__law_frozen K n).sp := by
  intro n
  induction n with
  | zero => exact fnH_none (con_none _ (fun a M h => absurd h.1 (Nat.not_lt_zero _)))
  | succ n ih =>
    have h__law_frozen_H : CalH P w K mg base (1 + n) "_law_frozen" ["_law_thing"] (c__law_frozen K n).sp := ⟨⟨f, fd, ih, hb, D.kp, hg⟩⟩
    refine Con.okHD (c__law_frozen K (n + 1)) D sc__law_frozen (fun _ => rfl) fun cdv A outer s H E p hot hr => have hr : L2H.RoomH (1 + n) _ := hr; ⟨_, (pss_one (ps_ret (pe_ifExp (pt_val (pe_callB (call_isiT' (K := K) rfl) (by rfl) T.n_isinstance (by decide +kernel) (pa_cons (pv 0) (pa_cons (pe_tup (pa_cons (pe_bltn (v := .ty "list") (by rfl) T.n_list (by decide +kernel) rfl) (pa_cons (pe_bltn (v := .ty "tuple") (by rfl) T.n_tuple (by decide +kernel) rfl) pa_nil))) pa_nil)))) (pe_callTy (call_tuple' (K := K) rfl) (by rfl) T.n_tuple (by decide +kernel) (pa_cons (pe_lcH (p := p) (own := [("_law_part", 1)]) (g := (gName 1)) (hot_deep hot) pn_cx sc__law_frozen.nd (pi_seqH' (K := K) rfl (pv 0)) (blkOk_by (N := ["_law_thing", "_law_part"]) (sc := defScope s__law_frozen) (by decide +kernel)) (fun _ _ _ _ _ => (pg_name (i := 1) sc__law_frozen.nd rfl (by first | exact Or.inl rfl | exact Or.inr rfl))) (fun _ _ _ _ _ => (pe_callHC h__law_frozen_H (hot_blk (hot_deep hot)) (hr.mono (by omega)) (by rfl) (pa_cons (pv 1) pa_nil)))) pa_nil)) (pv 0)))), fun F M t vs Q c hv hs q => ?_⟩
    have hv' : Al F [pTh K t] vs := hv
    have hs' : t.dep < (n + 1) ∧ t.okS = true := hs
    have c : Bx F M H F M H := c
    have q' : ∀ F' H' v', Gr M F H F' H' → (pTh K t.frozen) F' v' → Q v' H' := q
    clear hv hs q
    obtain ⟨v__law_thing, rfl, h__law_thing⟩ := al1 hv'
    clear hv'
    rw [show L2.start ["_law_thing", "_law_part"] [v__law_thing] = [some v__law_thing, none] from rfl]
    cases t with
    | seq b xs =>
      have hlen := okS_len hs'.2
      refine s_retE c q' (R := pT K ((xs.map Th.frozen).map (pTh K))) (ev_if (b := true) (et_is (et_B (by walk_at "ev")) ((kd_isSq (.seq b xs)).trans rfl)) (fun _ => EvM.ent (ev_tupleL (Rs := (xs.map Th.frozen).map (pTh K)) (ea_cons (R := pL ((xs.filter fun _ => true).map fun x => pTh K x.frozen)) (ev_lc xs (pTh K) (fun _ => true) (fun x => pTh K x.frozen) (wk_seqB (ev_varV rfl) (Ent.var (sqP h__law_thing) inferInstance) inferInstance) (by omega) (fun _ => rfl) (fun a x F1 _ _ _ => et_yes) (fun a x F1 ha e1 hx _ => ?_) (fun _ => inferInstance)) ea_nil inferInstance) ?_ inferInstance) Ent.tt) (fun z => by cases z)) ?_
      · have h1 := dep_mem hs'.1 ha
        have h2 := okS_mem hs'.2 ha
        have hs2 : a.dep < n ∧ a.okS = true := ⟨h1, h2⟩
        walk_at "ev"
      · rw [List.filter_eq_self.mpr (fun _ _ => rfl), List.map_map]
        exact Ent.lq
      · rw [frozen_seq, pTh_seq]
        exact Ent.refl
    | _ =>
      refine s_retE c q' (R := pTh K _) (ev_if (b := false) (et_is (et_B (by walk_at "ev")) ((kd_isSq _).trans rfl)) (fun z => by cases z) (fun _ => EvM.ent (ev_varV rfl) (Ent.var h__law_thing inferInstance))) Ent.refl
end
abbrev s__law_same : Stmt := top 27
theorem sc__law_same : FnScope ["_law_found", "_law_due", "_law_x", "_law_y"] ["_law_found", "_law_due"] (defScope s__law_same) := ⟨rfl, rfl, rfl, by decide +kernel, rfl, by decide +kernel, by decide +kernel⟩
section
local macro_rules | `(tactic| walk_at "ev") => `(tactic| ((with_reducible apply ev__law_same); walk_at "ea"; walk_at "dv"; walk_at "ens"; walk_at "sd"; infer_instance))
theorem ok__law_same {f : Addr} {fd : FuncData} (D : FunD K "_law_same" "_law_same" (defArgs s__law_same) (defBody s__law_same) (defScope s__law_same) [] [] f fd) (T : Txt K mg) (hb : Binds K fd ["_law_found", "_law_due"] []) (hg : mg "_law_same" = some (.ref f)) : ∀ n, FnOk P w K mg base CX0 (1 + n) f fd ["_law_found", "_law_due"] (c__law_same K n).sp := by
  intro n
  induction n with
  | zero => exact fn_none (con_none _ (fun a M h => absurd h.1 (Nat.not_lt_zero _)))
  | succ n ih =>
    have h__law_same : Cal P w K mg base (1 + n) "_law_same" ["_law_found", "_law_due"] (c__law_same K n).sp := ⟨⟨f, fd, ih, hb, D.kp, hg⟩⟩
    refine Con.ok (c__law_same K (n + 1)) D sc__law_same (fun _ => rfl) fun cdv A outer s H E hr => have hr : Room (1 + n) _ := hr; ⟨_, (pss_cons (ps_if (pt_val (pe_callB (call_isiT' (K := K) rfl) (by rfl) T.n_isinstance (by decide +kernel) (pa_cons (pv 1) (pa_cons (pe_tup (pa_cons (pe_bltn (v := .ty "list") (by rfl) T.n_list (by decide +kernel) rfl) (pa_cons (pe_bltn (v := .ty "tuple") (by rfl) T.n_tuple (by decide +kernel) rfl) pa_nil))) pa_nil)))) (pss_cons (ps_if (PW.pt (pw_or (pt_cmpR op_ne (pe_callB (call_isi' (K := K) rfl) (by rfl) T.n_isinstance (by decide +kernel) (pa_cons (pv 0) (pa_cons (pe_bltn (v := .ty "list") (by rfl) T.n_list (by decide +kernel) rfl) pa_nil))) (pe_callB (call_isi' (K := K) rfl) (by rfl) T.n_isinstance (by decide +kernel) (pa_cons (pv 1) (pa_cons (pe_bltn (v := .ty "list") (by rfl) T.n_list (by decide +kernel) rfl) pa_nil))) (nomark _)) (pw_or1 (pt_cmpR op_ne (pe_callB (call_isi' (K := K) rfl) (by rfl) T.n_isinstance (by decide +kernel) (pa_cons (pv 0) (pa_cons (pe_bltn (v := .ty "tuple") (by rfl) T.n_tuple (by decide +kernel) rfl) pa_nil))) (pe_callB (call_isi' (K := K) rfl) (by rfl) T.n_isinstance (by decide +kernel) (pa_cons (pv 1) (pa_cons (pe_bltn (v := .ty "tuple") (by rfl) T.n_tuple (by decide +kernel) rfl) pa_nil))) (nomark _))))) (pss_one (ps_ret pe_bl)) pss_nil)
      (pss_one (ps_ret (pe_and (pe_cmpR op_eq (pe_callB (call_len' (K := K) rfl) (by rfl) T.n_len PySem.boot_len (pa_cons (pv 0) pa_nil)) (pe_callB (call_len' (K := K) rfl) (by rfl) T.n_len PySem.boot_len (pa_cons (pv 1) pa_nil)) (nomark _)) (pe_one (pe_callB (cr_all' (K := K) rfl rfl) (by rfl) T.n_all (by decide +kernel) (pa_cons (pe_lc (own := [("_law_x", 2), ("_law_y", 3)]) (g := (gTup K 2 (gCons (gName 2) (gCons (gName 3) gNil)))) (tt := tYes) rfl sc__law_same.nd (pi_zipA' (K := K) rfl (by rfl) T.n_zip (pa_cons (pv 0) (pa_cons (pv 1) pa_nil))) (blkOk_by (N := ["_law_found", "_law_due", "_law_x", "_law_y"]) (sc := defScope s__law_same) (by decide +kernel)) (fun _ _ _ _ _ => (pg_tup' (K := K) (n := 2) rfl rfl (pgs_cons (pg_name (i := 2) sc__law_same.nd rfl (by first | exact Or.inl rfl | exact Or.inr rfl)) (pgs_cons (pg_name (i := 3) sc__law_same.nd rfl (by first | exact Or.inl rfl | exact Or.inr rfl)) pgs_nil)))) (fun _ _ _ _ _ => pts_nil) (fun _ _ _ _ _ => (pe_callC h__law_same (hr.mono (by omega)) (by rfl) (pa_cons (pv 2) (pa_cons (pv 3) pa_nil))))) pa_nil))))))) pss_nil)
      (pss_cons (ps_if (pt_val (pe_callB (call_isi' (K := K) rfl) (by rfl) T.n_isinstance (by decide +kernel) (pa_cons (pv 1) (pa_cons (pe_bltn (v := .ty "int") (by rfl) T.n_int (by decide +kernel) rfl) pa_nil)))) (pss_one (ps_ret (pe_and (pe_callB (call_isi' (K := K) rfl) (by rfl) T.n_isinstance (by decide +kernel) (pa_cons (pv 0) (pa_cons (pe_bltn (v := .ty "int") (by rfl) T.n_int (by decide +kernel) rfl) pa_nil))) (pe_and (pe_cmpR op_eq (pe_callB (call_isi' (K := K) rfl) (by rfl) T.n_isinstance (by decide +kernel) (pa_cons (pv 0) (pa_cons (pe_bltn (v := .ty "bool") (by rfl) T.n_bool (by decide +kernel) rfl) pa_nil))) (pe_callB (call_isi' (K := K) rfl) (by rfl) T.n_isinstance (by decide +kernel) (pa_cons (pv 1) (pa_cons (pe_bltn (v := .ty "bool") (by rfl) T.n_bool (by decide +kernel) rfl) pa_nil))) (nomark _)) (pe_one (pe_cmpR (op_eqB' (K := K) rfl (hu64_of hr)) (pv 0) (pv 1) (nomark _))))))) pss_nil)
      (pss_one (ps_ret (pe_and (pe_cmpR op_isBl' (pe_callB (call_isiT' (K := K) rfl) (by rfl) T.n_isinstance (by decide +kernel) (pa_cons (pv 0) (pa_cons (pe_tup (pa_cons (pe_bltn (v := .ty "int") (by rfl) T.n_int (by decide +kernel) rfl) (pa_cons (pe_bltn (v := .ty "list") (by rfl) T.n_list (by decide +kernel) rfl) (pa_cons (pe_bltn (v := .ty "tuple") (by rfl) T.n_tuple (by decide +kernel) rfl) pa_nil)))) pa_nil))) pe_bl (nomark _)) (pe_one (pe_cmpR (op_eqB' (K := K) rfl (hu64_of hr)) (pv 0) (pv 1) (nomark _)))))))), fun F M t vs Q c hv hs q => ?_⟩
    have hv' : Al F [pTh K t, pTh K t] vs := hv
    have hs' : t.dep < (n + 1) ∧ t.okS = true ∧ ∀ a, M.l a = none := hs
    have c : Bx F M H F M H := c
    have q' : ∀ F' H' v', Gr M F H F' H' → (pB true) F' v' → Q v' H' := q
    clear hv hs q
    obtain ⟨v__law_found, v__law_due, rfl, h__law_found, h__law_due⟩ := al2 hv'
    clear hv'
    rw [show L2.start ["_law_found", "_law_due", "_law_x", "_law_y"] [v__law_found, v__law_due] = [some v__law_found, some v__law_due, none, none] from rfl]
    cases t with
    | seq b xs =>
      refine q_when (b := true) c (et_is (et_B (by walk_at "ev")) ((kd_isSq (.seq b xs)).trans rfl)) (fun _ F1 H1 c1 e1 => ?_) (fun z => by cases z)
      refine q_when (b := false) c1 (et_is (by walk_at "et") (by simp)) (fun z => by cases z) (fun _ F2 H2 c2 e2 => ?_)
      have hk1 := sqP (h__law_found.up (e1.trans e2))
      have hk2 := sqP (h__law_due.up (e1.trans e2))
      have hlen := okS_len hs'.2.1
      refine s_retE c2 q' (ev_andV (by walk_at "ev") fun _ => ev_cb (ea_cons (ev_lc2 (K := K) xs (pTh K) (pTh K) (fun _ => true) (fun _ => pB true) (wk_zipA (ea_cons (ev_varV rfl) (ea_cons (ev_varV rfl) ea_nil inferInstance) inferInstance) (Ent.var hk1 inferInstance) (Ent.var hk2 inferInstance) inferInstance inferInstance) (fun F1 _ => ?_) (by omega) (fun _ _ => rfl) (fun a x y F1 _ _ _ _ => et_yes) (fun a x y F1 ha e1 hx hy _ => ?_) (fun _ => inferInstance)) ea_nil inferInstance) (rc_all (K := K) (bs := (xs.filter fun _ => true).map fun _ => true) ?_)) (Ent.eq ?_)
      · rw [zip_self]
        exact ents_map fun a _ => Ent.tt
      · have hs2 : a.dep < n ∧ a.okS = true ∧ ∀ a, M.l a = none := ⟨dep_mem hs'.1 ha, okS_mem hs'.2.1 ha, hs'.2.2⟩
        walk_at "ev"
      · rw [List.map_map]
        exact Ent.lq
      · simp
    | int i =>
      have e1 := h__law_found.h
      have e2 := h__law_due.h
      rw [th_int] at e1 e2
      cases e1
      cases e2
      refine q_when (b := false) c (et_is (et_B (by walk_at "ev")) (by rfl)) (fun z => by cases z) (fun _ F1 H1 c1 e1 => ?_)
      refine q_when (b := true) c1 (et_is (et_B (by walk_at "ev")) (by rfl)) (fun _ F2 H2 c2 e2 => ?_) (fun z => by cases z)
      refine s_retE c2 q' (by walk_at "ev") (Ent.eq (by simp [Th.kd, DK.isInt]))
    | bl b =>
      have e1 := h__law_found.h
      have e2 := h__law_due.h
      rw [th_bl] at e1 e2
      cases e1
      cases e2
      refine q_when (b := false) c (et_is (et_B (by walk_at "ev")) (by rfl)) (fun z => by cases z) (fun _ F1 H1 c1 e1 => ?_)
      refine q_when (b := true) c1 (et_is (et_B (by walk_at "ev")) (by rfl)) (fun _ F2 H2 c2 e2 => ?_) (fun z => by cases z)
      refine s_retE c2 q' (by walk_at "ev") (Ent.eq (by simp [Th.kd, DK.isInt]))
    | non =>
      have e1 := h__law_found.h
      have e2 := h__law_due.h
      rw [th_non] at e1 e2
      cases e1
      cases e2
      refine q_when (b := false) c (et_is (et_B (by walk_at "ev")) (by rfl)) (fun z => by cases z) (fun _ F1 H1 c1 e1 => ?_)
      refine q_when (b := false) c1 (et_is (et_B (by walk_at "ev")) (by rfl)) (fun z => by cases z) (fun _ F2 H2 c2 e2 => ?_)
      refine s_retE c2 q' (by walk_at "ev") (Ent.eq (by simp [Th.kd, DK.isInt, DK.isSeq]))
    | str s =>
      have e1 := h__law_found.h
      have e2 := h__law_due.h
      rw [th_str] at e1 e2
      cases e1
      cases e2
      refine q_when (b := false) c (et_is (et_B (by walk_at "ev")) (by rfl)) (fun z => by cases z) (fun _ F1 H1 c1 e1 => ?_)
      refine q_when (b := false) c1 (et_is (et_B (by walk_at "ev")) (by rfl)) (fun z => by cases z) (fun _ F2 H2 c2 e2 => ?_)
      refine s_retE c2 q' (by walk_at "ev") (Ent.eq (by simp [Th.kd, DK.isInt, DK.isSeq]))
    | own C =>
      have := hs'.2.1
      cases this
    | dic kvs =>
      have hd : kvs = [] := by
        have := hs'.2.1
        unfold Th.okS at this
        exact List.isEmpty_iff.mp this
      subst hd
      have e1 : Kn (pDk []) F v__law_found := ⟨by have h := h__law_found.h; rw [th_dic] at h; exact h⟩
      have e2 : Kn (pDk []) F v__law_due := ⟨by have h := h__law_due.h; rw [th_dic] at h; exact h⟩
      refine q_when (b := false) c (et_is (et_B (by walk_at "ev")) (by rfl)) (fun z => by cases z) (fun _ F1 H1 c1 e3 => ?_)
      refine q_when (b := false) c1 (et_is (et_B (by walk_at "ev")) (by rfl)) (fun z => by cases z) (fun _ F2 H2 c2 e4 => ?_)
      refine s_retE c2 q' (ev_andV (by walk_at "ev") fun _ => ev_op (EvM.ent (ev_varV rfl) (Ent.var (e1.up (e3.trans e4)) inferInstance)) (EvM.ent (ev_varV rfl) (Ent.var (e2.up (e3.trans e4)) inferInstance)) (rv_eqD0 hs'.2.2) inferInstance) (Ent.eq (by simp [DK.isInt, DK.isSeq]))
end
abbrev c__law_draw (K : PySem.W.Frag) : Con := ⟨(Addr) × (Addr) × (Int), fun z => [pV (.ref z.1), pI z.2.2], fun z M => Spring M.f z.1 z.2.1 ∧ M.n + 1 ≤ 1000000 ∧ 0 < z.2.2 ∧ z.2.2 < 1073741824, fun z => pDr z.2.2, fun z => 1⟩
theorem ev__law_draw {K : PySem.W.Frag} {σ : L2.St} {F : Hp} {M M1 : MM} {tA_ : TA} {As_ Ds_ : List VP} {dvs : List V} {E : XK} (b : Addr) (l : Addr) (many : Int) (h : EvAM tA_ σ F M M1 As_) (hd : Al F Ds_ dvs) (he : Ents F (As_ ++ Ds_) [pV (.ref b), pI many]) (hs : Spring M1.f b l ∧ M1.n + 1 ≤ 1000000 ∧ 0 < many ∧ many < 1073741824) (hm : Monos Ds_) : EvM (tCall (c__law_draw K).sp dvs E tA_) σ F M (M1.add (1)) (pDr many) := ev_callD (c__law_draw K) (b, l, many) h hd he hs hm
abbrev s__law_draw : Stmt := top 25
theorem sc__law_draw : FnScope ["_law_spring_here", "_law_many", "_law_cell", "_law_digit", "_law_mixed"] ["_law_spring_here", "_law_many"] (defScope s__law_draw) := ⟨rfl, rfl, rfl, by decide +kernel, rfl, by decide +kernel, by decide +kernel⟩
section
theorem ok__law_draw {f : Addr} {fd : FuncData} (D : FunD K "_law_draw" "_law_draw" (defArgs s__law_draw) (defBody s__law_draw) (defScope s__law_draw) [] [] f fd) (T : Txt K mg) : FnOk P w K mg base CX0 1 f fd ["_law_spring_here", "_law_many"] ((c__law_draw K).sp) := by
  refine Con.ok _ D sc__law_draw (fun _ => rfl) fun cdv A outer s H E hr => ⟨_, (pss_cons (ps_asg (pe_op op_add (pe_ix (ix_list' (K := K) rfl) (pv 0) pe_int (fun _ _ => rfl)) pe_int) (pg_sub (pv 0) pe_int set_list))
      (pss_cons (ps_if (PW.pt (pw_and (pt_cmpR op_eq (pe_ix (ix_list' (K := K) rfl) (pv 0) pe_int (fun _ _ => rfl)) pe_int (nomark _)) (pw_and1 (pt_cmpR (op_neD' (K := K) rfl (hu64_of hr)) (pe_ix (ix_list' (K := K) rfl) (pv 0) pe_int (fun _ _ => rfl)) (pe_lst pa_nil) (nomark _))))) (pss_cons (ps_set (i := 2) sc__law_draw.nd rfl (by first | exact Or.inl rfl | exact Or.inr rfl) (pe_bm' (K := K) rfl PySem.F.plainAttrs_list PySem.F.slot_list_pop PySem.F.type_list_pop mt_popAt (pe_ix (ix_list' (K := K) rfl) (pv 0) pe_int (fun _ _ => rfl)) (pa_cons pe_int pa_nil)))
      (pss_cons (ps_asg (pe_op op_mod (pe_callTy call_int1 (by rfl) T.n_int (by decide +kernel) (pa_cons (pe_op op_add (pe_op op_add (pe_op op_mul (pe_ix (ix_list' (K := K) rfl) (pv 0) pe_int (fun _ _ => rfl)) pe_int) (pv 2)) pe_int) pa_nil)) pe_int) (pg_sub (pv 0) pe_int set_list))
      (pss_one (ps_if (pt_cmpR op_ge (pv 2) (pe_op op_pow pe_int pe_int) (nomark _)) (pss_one (ps_asg (pv 2) (pg_sub (pv 0) pe_int set_list))) pss_nil)))) pss_nil)
      (pss_cons (ps_if (pt_cmpR op_gt (pe_ix (ix_list' (K := K) rfl) (pv 0) pe_int (fun _ _ => rfl)) pe_int (nomark _)) (pss_cons (ps_set (i := 3) sc__law_draw.nd rfl (by first | exact Or.inl rfl | exact Or.inr rfl) (pe_op op_mod (pe_callTy call_int1 (by rfl) T.n_int (by decide +kernel) (pa_cons (pe_ix (ix_list' (K := K) rfl) (pv 0) pe_int (fun _ _ => rfl)) pa_nil)) (pv 1)))
      (pss_cons (ps_asg (pe_op op_fdiv (pe_ix (ix_list' (K := K) rfl) (pv 0) pe_int (fun _ _ => rfl)) (pv 1)) (pg_sub (pv 0) pe_int set_list))
      (pss_one (ps_ret (pv 3))))) pss_nil)
      (pss_cons (ps_set (i := 4) sc__law_draw.nd rfl (by first | exact Or.inl rfl | exact Or.inr rfl) (pe_op op_mod (pe_callTy call_int1 (by rfl) T.n_int (by decide +kernel) (pa_cons (pe_op op_pow (pe_op op_add (pe_op op_add (pe_ix (ix_list' (K := K) rfl) (pv 0) pe_int (fun _ _ => rfl)) (pe_op op_mul pe_int (pe_ix (ix_list' (K := K) rfl) (pv 0) pe_int (fun _ _ => rfl)))) pe_int) pe_int) pa_nil)) pe_int))
      (pss_cons (ps_set (i := 4) sc__law_draw.nd rfl (by first | exact Or.inl rfl | exact Or.inr rfl) (pe_op op_add (pe_op op_add (pe_op op_mul (pv 4) pe_int) (pe_op op_mul (pe_op op_mul pe_int (pe_ix (ix_list' (K := K) rfl) (pv 0) pe_int (fun _ _ => rfl))) (pe_ix (ix_list' (K := K) rfl) (pv 0) pe_int (fun _ _ => rfl)))) pe_int))
      (pss_one (ps_ret (pe_op op_mod (pe_op op_mod (pe_callTy call_int1 (by rfl) T.n_int (by decide +kernel) (pa_cons (pe_op op_pow (pv 4) pe_int) pa_nil)) pe_int) (pv 1))))))))), fun F M a vs Q c hv hs q => ?_⟩
  obtain ⟨b, l, many⟩ := a
  have hv' : Al F [pV (.ref b), pI many] vs := hv
  have hs' : Spring M.f b l ∧ M.n + 1 ≤ 1000000 ∧ 0 < many ∧ many < 1073741824 := hs
  have c : Bx F (M.add (1)) H F M H := c
  have q' : ∀ F' H' v', Gr (M.add (1)) F H F' H' → (pDr many) F' v' → Q v' H' := q
  clear hv hs q
  obtain ⟨v__law_spring_here, v__law_many, rfl, h__law_spring_here, h__law_many⟩ := al2 hv'
  clear hv'
  rw [show L2.start ["_law_spring_here", "_law_many", "_law_cell", "_law_digit", "_law_mixed"] [v__law_spring_here, v__law_many] = [some v__law_spring_here, some v__law_many, none, none, none] from rfl]
  obtain ⟨hS, hB, hm0, hm1⟩ := hs'
  obtain rfl : v__law_spring_here = .ref b := h__law_spring_here.h
  obtain rfl : v__law_many = .int many := h__law_many.h
  obtain ⟨ob, ol, H0, Me, Mx, wb, wl, h0b, h0l, mb, ml, ell, en, c0, close⟩ := c.cn.open2 hS.hb hS.hl hS.ne (fun n o ⟨cur, t, st, h, _⟩ => ⟨_, h⟩) (fun n o ⟨ns, h, _⟩ => ⟨_, h⟩)
  obtain ⟨cur, t, st, rfl, hc0, ht0, htn, hs0, hs1⟩ := wb
  obtain ⟨ns, rfl, hns⟩ := wl
  have ne := hS.ne
  have htn2 : t + 1 ≤ 1000000 := by omega
  have fin : ∀ F' M' H' (v : V) (d cur' st' : Int) (ns' : List Int), Bx F Me H0 F' M' H' → M'.f b = some (eqo (.lst [.ref l, .int cur', .int (t + 1), .int st'])) → M'.f l = some (eqo (.lst (ns'.map V.int))) → 0 ≤ cur' → 0 ≤ st' → st' < 2147483647 → ns'.length ≤ 100 → v = .int d → 0 ≤ d → d < many → Q v H' := fun F' M' H' v d cur' st' ns' c' hb' hl' h1 h2 h3 h4 hv h5 h6 => by
    have hcast : ((M.n + 1 : Nat) : Int) = (M.n : Int) + 1 := by omega
    have g := close F' M' H' _ _ c' hb' hl' ⟨cur', t + 1, st', rfl, h1, by omega, by omega, h2, h3⟩ ⟨ns', rfl, h4⟩
    exact q' F' H' v ⟨g.f, g.c, g.k, g.n, rfl, rfl⟩ ⟨⟨d, h5, h6⟩, hv⟩
  clear close
  refine q_setL (j := 2) (R := pI (t + 1)) c0 mb h0b (by walk_at "ev") (ev_varV rfl) ev_c (by rfl) inferInstance fun F1 H1 M1 v1 c1 e1 hm1' hv1 => ?_
  obtain rfl : v1 = .int (t + 1) := hv1.h
  have mb1 : M1.f b = some (eqo (.lst [.ref l, .int cur, .int (t + 1), .int st])) := hm1'.at_
  have ml1 : M1.f l = some (eqo (.lst (ns.map V.int))) := hm1'.keep ml (Ne.symm ne)
  clear hm1' mb ml
  refine q_share (fun σ' H' => ∃ (F5 : Hp) (M5 : MM) (cur5 st5 : Int) (ns5 : List Int) (a2 : Option V), Bx F Me H0 F5 M5 H' ∧ M5.f b = some (eqo (.lst [.ref l, .int cur5, .int (t + 1), .int st5])) ∧ M5.f l = some (eqo (.lst (ns5.map V.int))) ∧ 0 ≤ cur5 ∧ 0 ≤ st5 ∧ st5 < 2147483647 ∧ ns5.length ≤ 100 ∧ σ' = [some (.ref b), some (.int many), a2, none, none]) ?_ fun hz => ?_
  · rintro σ' H' ⟨F5, M5, cur5, st5, ns5, a2, c5, mb5, ml5, h51, h52, h53, h54, rfl⟩
    refine q_when (b := decide (0 < cur5)) c5 (by walk_at "et") (fun hb F6 H6 c6 e6 => ?_) (fun hb F6 H6 c6 e6 => ?_)
    · have hb : 0 < cur5 := of_decide_eq_true hb
      refine q_asgV (v := .int (cur5 % many)) c6 (by walk_at "ev") fun F7 H7 c7 e7 => ?_
      refine q_setL (j := 1) (R := pI (cur5 / many)) c7 mb5 h0b (by walk_at "ev") (ev_varV rfl) ev_c (by rfl) inferInstance fun F8 H8 M8 v8 c8 e8 hm8 hv8 => ?_
      obtain rfl : v8 = .int (cur5 / many) := hv8.h
      refine s_retB (R := pI (cur5 % many)) c8 (by walk_at "ev") fun F9 H9 v9 c9 e9 h9 => ?_
      exact fin F9 M8 H9 v9 (cur5 % many) (cur5 / many) st5 ns5 c9 hm8.at_ (hm8.keep ml5 (Ne.symm ne)) (Int.ediv_nonneg (by omega) (by omega)) h52 h53 h54 h9 (Int.emod_nonneg _ (by omega)) (Int.emod_lt_of_pos _ hm0)
    · have hT : 7919 * (t + 1) ≤ 7919000000 := by omega
      refine q_asgV (v := .int ((st5 + 7919 * (t + 1) + 104729) ^ (5 : Int).toNat % 2147483629)) c6 (by walk_at "ev") fun F7 H7 c7 e7 => ?_
      have hx0 := Int.emod_nonneg ((st5 + 7919 * (t + 1) + 104729) ^ (5 : Int).toNat) (show (2147483629 : Int) ≠ 0 by decide)
      have hx1 := Int.emod_lt_of_pos ((st5 + 7919 * (t + 1) + 104729) ^ (5 : Int).toNat) (show (0 : Int) < 2147483629 by decide)
      generalize (st5 + 7919 * (t + 1) + 104729) ^ (5 : Int).toNat % 2147483629 = x at hx0 hx1
      refine q_asgV (v := .int (x * 48271 + 40503 * (t + 1) * (t + 1) + 29)) c7 (by walk_at "ev") fun F8 H8 c8 e8 => ?_
      have hy0 : 0 ≤ 40503 * (t + 1) * (t + 1) := Int.mul_nonneg (by omega) (by omega)
      have hy1 : 40503 * (t + 1) * (t + 1) ≤ 40503000000 * 1000000 := Int.mul_le_mul (by omega) htn2 (by omega) (by omega)
      generalize 40503 * (t + 1) * (t + 1) = y at hy0 hy1
      refine s_retB (R := pI ((x * 48271 + y + 29) ^ (3 : Int).toNat % 1000000007 % many)) c8 (by walk_at "ev") fun F9 H9 v9 c9 e9 h9 => ?_
      exact fin F9 M5 H9 v9 _ cur5 st5 ns5 c9 mb5 ml5 h51 h52 h53 h54 h9 (Int.emod_nonneg _ (by omega)) (Int.emod_lt_of_pos _ hm0)
  · refine s_if (b := decide (V.int cur = V.int 0) && !ns.isEmpty) c1 (et_and (by walk_at "et") fun _ => et_test (ev_op (by walk_at "ev") (ev_lst ea_nil (by decide) inferInstance) (rv_neNil ml1) inferInstance)) (fun hb F2 H2 c2 e2 => ?_) (fun hb F2 H2 c2 e2 => ?_)
    · cases ns with
      | nil => simp at hb
      | cons n0 ns =>
        refine q_pop0 (x := .int n0) (xs := ns.map V.int) c2 ml1 h0l (by simp at hns ⊢; omega) (by walk_at "ev") ev_c fun F3 H3 M3 c3 e3 hm3 => ?_
        have mb3 := hm3.keep mb1 ne
        have ml3 := hm3.at_
        clear hm3 mb1 ml1
        refine q_setL (j := 3) (R := pI ((st * 4099 + n0 + 13) % 2147483647)) c3 mb3 h0b (by walk_at "ev") (ev_varV rfl) ev_c (by rfl) inferInstance fun F4 H4 M4 v4 c4 e4 hm4 hv4 => ?_
        obtain rfl : v4 = .int _ := hv4.h
        have hx0 := Int.emod_nonneg (st * 4099 + n0 + 13) (show (2147483647 : Int) ≠ 0 by decide)
        have hx1 := Int.emod_lt_of_pos (st * 4099 + n0 + 13) (show (0 : Int) < 2147483647 by decide)
        have mb4 : M4.f b = some (eqo (.lst [.ref l, .int cur, .int (t + 1), .int ((st * 4099 + n0 + 13) % 2147483647)])) := hm4.at_
        have ml4 := hm4.keep ml3 (Ne.symm ne)
        clear hm4 mb3 ml3
        have hns' : ns.length ≤ 100 := by simp at hns; omega
        refine s_if (b := decide ((10 : Int) ^ (18 : Int).toNat ≤ n0)) c4 (by walk_at "et") (fun hb F5 H5 c5 e5 => ?_) (fun hb F5 H5 c5 e5 => ?_)
        · have hb : (10 : Int) ^ (18 : Int).toNat ≤ n0 := of_decide_eq_true hb
          refine s_setL (j := 1) (R := pI n0) c5 mb4 h0b (by walk_at "ev") (ev_varV rfl) ev_c (by rfl) inferInstance fun F6 H6 M6 v6 c6 e6 hm6 hv6 => ?_
          obtain rfl : v6 = .int n0 := hv6.h
          exact hz _ _ ⟨F6, M6, n0, _, ns, some (.int n0), c6, hm6.at_, hm6.keep ml4 (Ne.symm ne), Int.le_trans (by decide) hb, hx0, hx1, hns', rfl⟩
        · exact hz _ _ ⟨F5, M4, cur, _, ns, some (.int n0), c5, mb4, ml4, hc0, hx0, hx1, hns', rfl⟩
    · exact hz _ _ ⟨F2, M1, cur, st, ns, none, c2, mb1, ml1, hc0, hs0, hs1, hns, rfl⟩
end
abbrev c__law_pick (K : PySem.W.Frag) : Con := ⟨(Addr) × (Addr) × ({Rs : List VP // Monos Rs}), fun z => [pV (.ref z.1), pQ K z.2.2.1], fun z M => Spring M.f z.1 z.2.1 ∧ M.n + 1 ≤ 1000000 ∧ 0 < z.2.2.1.length ∧ z.2.2.1.length < 1073741824, fun z => pEx fun i : Fin z.2.2.1.length => z.2.2.1.get i, fun z => 1⟩
theorem ev__law_pick {K : PySem.W.Frag} {σ : L2.St} {F : Hp} {M M1 : MM} {tA_ : TA} {As_ Ds_ : List VP} {dvs : List V} {E : XK} (b : Addr) (l : Addr) (Rs : {Rs : List VP // Monos Rs}) (h : EvAM tA_ σ F M M1 As_) (hd : Al F Ds_ dvs) (he : Ents F (As_ ++ Ds_) [pV (.ref b), pQ K Rs.1]) (hs : Spring M1.f b l ∧ M1.n + 1 ≤ 1000000 ∧ 0 < Rs.1.length ∧ Rs.1.length < 1073741824) (hm : Monos Ds_) : EvM (tCall (c__law_pick K).sp dvs E tA_) σ F M (M1.add (1)) (pEx fun i : Fin Rs.1.length => Rs.1.get i) := ev_callD (c__law_pick K) (b, l, Rs) h hd he hs hm
abbrev s__law_pick : Stmt := top 26
theorem sc__law_pick : FnScope ["_law_spring_here", "_law_things"] ["_law_spring_here", "_law_things"] (defScope s__law_pick) := ⟨rfl, rfl, rfl, by decide +kernel, rfl, by decide +kernel, by decide +kernel⟩
section
local macro_rules | `(tactic| walk_at "ev") => `(tactic| ((with_reducible apply ev__law_draw); walk_at "ea"; walk_at "dv"; walk_at "ens"; walk_at "sd"; infer_instance))
theorem ok__law_pick {f : Addr} {fd : FuncData} (D : FunD K "_law_pick" "_law_pick" (defArgs s__law_pick) (defBody s__law_pick) (defScope s__law_pick) [] [] f fd) (T : Txt K mg) (h__law_draw : Cal P w K mg base 1 "_law_draw" ["_law_spring_here", "_law_many"] (c__law_draw K).sp) : FnOk P w K mg base CX0 2 f fd ["_law_spring_here", "_law_things"] ((c__law_pick K).sp) := by
  refine Con.ok _ D sc__law_pick (fun _ => rfl) fun cdv A outer s H E hr => ⟨_, (pss_one (ps_ret (pe_ix (ix_list' (K := K) rfl) (pv 1) (pe_callC h__law_draw (hr.mono (by omega)) (by rfl) (pa_cons (pv 0) (pa_cons (pe_callB (call_len' (K := K) rfl) (by rfl) T.n_len PySem.boot_len (pa_cons (pv 1) pa_nil)) pa_nil))) (fun _ _ => rfl)))), fun F M a vs Q c hv hs q => ?_⟩
  obtain ⟨b, l, Rs⟩ := a
  have hv' : Al F [pV (.ref b), pQ K Rs.1] vs := hv
  have hs' : Spring M.f b l ∧ M.n + 1 ≤ 1000000 ∧ 0 < Rs.1.length ∧ Rs.1.length < 1073741824 := hs
  have c : Bx F (M.add (1)) H F M H := c
  have q' : ∀ F' H' v', Gr (M.add (1)) F H F' H' → (pEx fun i : Fin Rs.1.length => Rs.1.get i) F' v' → Q v' H' := q
  clear hv hs q
  obtain ⟨v__law_spring_here, v__law_things, rfl, h__law_spring_here, h__law_things⟩ := al2 hv'
  clear hv'
  rw [show L2.start ["_law_spring_here", "_law_things"] [v__law_spring_here, v__law_things] = [some v__law_spring_here, some v__law_things] from rfl]
  obtain ⟨hS, hB, h0, h1⟩ := hs'
  have hm := Rs.2
  obtain rfl : v__law_spring_here = .ref b := h__law_spring_here.h
  refine s_retM (R := pEx fun d : {d : Int // 0 ≤ d ∧ d < (Rs.1.length : Int)} => Rs.1.getD d.1.toNat pN) c (ev_op (S := pV v__law_things) (ev_varV rfl) (ev__law_draw b l (Rs.1.length : Int) (ea_cons (ev_varV rfl) (ea_cons (by walk_at "ev") ea_nil inferInstance) inferInstance) .nil ⟨Ent.refl, Ent.refl, trivial⟩ ⟨hS, hB, by omega, by omega⟩ inferInstance) (rv_exR fun d => rv_ixL (K := K) (Ent.var h__law_things inferInstance) ?_) inferInstance) (Nat.le_refl _) fun F' H' v g ⟨d, hd⟩ => q' F' H' v g ⟨⟨d.1.toNat, ?_⟩, ?_⟩
  · obtain ⟨d, h2, h3⟩ := d
    unfold atI ixN
    rw [if_pos h2, if_pos h3]
    show Rs.1[d.toNat]? = some _
    rw [List.getD_eq_getElem?_getD]
    have : d.toNat < Rs.1.length := by omega
    rw [List.getElem?_eq_getElem this]
    rfl
  · obtain ⟨d, h2, h3⟩ := d
    show d.toNat < _
    omega
  · obtain ⟨d, h2, h3⟩ := d
    have hlt : d.toNat < Rs.1.length := by omega
    have hd : (Rs.1.getD d.toNat pN) F' v := hd
    rw [List.getD_eq_getElem?_getD, List.getElem?_eq_getElem hlt] at hd
    exact hd
end
abbrev s__law_spring : Stmt := top 24
theorem sc__law_spring : FnScope ["_law_script"] ["_law_script"] (defScope s__law_spring) := ⟨rfl, rfl, rfl, by decide +kernel, rfl, by decide +kernel, by decide +kernel⟩
section
theorem ok__law_spring {f : Addr} {fd : FuncData} (D : FunD K "_law_spring" "_law_spring" (defArgs s__law_spring) (defBody s__law_spring) (defScope s__law_spring) [] [] f fd) (T : Txt K mg) : FnOk P w K mg base CX0 1 f fd ["_law_script"] (spSpring K) := by
  refine D.ok sc__law_spring (fun vs H Q E h => ?_) (fun cdv A outer s H vs Q E hr h => ?_)
  · obtain ⟨F, M, ns, cn, hv, -, -⟩ := h
    rw [← hv.length]
    rfl
  · refine ⟨_, ((pss_one (ps_ret (pe_lst (pa_cons (pe_callTy (call_list' (K := K) rfl) (by rfl) T.n_list (by decide +kernel) (pa_cons (pv 0) pa_nil)) (pa_cons pe_int (pa_cons pe_int (pa_cons pe_int pa_nil))))))) : PSs (cxOf CX0 P w K mg base _ _ _ f cdv A outer s H E).nox _ _).nox, ?_⟩
    obtain ⟨F, M, ns, cn, hv, hn, q⟩ := h
    obtain ⟨v, rfl, hk⟩ := al1 hv
    exact spring_ok cn (ea_cons (ev_varV rfl) ea_nil inferInstance) hk q
end
abbrev c__law_prime (K : PySem.W.Frag) : Con := ⟨(Addr) × (Addr), fun z => [pV (.ref z.1)], fun z M => Spring M.f z.1 z.2 ∧ M.n + 1 ≤ 1000000, fun z => pEx fun p : {p : Int // Th.isPrime (.int p) = true} => pI p.1, fun z => 1⟩
theorem ev__law_prime {K : PySem.W.Frag} {σ : L2.St} {F : Hp} {M M1 : MM} {tA_ : TA} {As_ Ds_ : List VP} {dvs : List V} {E : XK} (b : Addr) (l : Addr) (h : EvAM tA_ σ F M M1 As_) (hd : Al F Ds_ dvs) (he : Ents F (As_ ++ Ds_) [pV (.ref b)]) (hs : Spring M1.f b l ∧ M1.n + 1 ≤ 1000000) (hm : Monos Ds_) : EvM (tCall (c__law_prime K).sp dvs E tA_) σ F M (M1.add (1)) (pEx fun p : {p : Int // Th.isPrime (.int p) = true} => pI p.1) := ev_callD (c__law_prime K) (b, l) h hd he hs hm
abbrev s__law_prime : Stmt := top 30
theorem sc__law_prime : FnScope ["_law_spring_here"] ["_law_spring_here"] (defScope s__law_prime) := ⟨rfl, rfl, rfl, by decide +kernel, rfl, by decide +kernel, by decide +kernel⟩
section
local macro_rules | `(tactic| walk_at "ev") => `(tactic| ((with_reducible apply ev__law_pick); walk_at "ea"; walk_at "dv"; walk_at "ens"; walk_at "sd"; infer_instance))
theorem ok__law_prime {f : Addr} {fd : FuncData} (D : FunD K "_law_prime" "_law_prime" (defArgs s__law_prime) (defBody s__law_prime) (defScope s__law_prime) [] [] f fd) (T : Txt K mg) (h__law_pick : Cal P w K mg base 2 "_law_pick" ["_law_spring_here", "_law_things"] (c__law_pick K).sp) : FnOk P w K mg base CX0 3 f fd ["_law_spring_here"] ((c__law_prime K).sp) := by
  refine Con.ok _ D sc__law_prime (fun _ => rfl) fun cdv A outer s H E hr => ⟨_, (pss_one (ps_ret (pe_callC h__law_pick (hr.mono (by omega)) (by rfl) (pa_cons (pv 0) (pa_cons (pe_lst (pa_cons pe_int (pa_cons pe_int (pa_cons pe_int (pa_cons pe_int pa_nil))))) pa_nil))))), fun F M a vs Q c hv hs q => ?_⟩
  obtain ⟨b, l⟩ := a
  have hv' : Al F [pV (.ref b)] vs := hv
  have hs' : Spring M.f b l ∧ M.n + 1 ≤ 1000000 := hs
  have c : Bx F (M.add (1)) H F M H := c
  have q' : ∀ F' H' v', Gr (M.add (1)) F H F' H' → (pEx fun p : {p : Int // Th.isPrime (.int p) = true} => pI p.1) F' v' → Q v' H' := q
  clear hv hs q
  obtain ⟨v__law_spring_here, rfl, h__law_spring_here⟩ := al1 hv'
  clear hv'
  rw [show L2.start ["_law_spring_here"] [v__law_spring_here] = [some v__law_spring_here] from rfl]
  obtain ⟨hS, hB⟩ := hs'
  obtain rfl : v__law_spring_here = .ref b := h__law_spring_here.h
  refine s_retM c (ev__law_pick b l ⟨[pI 2, pI 3, pI 5, pI 7], inferInstance⟩ (ea_cons (ev_varV rfl) (ea_cons (by walk_at "ev") ea_nil inferInstance) inferInstance) .nil ⟨Ent.refl, Ent.lq, trivial⟩ ⟨hS, hB, by decide, by decide⟩ inferInstance) (Nat.le_refl _) fun F' H' v g ⟨i, hi⟩ => q' F' H' v g ?_
  match i, hi with
  | ⟨0, _⟩, h => exact ⟨⟨2, rfl⟩, h⟩
  | ⟨1, _⟩, h => exact ⟨⟨3, rfl⟩, h⟩
  | ⟨2, _⟩, h => exact ⟨⟨5, rfl⟩, h⟩
  | ⟨3, _⟩, h => exact ⟨⟨7, rfl⟩, h⟩
end
theorem ev_pickT {σ : L2.St} {F : Hp} {M M1 : MM} {tA_ tB_ : TE} {S : VP} {E : XK} (b l : Addr) (ts : List Th) (hb : EvD tA_ σ F M (pV (.ref b))) (h : EvM tB_ σ F M M1 S) (he : Ent F S (pQ K (ts.map (pTh K)))) (hS : Spring M1.f b l) (hn : M1.n + 1 ≤ 1000000) (h0 : 0 < ts.length) (h1 : ts.length < 1073741824) (hm : Mono S) :
    EvM (tCall (c__law_pick K).sp [] E (tCons tA_ (tCons tB_ tNil))) σ F M (M1.add 1) (pOf K ts) :=
  EvM.ent (ev__law_pick b l ⟨ts.map (pTh K), inferInstance⟩ (ea_cons hb (ea_cons h ea_nil inferInstance) inferInstance) .nil ⟨Ent.refl, he, trivial⟩ ⟨hS, hn, by rw [List.length_map]; exact h0, by rw [List.length_map]; exact h1⟩ inferInstance) pick_of
abbrev c__law_held (K : PySem.W.Frag) : Con := ⟨(Int) × (List (Int × Int)), fun z => [pI z.1, pQ K (z.2.map fun x => pT K [pI x.1, pI x.2])], fun z M => 0 < z.1 ∧ z.2.length ≤ 50000, fun z => pDk (toK (heldOf z.1 z.2)), fun z => 0⟩
theorem ev__law_held {K : PySem.W.Frag} {σ : L2.St} {F : Hp} {M M1 : MM} {tA_ : TA} {As_ Ds_ : List VP} {dvs : List V} {E : XK} (p : Int) (rows : List (Int × Int)) (h : EvAM tA_ σ F M M1 As_) (hd : Al F Ds_ dvs) (he : Ents F (As_ ++ Ds_) [pI p, pQ K (rows.map fun x => pT K [pI x.1, pI x.2])]) (hs : 0 < p ∧ rows.length ≤ 50000) (hm : Monos Ds_) : EvM (tCall (c__law_held K).sp dvs E tA_) σ F M M1 (pDk (toK (heldOf p rows))) := ev_callD (c__law_held K) (p, rows) h hd he hs hm
theorem evh__law_held {K : PySem.W.Frag} {σ : L2.St} {F : Hp} {M : MM} {tA_ : TA} {As_ : List VP} {E : L2.St → XK} (p : Int) (rows : List (Int × Int)) (h : EvA tA_ σ F M As_) (he : Ents F As_ [pI p, pQ K (rows.map fun x => pT K [pI x.1, pI x.2])]) (hs : 0 < p ∧ rows.length ≤ 50000) : EvD (tCallS (c__law_held K).sp E tA_) σ F M (pDk (toK (heldOf p rows))) := ev_callH (c__law_held K) (p, rows) h he hs
abbrev s__law_held : Stmt := top 28
theorem sc__law_held : FnScope ["_law_prime_here", "_law_terms", "_law_sums", "_law_found", "_law_offset", "_law_coefficient", "_law_k"] ["_law_prime_here", "_law_terms"] (defScope s__law_held) := ⟨rfl, rfl, rfl, by decide +kernel, rfl, by decide +kernel, by decide +kernel⟩
section
theorem ok__law_held {f : Addr} {fd : FuncData} (D : FunD K "_law_held" "_law_held" (defArgs s__law_held) (defBody s__law_held) (defScope s__law_held) [] [] f fd) (T : Txt K mg) : FnOk P w K mg base CX0 1 f fd ["_law_prime_here", "_law_terms"] ((c__law_held K).sp) := by
  refine Con.ok _ D sc__law_held (fun _ => rfl) fun cdv A outer s H E hr => ⟨_, (pss_cons (ps_par (i := 2) (j := 3) (by rfl) sc__law_held.nd rfl rfl (by decide) rfl rfl (pa_cons pe_dnewK (pa_cons pe_dnewK pa_nil)) (by rfl))
      (pss_cons (ps_for PassesOwn.never rfl (pi_list' (K := K) rfl (pv 1)) (pg_tup' (K := K) (n := 2) rfl rfl (pgs_cons (pg_name (i := 4) sc__law_held.nd rfl (by first | exact Or.inl rfl | exact Or.inr rfl)) (pgs_cons (pg_name (i := 5) sc__law_held.nd rfl (by first | exact Or.inl rfl | exact Or.inr rfl)) pgs_nil))) (pss_one (ps_dput (hu_of hr) (pv 2) (pv 4) (pe_op op_mod (pe_callTy call_int1 (by rfl) T.n_int (by decide +kernel) (pa_cons (pe_op op_add (pe_dget2 (hu_of hr) (pv 2) (pv 4) pe_int ⟨by rfl, by rfl, by rfl, by rfl⟩) (pv 5)) pa_nil)) (pv 0)) (by rfl))))
      (pss_cons (ps_for PassesOwn.never rfl (pi_list' (K := K) rfl (pe_callB (cr_sortedI' (K := K) rfl) (by rfl) T.n_sorted (by decide +kernel) (pa_cons (pe_lock (pe_lc (own := [("_law_k", 6)]) (g := (gName 6)) (tt := tYes) rfl sc__law_held.nd (pi_keys (pv 2)) (blkOk_by (N := ["_law_prime_here", "_law_terms", "_law_sums", "_law_found", "_law_offset", "_law_coefficient", "_law_k"]) (sc := defScope s__law_held) (by decide +kernel)) (fun _ _ _ _ _ => (pg_name (i := 6) sc__law_held.nd rfl (by first | exact Or.inl rfl | exact Or.inr rfl))) (fun _ _ _ _ _ => pts_nil) (fun _ _ _ _ _ => (pe_callTy call_int1 (by rfl) T.n_int (by decide +kernel) (pa_cons (pv 6) pa_nil))))) pa_nil))) (pg_name (i := 4) sc__law_held.nd rfl (by first | exact Or.inl rfl | exact Or.inr rfl)) (pss_one (ps_if (pt_cmpR op_gt (pe_dget (hu_of hr) (pv 2) (pv 4) (fun _ _ => rfl)) pe_int (nomark _)) (pss_one (ps_dput (hu_of hr) (pv 3) (pv 4) (pe_dget (hu_of hr) (pv 2) (pv 4) (fun _ _ => rfl)) (by rfl))) pss_nil)))
      (pss_one (ps_ret (pv 3)))))), fun F M a vs Q c hv hs q => ?_⟩
  obtain ⟨p, rows⟩ := a
  have hv' : Al F [pI p, pQ K (rows.map fun x => pT K [pI x.1, pI x.2])] vs := hv
  have hs' : 0 < p ∧ rows.length ≤ 50000 := hs
  have c : Bx F M H F M H := c
  have q' : ∀ F' H' v', Gr M F H F' H' → (pDk (toK (heldOf p rows))) F' v' → Q v' H' := q
  clear hv hs q
  obtain ⟨v__law_prime_here, v__law_terms, rfl, h__law_prime_here, h__law_terms⟩ := al2 hv'
  clear hv'
  rw [show L2.start ["_law_prime_here", "_law_terms", "_law_sums", "_law_found", "_law_offset", "_law_coefficient", "_law_k"] [v__law_prime_here, v__law_terms] = [some v__law_prime_here, some v__law_terms, none, none, none, none, none] from rfl]
  obtain ⟨hp0, hlen⟩ := hs'
  obtain rfl : v__law_prime_here = .int p := h__law_prime_here.h
  refine q_parDD c fun H1 M1 d d2 c1 hD hD2 ne h0 h02 hk hl1 hn1 => ?_
  have hmR : ∀ x : Int × Int, Mono (pT K [pI x.1, pI x.2]) := fun x => inferInstance
  refine q_for2 (K := K) rows (fun x => pI x.1) (fun x => pI x.2) (Z := rows.map fun x => pT K [pI x.1, pI x.2])
    (fun i σ1 F1 M1 => M1.f d = some (eqo (.dK (toK (sumsOf p (rows.take i))))) ∧ M1.f d2 = some (eqo (.dK [])) ∧ ∃ a4 a5, σ1 = [some (.int p), some v__law_terms, some (.ref d), some (.ref d2), a4, a5, none])
    c1 (wk_list (ev_varV rfl) (Ent.var h__law_terms inferInstance) inferInstance) (by simp) (fun i a S F1 ha hS _ => ?_) (fun F1 _ => ⟨hD, hD2, none, none, rfl⟩) (fun i σ1 F1 F2 M1 _ h => h) ?_ ?_
  · rw [List.getElem?_map, ha] at hS
    cases hS
    exact Ent.refl
  · rintro F' e' i x vx vy σ1 F4 M4 H4 ha e4 c4 ⟨hD4, hD24, a4, a5, rfl⟩ hx hy
    obtain rfl : vx = _ := hx.h
    obtain rfl : vy = _ := hy.h
    show sDPut _ _ _ _ [some (.int p), some v__law_terms, some (.ref d), some (.ref d2), some (.int x.1), some (.int x.2), none] H4
    have hlen2 : (toK (sumsOf p (rows.take i))).length < 100000 := by
      have h1 := len_sums p (rows.take i)
      rw [List.length_take] at h1
      rw [toK_len]
      omega
    refine s_dput (k := .inl x.1) (R := pI (((getI (sumsOf p (rows.take i)) x.1).getD 0 + x.2) % p)) c4 hD4 h0 hlen2
      (ev_op (ev_cb (ea_cons (ev_op (ev_dget2I (ev_varV rfl) (ev_varV rfl) ev_c (.inr hD4)) (ev_varV rfl) rv_I0 inferInstance) ea_nil inferInstance) rc_int1) (ev_varV rfl) (rv_I hp0) inferInstance)
      (ev_varV rfl) (ev_varV rfl) inferInstance fun F6 H6 M6 v c6 e6 hm6 hv => ?_
    obtain rfl : v = _ := hv.h
    refine ⟨F6, M6, c6, e4.trans e6, ?_, hm6.keep hD24 (Ne.symm ne), some (.int x.1), some (.int x.2), rfl⟩
    rw [hm6.at_, putK_toK, List.take_add_one, ha]
    show _ = some (eqo (.dK (toK (sumsOf p (rows.take i ++ [x])))))
    rw [sumsOf_snoc]
    rfl
  · rintro σ1 F4 M4 H4 e4 c4 ⟨hD4, hD24, a4, a5, rfl⟩
    rw [List.take_length] at hD4
    unfold heldOf at q'
    generalize hsum : sumsOf p rows = s0 at hD4 q'
    have hkeys : KeysI s0 := hsum ▸ keys_sums p rows
    have hlen0 : s0.length ≤ 50000 := by
      have h1 := len_sums p rows
      rw [hsum] at h1
      omega
    obtain ⟨c5, e5⟩ := c4.done h0 hD4
    have hD25 : (mdel M4 d).f d2 = some (eqo (.dK [])) := (Md.del).keep hD24 (Ne.symm ne)
    generalize mdel M4 d = M5 at c5 hD25
    have hFd : (upd F4 d (.dK (toK s0))) d = some (.dK (toK s0)) := upd_same
    generalize upd F4 d (.dK (toK s0)) = F5 at c5 e5 hFd
    have hl5 : M5.l d = none := by
      rw [c5.l]
      exact c5.b.lnone h0
    have hnod : (srt (s0.map (·.1))).Nodup := nodup_srt hkeys
    have hmR2 : ∀ i : Int, Mono (pI i) := fun i => inferInstance
    refine q_for (srt (s0.map (·.1))) (fun i => pI i) (fun i σ1 F1 M1 => M1.f d2 = some (eqo (.dK (toK ((((srt (s0.map (·.1))).take i).filter fun o => decide (0 < (getI s0 o).getD 0)).map fun o => (o, (getI s0 o).getD 0))))) ∧ ∃ a4, σ1 = [some (.int p), some v__law_terms, some (.ref d), some (.ref d2), a4, a5, none])
      c5 (wk_list (S := pL ((srt (s0.map (·.1))).map fun i => pI i)) ?_ Ent.lq inferInstance) (fun F1 _ => ⟨hD25, a4, rfl⟩) (fun i σ1 F1 F2 M1 _ h => h) ?_ ?_
    · refine ev_cb (ea_cons (R := pL ((s0.map (·.1)).map fun i => pI i)) (ev_lock hFd hl5 fun ob => ?_) ea_nil inferInstance) (rc_sortedI Ent.lq)
      have hlk : (mlck M5 d ob).l d = some ob := if_pos rfl
      have := ev_lc (M := mlck M5 d ob) (F := F5) (σ := [some (.int p), some v__law_terms, some (.ref d), some (.ref d2), a4, a5, none]) (j := 6) (vs := [6]) (wi := iKeys (tVar 2)) (tt := tYes)
        (te := tCB (fun xs H Q => (∃ i, xs = [V.int i] ∧ Q (V.int i) H) ∨ ∃ k, xs = [V.bl k] ∧ Q (V.int (if k = true then 1 else 0)) H) (tCons (tVar 6) tNil)) (s0.map (·.1)) (fun i => pI i) (fun _ => true) (fun i => pI i) (wk_keysI (ev_varV rfl) hFd hlk) (by rw [List.length_map]; omega) (fun _ => rfl)
        (fun a x F1 _ _ _ => et_yes) (fun a x F1 _ _ hx _ => by
          obtain rfl : x = _ := hx.h
          exact ev_cb (ea_cons (ev_varV rfl) ea_nil inferInstance) rc_int1) (fun _ => inferInstance)
      rw [List.filter_eq_self.mpr (fun _ _ => rfl)] at this
      exact this
    · rintro F' e' i o vx σ1 F6 M6 H6 ha e6 c6 ⟨hD26, a4, rfl⟩ hx
      obtain rfl : vx = _ := hx.h
      show tIfS _ _ _ _ [some (.int p), some v__law_terms, some (.ref d), some (.ref d2), some (.int o), a5, none] H6
      have ho : o ∈ s0.map (·.1) := mem_srt.mp (List.mem_of_getElem? ha)
      obtain ⟨v, hv⟩ := getI_key ho
      have hF6 : F6 d = some (.dK (toK s0)) := e6 _ _ (e' _ _ hFd)
      refine s_if (b := decide (0 < v)) c6 (et_test (ev_op (ev_dgetI (ev_varV rfl) (ev_varV rfl) (.inl hF6) hv) ev_c rv_I0 inferInstance)) (fun hb F7 H7 c7 e7 => ?_) (fun hb F7 H7 c7 e7 => ?_)
      · refine s_dput (k := .inl o) (R := pI v) c7 hD26 h02 ?_ (ev_dgetI (ev_varV rfl) (ev_varV rfl) (.inl (e7 _ _ hF6)) hv) (ev_varV rfl) (ev_varV rfl) inferInstance fun F8 H8 M8 v8 c8 e8 hm8 hv8 => ?_
        · rw [toK_len, List.length_map]
          have h1 := List.length_filter_le (fun o => decide (0 < (getI s0 o).getD 0)) ((srt (s0.map (·.1))).take i)
          rw [List.length_take, (srt_perm _).length_eq, List.length_map] at h1
          omega
        · obtain rfl : v8 = _ := hv8.h
          refine ⟨F8, M8, c8, e6.trans (e7.trans e8), ?_, _, rfl⟩
          rw [hm8.at_, putK_toK, take_kept hnod ha, hv]
          simp only [Option.getD_some, hb, if_true]
      · refine ⟨F7, M6, c7, e6.trans e7, ?_, _, rfl⟩
        rw [hD26, take_kept hnod ha, hv]
        simp [hb]
    · rintro σ1 F6 M6 H6 e6 c6 ⟨hD26, a4, rfl⟩
      rw [List.take_length] at hD26
      obtain ⟨c7, e7⟩ := c6.done h02 hD26
      exact s_retE c7 q' (ev_varV rfl) (ent_ref upd_same)
end
abbrev c__law_pairs (K : PySem.W.Frag) : Con := ⟨(List (Int × Int)), fun l => [pDk (toK l)], fun l M => (∀ a, M.l a = none) ∧ l.length ≤ 50000 ∧ KeysI l, fun l => pL (l.map fun x => pT K [pI x.1, pI x.2]), fun l => 0⟩
theorem ev__law_pairs {K : PySem.W.Frag} {σ : L2.St} {F : Hp} {M M1 : MM} {tA_ : TA} {As_ Ds_ : List VP} {dvs : List V} {E : XK} (l : List (Int × Int)) (h : EvAM tA_ σ F M M1 As_) (hd : Al F Ds_ dvs) (he : Ents F (As_ ++ Ds_) [pDk (toK l)]) (hs : (∀ a, M1.l a = none) ∧ l.length ≤ 50000 ∧ KeysI l) (hm : Monos Ds_) : EvM (tCall (c__law_pairs K).sp dvs E tA_) σ F M M1 (pL (l.map fun x => pT K [pI x.1, pI x.2])) := ev_callD (c__law_pairs K) l h hd he hs hm
theorem evh__law_pairs {K : PySem.W.Frag} {σ : L2.St} {F : Hp} {M : MM} {tA_ : TA} {As_ : List VP} {E : L2.St → XK} (l : List (Int × Int)) (h : EvA tA_ σ F M As_) (he : Ents F As_ [pDk (toK l)]) (hs : (∀ a, M.l a = none) ∧ l.length ≤ 50000 ∧ KeysI l) : EvD (tCallS (c__law_pairs K).sp E tA_) σ F M (pL (l.map fun x => pT K [pI x.1, pI x.2])) := ev_callH (c__law_pairs K) l h he hs
abbrev s__law_pairs : Stmt := top 29
theorem sc__law_pairs : FnScope ["_law_held_here", "_law_offset"] ["_law_held_here"] (defScope s__law_pairs) := ⟨rfl, rfl, rfl, by decide +kernel, rfl, by decide +kernel, by decide +kernel⟩
section
theorem ok__law_pairs {f : Addr} {fd : FuncData} (D : FunD K "_law_pairs" "_law_pairs" (defArgs s__law_pairs) (defBody s__law_pairs) (defScope s__law_pairs) [] [] f fd) (T : Txt K mg) : FnOk P w K mg base CX0 1 f fd ["_law_held_here"] ((c__law_pairs K).sp) := by
  refine Con.ok _ D sc__law_pairs (fun _ => rfl) fun cdv A outer s H E hr => ⟨_, (pss_one (ps_ret (pe_lock (pe_lc (own := [("_law_offset", 1)]) (g := (gName 1)) (tt := tYes) rfl sc__law_pairs.nd (pi_keys (pv 0)) (blkOk_by (N := ["_law_held_here", "_law_offset"]) (sc := defScope s__law_pairs) (by decide +kernel)) (fun _ _ _ _ _ => (pg_name (i := 1) sc__law_pairs.nd rfl (by first | exact Or.inl rfl | exact Or.inr rfl))) (fun _ _ _ _ _ => pts_nil) (fun _ _ _ _ _ => (pe_tup (pa_cons (pv 1) (pa_cons (pe_dget (hu_of hr) (pv 0) (pv 1) (fun _ _ => rfl)) pa_nil)))))))), fun F M l vs Q c hv hs q => ?_⟩
  have hv' : Al F [pDk (toK l)] vs := hv
  have hs' : (∀ a, M.l a = none) ∧ l.length ≤ 50000 ∧ KeysI l := hs
  have c : Bx F M H F M H := c
  have q' : ∀ F' H' v', Gr M F H F' H' → (pL (l.map fun x => pT K [pI x.1, pI x.2])) F' v' → Q v' H' := q
  clear hv hs q
  obtain ⟨v__law_held_here, rfl, h__law_held_here⟩ := al1 hv'
  clear hv'
  rw [show L2.start ["_law_held_here", "_law_offset"] [v__law_held_here] = [some v__law_held_here, none] from rfl]
  obtain ⟨hl, hlen, hk⟩ := hs'
  obtain ⟨d, rfl, hd⟩ := id h__law_held_here.h
  refine s_retE c q' (R := pL ((l.filter fun _ => true).map fun x => pTt [pI x.1, pI x.2])) (ev_lock hd (hl d) fun ob => ?_) ?_
  · have hlk : (mlck M d ob).l d = some ob := if_pos rfl
    refine ev_lc l (fun x => pI x.1) (fun _ => true) (fun x => pTt [pI x.1, pI x.2]) ?_ (by omega) (fun _ => rfl) (fun a x F1 _ _ _ => et_yes) (fun a x F1 ha e1 hx _ => ?_) (fun _ => inferInstance)
    · have := wk_keysI (l := l) (σ := [some (V.ref d), none]) (td := tVar 0) (ev_varV rfl) hd hlk
      rw [List.map_map] at this
      exact this
    · obtain rfl : x = _ := hx.h
      exact ev_tup (ea_cons (ev_varV rfl) (ea_cons (ev_dgetI (ev_varV rfl) (ev_varV rfl) (.inl (e1 _ _ hd)) (getI_mem hk ha)) ea_nil inferInstance) inferInstance) (by show (2 : Nat) ≤ 100000; decide) inferInstance
  · rw [List.filter_eq_self.mpr (fun _ _ => rfl)]
    exact ent_pL (ents_map fun a _ => Ent.tt)
end
abbrev c__law_tried (K : PySem.W.Frag) : Con := ⟨(Th) × (Th), fun z => [pTh K z.1, pTh K z.2], fun z M => z.1.dep < 4 ∧ z.1.okS = true ∧ Th.len z.2 ≤ 50000, fun z => pTh K (triedT z.1 z.2), fun z => 0⟩
theorem ev__law_tried {K : PySem.W.Frag} {σ : L2.St} {F : Hp} {M M1 : MM} {tA_ : TA} {As_ Ds_ : List VP} {dvs : List V} {E : XK} (tp : Th) (tt : Th) (h : EvAM tA_ σ F M M1 As_) (hd : Al F Ds_ dvs) (he : Ents F (As_ ++ Ds_) [pTh K tp, pTh K tt]) (hs : tp.dep < 4 ∧ tp.okS = true ∧ Th.len tt ≤ 50000) (hm : Monos Ds_) : EvM (tCall (c__law_tried K).sp dvs E tA_) σ F M M1 (pTh K (triedT tp tt)) := ev_callD (c__law_tried K) (tp, tt) h hd he hs hm
theorem evh__law_tried {K : PySem.W.Frag} {σ : L2.St} {F : Hp} {M : MM} {tA_ : TA} {As_ : List VP} {E : L2.St → XK} (tp : Th) (tt : Th) (h : EvA tA_ σ F M As_) (he : Ents F As_ [pTh K tp, pTh K tt]) (hs : tp.dep < 4 ∧ tp.okS = true ∧ Th.len tt ≤ 50000) : EvD (tCallS (c__law_tried K).sp E tA_) σ F M (pTh K (triedT tp tt)) := ev_callH (c__law_tried K) (tp, tt) h he hs
abbrev s__law_tried : Stmt := top 32
theorem sc__law_tried : FnScope ["_law_p", "_law_rows", "_law_found", "e"] ["_law_p", "_law_rows"] (defScope s__law_tried) := ⟨rfl, rfl, rfl, by decide +kernel, rfl, by decide +kernel, by decide +kernel⟩
section
local macro_rules | `(tactic| walk_at "ev") => `(tactic| ((with_reducible apply ev_Filter_terms); walk_at "ev"; walk_at "en"; walk_at "ea"; walk_at "dv"; walk_at "ens"; walk_at "sd"; infer_instance))

local macro_rules | `(tactic| walk_at "ev") => `(tactic| ((with_reducible apply evh__law_frozen); walk_at "ea"; walk_at "ens"; walk_at "sd"))
theorem ok__law_tried {f : Addr} {fd : FuncData} (D : FunD K "_law_tried" "_law_tried" (defArgs s__law_tried) (defBody s__law_tried) (defScope s__law_tried) [] [] f fd) (T : Txt K mg) (h_Filter_terms : CalM P w K mg base 1 (He.ga K "Filter") "terms" ["self"] [] (c_Filter_terms K).sp) (h_Filter_dinit : CalKX P w K mg base 3 "Filter" ["self", "prime", "terms"] [] ((c_Filter_dinit K).sp (He.ga K "Filter"))) (h__law_frozen_H : CalH P w K mg base 5 "_law_frozen" ["_law_thing"] (c__law_frozen K 4).sp) : FnOk P w K mg base CX0 6 f fd ["_law_p", "_law_rows"] ((c__law_tried K).sp) := by
  refine Con.ok _ D sc__law_tried (fun _ => rfl) fun cdv A outer s H E hr => ⟨_, (pss_cons (ps_try_manyA' (K := K) (i := 3) rfl rfl rfl sc__law_tried.nd rfl rfl takesN0 (fun W pn xe tk2 po2 => (pss_one (ps_set (i := 2) sc__law_tried.nd rfl (by first | exact Or.inl rfl | exact Or.inr rfl) (pe_tup (pa_cons pe_str (pa_cons (pe_methC0 h_Filter_terms T.cl_Filter (hr.mono (by omega)) (pe_makeXC' (K := K) rfl h_Filter_dinit tk2 (hr.mono (by omega)) (by rfl) (pa_cons (pv 0) (pa_cons (pv 1) pa_nil)))) pa_nil)))))) (HdsA.cons ⟨by rfl, by decide, Or.inl T.g_BadPrime⟩ (fun a oe cls d pn hz hd => (pss_one (ps_set (i := 2) sc__law_tried.nd rfl (by first | exact Or.inl rfl | exact Or.inr rfl) (pe_tup (pa_cons pe_str (pa_cons (pe_callHC h__law_frozen_H (hot_suite hz hd) (roomH_suite hr (by omega)) (by rfl) (pa_cons (pe_xf' (K := K) rfl T.xf_BadPrime T.nf_BadPrime_prime hz.zc hd (pv 3)) pa_nil)) pa_nil)))))) (HdsA.cons ⟨by rfl, by decide, Or.inl T.g_BadTerm⟩ (fun a oe cls d pn hz hd => (pss_one (ps_set (i := 2) sc__law_tried.nd rfl (by first | exact Or.inl rfl | exact Or.inr rfl) (pe_tup (pa_cons pe_str (pa_cons (pe_xf' (K := K) rfl T.xf_BadTerm T.nf_BadTerm_index hz.zc hd (pv 3)) pa_nil)))))) HdsA.nil)))
      (pss_one (ps_ret (pv 2)))), fun F M a vs Q c hv hs q => ?_⟩
  obtain ⟨tp, tt⟩ := a
  have hv' : Al F [pTh K tp, pTh K tt] vs := hv
  have hs' : tp.dep < 4 ∧ tp.okS = true ∧ Th.len tt ≤ 50000 := hs
  have c : Bx F M H F M H := c
  have q' : ∀ F' H' v', Gr M F H F' H' → (pTh K (triedT tp tt)) F' v' → Q v' H' := q
  clear hv hs q
  obtain ⟨v__law_p, v__law_rows, rfl, h__law_p, h__law_rows⟩ := al2 hv'
  clear hv'
  rw [show L2.start ["_law_p", "_law_rows", "_law_found", "e"] [v__law_p, v__law_rows] = [some v__law_p, some v__law_rows, none, none] from rfl]
  obtain ⟨hdep, hokS, hlen⟩ := hs'
  have bad : ∀ (i : Int) F1 H1 (d a : Addr) (σ0 : L2.St) (D : Ends), Bx F M H F1 M H1 → F1 d = some (.xd [(("index" : Str), V.int i)]) → σ0[3]? = some (some (.ref a)) → (∀ F2 H2 v, Bx F M H F2 M H2 → Kn (pTh K (.seq true [.str "term", .int i])) F2 v → D.nx (σ0.set 2 (some v)) H2) →
      tAsg (tTup (tCons (tC (.str "term")) (tCons (tXf a (.ref (He.ga K "BadTerm")) (some d) (He.ga K "BadTerm") "index" (tVar 3)) tNil))) (gName 2) D σ0 H1 := fun i F1 H1 d a σ0 D c1 hd h3 q => by
    refine s_asg (R := pTh K (.seq true [.str "term", .int i])) c1 (EvM.ent (ev_tup (ea_cons ev_c (ea_cons (ev_xf (ev_varV h3) hd rfl) ea_nil inferInstance) inferInstance) (by show (2 : Nat) ≤ 100000; decide) inferInstance) ?_) fun F2 H2 v c2 e2 hv => q F2 H2 v c2 hv
    rw [th_2, th_str, th_int]
    exact Ent.tt
  cases hp : tp.isPrime with
  | false =>
    have ht : triedT tp tt = .seq true [.str "prime", tp.frozen] := by
      unfold triedT
      rw [hp]
    rw [ht] at q'
    show tAsg _ _ _ _ _
    refine er_asg (R := pV v__law_p) c (er_tup (ra_tl ev_c (ra_hd (er_meth (er_Filter_dinit tp v__law_p tt (ea_cons (ev_varV rfl) (ea_cons (ev_varV rfl) ea_nil inferInstance) inferInstance) .nil ⟨ent_tv h__law_p, Ent.var h__law_rows inferInstance, trivial⟩ hlen inferInstance (outF_badp hp)))))) c.nn fun F1 H1 d v c1 e1 hd hv => ?_
    refine ⟨true, T.xmt_BadPrime_BadPrime, fun _ a _ => ?_, fun z => by cases z⟩
    obtain rfl : v = v__law_p := hv
    refine s_asg (R := pTh K (.seq true [.str "prime", tp.frozen])) c1 (EvM.ent (ev_tup (ea_cons ev_c (ea_cons (evh__law_frozen tp (ea_cons (ev_xf (ev_varV rfl) hd rfl) ea_nil inferInstance) ⟨Ent.var (h__law_p.up e1) inferInstance, trivial⟩ ⟨hdep, hokS⟩) ea_nil inferInstance) inferInstance) (by show (2 : Nat) ≤ 100000; decide) inferInstance) ?_) fun F2 H2 v c2 e2 hv => ?_
    · rw [th_2, th_str]
      exact Ent.tt
    · exact s_retE c2 q' (ev_varV rfl) (Ent.var hv inferInstance)
  | true =>
    obtain ⟨p, rfl⟩ := prime_int hp
    have badI : ∀ i : Int, outF K (.int p) v__law_p tt = .ex (He.ga K "BadTerm") "index" (pI i) → triedT (.int p) tt = .seq true [.str "term", .int i] → tSeq
        (fun D σ H => tAsg (tTup (tCons (tC (V.str "made")) (tCons (tMeth (He.ga K "Filter") "terms" (c_Filter_terms K).sp [] E0 (tMakeSD (He.ga K "Filter") (IniX.sp (He.ga K "Filter") (c_Filter_dinit K)) [] (WE (wManyA K 3 (fun _ _ _ _ => False) D
          [(Value.ref (He.ga K "BadPrime"), fun a cls d => tAsg (tTup (tCons (tC (V.str "prime")) (tCons (tCallS (c__law_frozen K 4).sp (fun x => E0) (tCons (tXf a cls d (He.ga K "BadPrime") "prime" (tVar 3)) tNil)) tNil))) (gName 2)),
           (Value.ref (He.ga K "BadTerm"), fun a cls d => tAsg (tTup (tCons (tC (V.str "term")) (tCons (tXf a cls d (He.ga K "BadTerm") "index" (tVar 3)) tNil))) (gName 2))])) (tCons (tVar 0) (tCons (tVar 1) tNil))) tNil) tNil))) (gName 2) D σ H)
        (tRet (tVar 2)) { nx := fun x H' => Q V.non H', rt := Q } [some v__law_p, some v__law_rows, none, none] H := fun i ho ht => by
      rw [ht] at q'
      show tAsg _ _ _ _ _
      refine er_asg (R := pI i) c (er_tup (ra_tl ev_c (ra_hd (er_meth (er_Filter_dinit (.int p) v__law_p tt (ea_cons (ev_varV rfl) (ea_cons (ev_varV rfl) ea_nil inferInstance) inferInstance) .nil ⟨ent_tv h__law_p, Ent.var h__law_rows inferInstance, trivial⟩ hlen inferInstance ho))))) c.nn fun F1 H1 d v c1 e1 hd hv => ?_
      refine ⟨false, T.xmf_BadTerm_BadPrime, fun z => (by cases z), fun _ => ⟨true, T.xmt_BadTerm_BadTerm, fun _ a _ => ?_, fun z => by cases z⟩⟩
      obtain rfl : v = .int i := hv
      exact bad i F1 H1 d a _ _ c1 hd rfl fun F2 H2 v c2 hv => s_retE c2 q' (ev_varV rfl) (Ent.var hv inferInstance)
    cases tt with
    | seq b ts =>
      cases hf : firstBad ts with
      | some i =>
        refine badI (i : Int) (outF_bad hp hf) ?_
        unfold triedT
        rw [hp]
        show (match firstBad ts with | none => _ | some i => _) = _
        rw [hf]
      | none =>
        have ht : triedT (.int p) (.seq b ts) = .seq true [.str "made", pairsT (heldOf p (prs ts))] := by
          unfold triedT
          rw [hp]
          show (match firstBad ts with | none => _ | some i => _) = _
          rw [hf]
        rw [ht] at q'
        show tAsg _ _ _ _ _
        refine s_asg (R := pTh K (.seq true [.str "made", pairsT (heldOf p (prs ts))])) c (EvM.ent (ev_tup (ea_cons ev_c (ea_cons (ev_Filter_terms p (heldOf p (prs ts)) (ev_Filter_dinit (.int p) v__law_p (.seq b ts) (ea_cons (ev_varV rfl) (ea_cons (ev_varV rfl) ea_nil inferInstance) inferInstance) .nil ⟨ent_tv h__law_p, Ent.var h__law_rows inferInstance, trivial⟩ hlen inferInstance (outF_ok hp hf) (fun F F' fs => resF_up F F' fs)) Ent.refl ea_nil .nil trivial trivial inferInstance) ea_nil inferInstance) inferInstance) (by show (2 : Nat) ≤ 100000; decide) inferInstance) ?_) fun F2 H2 v c2 e2 hv => ?_
        · rw [th_2, th_str, th_pairs]
          exact Ent.trans (ent_pTt (Ss := [pS "made", pQ K ((heldOf p (prs ts)).map fun x => pT K [pI x.1, pI x.2])]) ⟨Ent.refl, Ent.lq, trivial⟩) Ent.tt
        · exact s_retE c2 q' (ev_varV rfl) (Ent.var hv inferInstance)
    | _ => exact badI 0 (outF_nosq hp rfl) (by unfold triedT; rw [hp])
end
def oddTerms : List Th := [.non, .int 5, .str "ab", .seq true [], .seq true [.int 1], .seq true [.int 1, .int 2, .int 3], .seq true [.int 1, .non], .seq true [.str "1", .int 2], .seq true [.bl true, .int 1], .seq true [.int 1, .bl false], .seq false [.int 1, .seq false [.int 2]], .dic [],
  .seq false [], .seq false [.non, .int 1], .seq true [.seq true [.int 1, .int 2]], .str "12", .dic [(.inl 1, .int 2)], .bl true, .seq false [.int 1, .str "x"], .seq false [.seq true [.int 1], .int 2]]
def oddPrimes : List Th := [.non, .int 0, .int 1, .int 4, .int 6, .int 9, .int 11, .int (-2), .int (-7), .bl true, .str "2", .str "", .seq true [.int 2], .seq false [.int 3], .dic [], .int (10 ^ (30 : Int).toNat + 57), .bl false]
theorem odd_terms_bad : ∀ t ∈ oddTerms, t.isTerm = false := by
  have h : oddTerms.all (fun t => !t.isTerm) = true := by decide +kernel
  intro t ht
  have := List.all_eq_true.mp h t ht
  simpa using this
theorem odd_facts : ∀ t ∈ oddPrimes, t.isPrime = false ∧ t.dep < 4 ∧ t.okS = true ∧ t.frozen.dep < 4 ∧ t.frozen.okS = true := by
  have h : oddPrimes.all (fun t => !t.isPrime && decide (t.dep < 4) && t.okS && decide (t.frozen.dep < 4) && t.frozen.okS) = true := by decide +kernel
  intro t ht
  have := List.all_eq_true.mp h t ht
  simp only [Bool.and_eq_true, Bool.not_eq_true', decide_eq_true_eq] at this
  obtain ⟨⟨⟨⟨h1, h2⟩, h3⟩, h4⟩, h5⟩ := this
  exact ⟨h1, h2, h3, h4, h5⟩
abbrev c__law_odd_terms (K : PySem.W.Frag) : Con := ⟨Unit, fun _ => [], fun _ M => True, fun _ => pL (oddTerms.map (pTh K)), fun _ => 0⟩
theorem ev__law_odd_terms {K : PySem.W.Frag} {σ : L2.St} {F : Hp} {M M1 : MM} {tA_ : TA} {As_ Ds_ : List VP} {dvs : List V} {E : XK}  (h : EvAM tA_ σ F M M1 As_) (hd : Al F Ds_ dvs) (he : Ents F (As_ ++ Ds_) []) (hs : True) (hm : Monos Ds_) : EvM (tCall (c__law_odd_terms K).sp dvs E tA_) σ F M M1 (pL (oddTerms.map (pTh K))) := ev_callD (c__law_odd_terms K) () h hd he hs hm
theorem evh__law_odd_terms {K : PySem.W.Frag} {σ : L2.St} {F : Hp} {M : MM} {tA_ : TA} {As_ : List VP} {E : L2.St → XK}  (h : EvA tA_ σ F M As_) (he : Ents F As_ []) (hs : True) : EvD (tCallS (c__law_odd_terms K).sp E tA_) σ F M (pL (oddTerms.map (pTh K))) := ev_callH (c__law_odd_terms K) () h he hs
abbrev c__law_odd_primes (K : PySem.W.Frag) : Con := ⟨Unit, fun _ => [], fun _ M => True, fun _ => pL (oddPrimes.map (pTh K)), fun _ => 0⟩
theorem ev__law_odd_primes {K : PySem.W.Frag} {σ : L2.St} {F : Hp} {M M1 : MM} {tA_ : TA} {As_ Ds_ : List VP} {dvs : List V} {E : XK}  (h : EvAM tA_ σ F M M1 As_) (hd : Al F Ds_ dvs) (he : Ents F (As_ ++ Ds_) []) (hs : True) (hm : Monos Ds_) : EvM (tCall (c__law_odd_primes K).sp dvs E tA_) σ F M M1 (pL (oddPrimes.map (pTh K))) := ev_callD (c__law_odd_primes K) () h hd he hs hm
theorem evh__law_odd_primes {K : PySem.W.Frag} {σ : L2.St} {F : Hp} {M : MM} {tA_ : TA} {As_ : List VP} {E : L2.St → XK}  (h : EvA tA_ σ F M As_) (he : Ents F As_ []) (hs : True) : EvD (tCallS (c__law_odd_primes K).sp E tA_) σ F M (pL (oddPrimes.map (pTh K))) := ev_callH (c__law_odd_primes K) () h he hs
abbrev s__law_odd_terms : Stmt := top 33
theorem sc__law_odd_terms : FnScope ["_law_found"] [] (defScope s__law_odd_terms) := ⟨rfl, rfl, rfl, by decide +kernel, rfl, by decide +kernel, by decide +kernel⟩
section
theorem ok__law_odd_terms {f : Addr} {fd : FuncData} (D : FunD K "_law_odd_terms" "_law_odd_terms" (defArgs s__law_odd_terms) (defBody s__law_odd_terms) (defScope s__law_odd_terms) [] [] f fd) (T : Txt K mg) : FnOk P w K mg base CX0 1 f fd [] ((c__law_odd_terms K).sp) := by
  refine Con.ok _ D sc__law_odd_terms (fun _ => rfl) fun cdv A outer s H E hr => ⟨_, (pss_cons (ps_set (i := 0) sc__law_odd_terms.nd rfl (by first | exact Or.inl rfl | exact Or.inr rfl) (pe_lst (pa_cons pe_non (pa_cons pe_int (pa_cons pe_str (pa_cons (pe_tup pa_nil) (pa_cons (pe_tup (pa_cons pe_int pa_nil)) (pa_cons (pe_tup (pa_cons pe_int (pa_cons pe_int (pa_cons pe_int pa_nil)))) (pa_cons (pe_tup (pa_cons pe_int (pa_cons pe_non pa_nil))) (pa_cons (pe_tup (pa_cons pe_str (pa_cons pe_int pa_nil))) (pa_cons (pe_tup (pa_cons pe_bl (pa_cons pe_int pa_nil))) (pa_cons (pe_tup (pa_cons pe_int (pa_cons pe_bl pa_nil))) (pa_cons (pe_lst (pa_cons pe_int (pa_cons (pe_lst (pa_cons pe_int pa_nil)) pa_nil))) (pa_cons pe_dnewK pa_nil))))))))))))))
      (pss_one (ps_ret (pe_op op_cat (pv 0) (pe_lst (pa_cons (pe_lst pa_nil) (pa_cons (pe_lst (pa_cons pe_non (pa_cons pe_int pa_nil))) (pa_cons (pe_tup (pa_cons (pe_tup (pa_cons pe_int (pa_cons pe_int pa_nil))) pa_nil)) (pa_cons pe_str (pa_cons (pe_disp (pps_cons pe_int pe_int pps_nil) rfl rfl (by intro z; cases z) (by decide)) (pa_cons pe_bl (pa_cons (pe_lst (pa_cons pe_int (pa_cons pe_str pa_nil))) (pa_cons (pe_lst (pa_cons (pe_tup (pa_cons pe_int pa_nil)) (pa_cons pe_int pa_nil))) pa_nil))))))))))))), fun F M a vs Q c hv hs q => ?_⟩
  have hv' : Al F [] vs := hv
  have hs' : True := hs
  have c : Bx F M H F M H := c
  have q' : ∀ F' H' v', Gr M F H F' H' → (pL (oddTerms.map (pTh K))) F' v' → Q v' H' := q
  clear hv hs q
  cases hv'
  rw [show L2.start ["_law_found"] [] = [none] from rfl]
  refine q_asg c (by walk_at "ev") fun F1 H1 v c1 e1 hv => ?_
  refine s_retE c1 q' (by walk_at "ev") (ent_pL ?_)
  show Ents _ _ (List.map _ (_ :: _))
  walk_at "ths"
end
abbrev s__law_odd_primes : Stmt := top 34
theorem sc__law_odd_primes : FnScope [] [] (defScope s__law_odd_primes) := ⟨rfl, rfl, rfl, by decide +kernel, rfl, by decide +kernel, by decide +kernel⟩
section
theorem ok__law_odd_primes {f : Addr} {fd : FuncData} (D : FunD K "_law_odd_primes" "_law_odd_primes" (defArgs s__law_odd_primes) (defBody s__law_odd_primes) (defScope s__law_odd_primes) [] [] f fd) (T : Txt K mg) : FnOk P w K mg base CX0 1 f fd [] ((c__law_odd_primes K).sp) := by
  refine Con.ok _ D sc__law_odd_primes (fun _ => rfl) fun cdv A outer s H E hr => ⟨_, (pss_one (ps_ret (pe_lst (pa_cons pe_non (pa_cons pe_int (pa_cons pe_int (pa_cons pe_int (pa_cons pe_int (pa_cons pe_int (pa_cons pe_int (pa_cons (pe_un un_neg pe_int) (pa_cons (pe_un un_neg pe_int) (pa_cons pe_bl (pa_cons pe_str (pa_cons pe_str (pa_cons (pe_tup (pa_cons pe_int pa_nil)) (pa_cons (pe_lst (pa_cons pe_int pa_nil)) (pa_cons pe_dnewK (pa_cons (pe_op op_add (pe_op op_pow pe_int pe_int) pe_int) (pa_cons pe_bl pa_nil)))))))))))))))))))), fun F M a vs Q c hv hs q => ?_⟩
  have hv' : Al F [] vs := hv
  have hs' : True := hs
  have c : Bx F M H F M H := c
  have q' : ∀ F' H' v', Gr M F H F' H' → (pL (oddPrimes.map (pTh K))) F' v' → Q v' H' := q
  clear hv hs q
  cases hv'
  rw [show L2.start [] [] = [] from rfl]
  refine s_retE c q' (by walk_at "ev") (ent_pL ?_)
  show Ents _ _ (List.map _ (_ :: _))
  walk_at "ths"
end
abbrev c_law (K : PySem.W.Frag) : Con := ⟨(List Int), fun ns => [pQ K (ns.map fun i => pI i)], fun ns M => M.n = 0 ∧ (∀ a, M.l a = none) ∧ ns.length ≤ 100, fun ns => pB true, fun ns => 1000⟩
theorem ev_law {K : PySem.W.Frag} {σ : L2.St} {F : Hp} {M M1 : MM} {tA_ : TA} {As_ Ds_ : List VP} {dvs : List V} {E : XK} (ns : List Int) (h : EvAM tA_ σ F M M1 As_) (hd : Al F Ds_ dvs) (he : Ents F (As_ ++ Ds_) [pQ K (ns.map fun i => pI i)]) (hs : M1.n = 0 ∧ (∀ a, M1.l a = none) ∧ ns.length ≤ 100) (hm : Monos Ds_) : EvM (tCall (c_law K).sp dvs E tA_) σ F M (M1.add (1000)) (pB true) := ev_callD (c_law K) ns h hd he hs hm
abbrev s_law : Stmt := top 35
theorem sc_law : FnScope ["_law_script", "_law_spring_here", "_law_turn", "_law_p", "_law_rows", "_law_k", "_law_at", "_law_bad", "_law_strange", "_law_things", "_law_thing", "_law_good", "_law_row"] ["_law_script"] (defScope s_law) := ⟨rfl, rfl, rfl, by decide +kernel, rfl, by decide +kernel, by decide +kernel⟩
section
local macro_rules | `(tactic| walk_at "ev") => `(tactic| ((with_reducible apply ev__law_held); walk_at "ea"; walk_at "dv"; walk_at "ens"; walk_at "sd"; infer_instance))
local macro_rules | `(tactic| walk_at "ev") => `(tactic| ((with_reducible apply ev__law_pairs); walk_at "ea"; walk_at "dv"; walk_at "ens"; walk_at "sd"; infer_instance))
local macro_rules | `(tactic| walk_at "ev") => `(tactic| ((with_reducible apply ev__law_tried); walk_at "ea"; walk_at "dv"; walk_at "ens"; walk_at "sd"; infer_instance))
local macro_rules | `(tactic| walk_at "ev") => `(tactic| ((with_reducible apply ev__law_same); walk_at "ea"; walk_at "dv"; walk_at "ens"; walk_at "sd"; infer_instance))
local macro_rules | `(tactic| walk_at "ev") => `(tactic| ((with_reducible apply ev__law_pick); walk_at "ea"; walk_at "dv"; walk_at "ens"; walk_at "sd"; infer_instance))

local macro_rules | `(tactic| walk_at "ev") => `(tactic| ((with_reducible apply ev__law_frozen); walk_at "ea"; walk_at "dv"; walk_at "ens"; walk_at "sd"; infer_instance))
local macro_rules | `(tactic| walk_at "ev") => `(tactic| ((with_reducible apply ev__law_odd_primes); walk_at "ea"; walk_at "dv"; walk_at "ens"; walk_at "sd"; infer_instance))
local macro_rules | `(tactic| walk_at "ev") => `(tactic| ((with_reducible apply ev__law_draw); walk_at "ea"; walk_at "dv"; walk_at "ens"; walk_at "sd"; infer_instance))
local macro_rules | `(tactic| walk_at "ev") => `(tactic| ((with_reducible apply ev__law_odd_terms); walk_at "ea"; walk_at "dv"; walk_at "ens"; walk_at "sd"; infer_instance))
local macro_rules | `(tactic| walk_at "ev") => `(tactic| ((with_reducible apply ev__law_prime); walk_at "ea"; walk_at "dv"; walk_at "ens"; walk_at "sd"; infer_instance))
local macro_rules | `(tactic| walk_at "ev") => `(tactic| ((with_reducible apply ev__law_spring); walk_at "ea"; walk_at "dv"; walk_at "ens"; walk_at "sd"; infer_instance))
theorem ok_law {f : Addr} {fd : FuncData} (D : FunD K "law" "law" (defArgs s_law) (defBody s_law) (defScope s_law) [] [] f fd) (T : Txt K mg) (h__law_held : Cal P w K mg base 1 "_law_held" ["_law_prime_here", "_law_terms"] (c__law_held K).sp) (h__law_pairs : Cal P w K mg base 1 "_law_pairs" ["_law_held_here"] (c__law_pairs K).sp) (h__law_tried : Cal P w K mg base 6 "_law_tried" ["_law_p", "_law_rows"] (c__law_tried K).sp) (h__law_same : Cal P w K mg base 6 "_law_same" ["_law_found", "_law_due"] (c__law_same K 5).sp) (h__law_pick : Cal P w K mg base 2 "_law_pick" ["_law_spring_here", "_law_things"] (c__law_pick K).sp) (h_Filter_dinit_d : CalKX P w K mg base 3 "Filter" ["self", "prime", "terms"] [.ref dF] ((c_Filter_dinit K).sp (He.ga K "Filter"))) (h__law_frozen : Cal P w K mg base 5 "_law_frozen" ["_law_thing"] (c__law_frozen K 4).sp) (h__law_odd_primes : Cal P w K mg base 1 "_law_odd_primes" [] (c__law_odd_primes K).sp) (h__law_draw : Cal P w K mg base 1 "_law_draw" ["_law_spring_here", "_law_many"] (c__law_draw K).sp) (h__law_odd_terms : Cal P w K mg base 1 "_law_odd_terms" [] (c__law_odd_terms K).sp) (h__law_prime : Cal P w K mg base 3 "_law_prime" ["_law_spring_here"] (c__law_prime K).sp) (h__law_spring : Cal P w K mg base 1 "_law_spring" ["_law_script"] (spSpring K)) (hdF:∀ F, SqT K F dF []) : FnOk P w K mg base CX0 7 f fd ["_law_script"] ((c_law K).sp) := by
  refine Con.ok _ D sc_law (fun _ => rfl) fun cdv A outer s H E hr => ⟨_, (pss_cons (ps_set (i := 1) sc_law.nd rfl (by first | exact Or.inl rfl | exact Or.inr rfl) (pe_callR h__law_spring (hr.mono (by omega)) (by rfl) (pa_cons (pv 0) pa_nil)))
      (pss_cons (ps_for PassesOwn.never rfl (pi_range1 (by rfl) T.n_range (pa_cons pe_int pa_nil)) (pg_name (i := 2) sc_law.nd rfl (by first | exact Or.inl rfl | exact Or.inr rfl)) (pss_cons (ps_par (i := 3) (j := 4) (by rfl) sc_law.nd rfl rfl (by decide) rfl rfl (pa_cons (pe_callC h__law_prime (hr.mono (by omega)) (by rfl) (pa_cons (pv 1) pa_nil)) (pa_cons (pe_lst pa_nil) pa_nil)) (by rfl))
      (pss_cons (ps_for PassesOwn.never rfl (pi_range1 (by rfl) T.n_range (pa_cons (pe_callC h__law_draw (hr.mono (by omega)) (by rfl) (pa_cons (pv 1) (pa_cons pe_int pa_nil))) pa_nil)) (pg_name (i := 5) sc_law.nd rfl (by first | exact Or.inl rfl | exact Or.inr rfl)) (pss_one (ps_expr (pe_bm' (K := K) rfl PySem.F.plainAttrs_list PySem.F.slot_list_append PySem.F.type_list_append mt_append (pv 4) (pa_cons (pe_tup (pa_cons (pe_op op_sub (pe_callC h__law_draw (hr.mono (by omega)) (by rfl) (pa_cons (pv 1) (pa_cons pe_int pa_nil))) pe_int) (pa_cons (pe_op op_sub (pe_callC h__law_draw (hr.mono (by omega)) (by rfl) (pa_cons (pv 1) (pa_cons pe_int pa_nil))) pe_int) pa_nil))) pa_nil)))))
      (pss_cons (ps_set (i := 6) sc_law.nd rfl (by first | exact Or.inl rfl | exact Or.inr rfl) (pe_callC h__law_draw (hr.mono (by omega)) (by rfl) (pa_cons (pv 1) (pa_cons (pe_op op_add (pe_callB (call_len' (K := K) rfl) (by rfl) T.n_len PySem.boot_len (pa_cons (pv 4) pa_nil)) pe_int) pa_nil))))
      (pss_cons (ps_set (i := 7) sc_law.nd rfl (by first | exact Or.inl rfl | exact Or.inr rfl) (pe_op op_cat (pe_op op_cat (pe_slice (sl_list' (K := K) rfl) (pv 4) po_none (po_some (pv 6))) (pe_lst (pa_cons (pe_callC h__law_pick (hr.mono (by omega)) (by rfl) (pa_cons (pv 1) (pa_cons (pe_callC0 h__law_odd_terms (hr.mono (by omega)) (by rfl)) pa_nil))) pa_nil))) (pe_slice (sl_list' (K := K) rfl) (pv 4) (po_some (pv 6)) po_none)))
      (pss_cons (ps_if (pt_cmpR op_eq (pe_callC h__law_draw (hr.mono (by omega)) (by rfl) (pa_cons (pv 1) (pa_cons pe_int pa_nil))) pe_int (nomark _)) (pss_one (ps_expr (pe_bm' (K := K) rfl PySem.F.plainAttrs_list PySem.F.slot_list_insert PySem.F.type_list_insert mt_insert (pv 7) (pa_cons (pe_op op_add (pe_op op_add (pv 6) pe_int) (pe_callC h__law_draw (hr.mono (by omega)) (by rfl) (pa_cons (pv 1) (pa_cons (pe_op op_add (pe_op op_sub (pe_callB (call_len' (K := K) rfl) (by rfl) T.n_len PySem.boot_len (pa_cons (pv 4) pa_nil)) (pv 6)) pe_int) pa_nil)))) (pa_cons (pe_callC h__law_pick (hr.mono (by omega)) (by rfl) (pa_cons (pv 1) (pa_cons (pe_callC0 h__law_odd_terms (hr.mono (by omega)) (by rfl)) pa_nil))) pa_nil))))) pss_nil)
      (pss_cons (ps_if (pt_not (pt_val (pe_callC h__law_same (hr.mono (by omega)) (by rfl) (pa_cons (pe_callC h__law_tried (hr.mono (by omega)) (by rfl) (pa_cons (pv 3) (pa_cons (pe_callC h__law_pick (hr.mono (by omega)) (by rfl) (pa_cons (pv 1) (pa_cons (pe_lst (pa_cons (pv 7) (pa_cons (pe_callTy (call_tuple' (K := K) rfl) (by rfl) T.n_tuple (by decide +kernel) (pa_cons (pv 7) pa_nil)) pa_nil))) pa_nil))) pa_nil))) (pa_cons (pe_tup (pa_cons pe_str (pa_cons (pv 6) pa_nil))) pa_nil))))) (pss_one (ps_ret pe_bl)) pss_nil)
      (pss_cons (ps_set (i := 8) sc_law.nd rfl (by first | exact Or.inl rfl | exact Or.inr rfl) (pe_callC h__law_pick (hr.mono (by omega)) (by rfl) (pa_cons (pv 1) (pa_cons (pe_callC0 h__law_odd_primes (hr.mono (by omega)) (by rfl)) pa_nil))))
      (pss_cons (ps_for PassesOwn.never rfl (pi_list' (K := K) rfl (pe_lst (pa_cons (pv 4) (pa_cons (pv 7) (pa_cons pe_non pa_nil))))) (pg_name (i := 9) sc_law.nd rfl (by first | exact Or.inl rfl | exact Or.inr rfl)) (pss_one (ps_if (pt_not (pt_val (pe_callC h__law_same (hr.mono (by omega)) (by rfl) (pa_cons (pe_callC h__law_tried (hr.mono (by omega)) (by rfl) (pa_cons (pv 8) (pa_cons (pv 9) pa_nil))) (pa_cons (pe_tup (pa_cons pe_str (pa_cons (pe_callC h__law_frozen (hr.mono (by omega)) (by rfl) (pa_cons (pv 8) pa_nil)) pa_nil))) pa_nil))))) (pss_one (ps_ret pe_bl)) pss_nil)))
      (pss_cons (ps_for PassesOwn.never rfl (pi_list' (K := K) rfl (pe_lst (pa_cons pe_non (pa_cons pe_int (pa_cons pe_str (pa_cons pe_str (pa_cons pe_dnewK (pa_cons pe_bl (pa_cons (pe_makeXC' (K := K) rfl h_Filter_dinit_d takesN0 (hr.mono (by omega)) (by rfl) (pa_cons (pv 3) pa_nil)) pa_nil))))))))) (pg_name (i := 10) sc_law.nd rfl (by first | exact Or.inl rfl | exact Or.inr rfl)) (pss_one (ps_if (pt_not (pt_val (pe_callC h__law_same (hr.mono (by omega)) (by rfl) (pa_cons (pe_callC h__law_tried (hr.mono (by omega)) (by rfl) (pa_cons (pv 3) (pa_cons (pv 10) pa_nil))) (pa_cons (pe_tup (pa_cons pe_str (pa_cons pe_int pa_nil))) pa_nil))))) (pss_one (ps_ret pe_bl)) pss_nil)))
      (pss_cons (ps_setLc (i := 11) (own := [("_law_row", 12)]) (g := (gName 12)) (tt := tYes) rfl sc_law.nd rfl rfl rfl (pi_list' (K := K) rfl (pv 4)) (blkOk_by (N := ["_law_script", "_law_spring_here", "_law_turn", "_law_p", "_law_rows", "_law_k", "_law_at", "_law_bad", "_law_strange", "_law_things", "_law_thing", "_law_good", "_law_row"]) (sc := defScope s_law) (by decide +kernel)) (fun _ _ _ _ _ => (pg_name (i := 12) sc_law.nd rfl (by first | exact Or.inl rfl | exact Or.inr rfl))) (fun _ _ _ _ _ => pts_nil) (fun _ _ _ _ _ => (pe_callC h__law_pick (hr.mono (by omega)) (by rfl) (pa_cons (pv 1) (pa_cons (pe_lst (pa_cons (pv 12) (pa_cons (pe_callTy (call_list' (K := K) rfl) (by rfl) T.n_list (by decide +kernel) (pa_cons (pv 12) pa_nil)) pa_nil))) pa_nil)))))
      (pss_one (ps_if (pt_not (pt_val (pe_callC h__law_same (hr.mono (by omega)) (by rfl) (pa_cons (pe_callC h__law_tried (hr.mono (by omega)) (by rfl) (pa_cons (pv 3) (pa_cons (pv 11) pa_nil))) (pa_cons (pe_tup (pa_cons pe_str (pa_cons (pe_callC h__law_pairs (hr.mono (by omega)) (by rfl) (pa_cons (pe_callC h__law_held (hr.mono (by omega)) (by rfl) (pa_cons (pv 3) (pa_cons (pv 4) pa_nil))) pa_nil)) pa_nil))) pa_nil))))) (pss_one (ps_ret pe_bl)) pss_nil)))))))))))))
      (pss_one (ps_ret pe_bl)))), fun F M ns vs Q c hv hs q => ?_⟩
  have hv' : Al F [pQ K (ns.map fun i => pI i)] vs := hv
  have hs' : M.n = 0 ∧ (∀ a, M.l a = none) ∧ ns.length ≤ 100 := hs
  have c : Bx F (M.add (1000)) H F M H := c
  have q' : ∀ F' H' v', Gr (M.add (1000)) F H F' H' → (pB true) F' v' → Q v' H' := q
  clear hv hs q
  obtain ⟨v__law_script, rfl, h__law_script⟩ := al1 hv'
  clear hv'
  rw [show L2.start ["_law_script", "_law_spring_here", "_law_turn", "_law_p", "_law_rows", "_law_k", "_law_at", "_law_bad", "_law_strange", "_law_things", "_law_thing", "_law_good", "_law_row"] [v__law_script] = [some v__law_script, none, none, none, none, none, none, none, none, none, none, none, none] from rfl]
  obtain ⟨hn0, hml, hns⟩ := hs'
  refine q_spring c (ea_cons (ev_varV rfl) ea_nil inferInstance) (Ent.var h__law_script inferInstance) hns fun F1 H1 M1 b l c1 e1 hS hn1 hl1 _ => ?_
  have hMe : (M.add 1000).n = 1000 := by show M.n + 1000 = 1000; omega
  refine q_for (List.range 8) (fun (i : Nat) => pI (i : Int)) (fun i σ1 F1 M1 => Spring M1.f b l ∧ M1.n ≤ 40 * i ∧ ∃ a2 a3 a4 a5 a6 a7 a8 a9 a10 a11 a12, σ1 = [some v__law_script, some (.ref b), a2, a3, a4, a5, a6, a7, a8, a9, a10, a11, a12])
    c1 (wk_rng1 (n := 8) (ea_cons ev_c ea_nil inferInstance) (by decide)) (fun F1 _ => ⟨hS, by omega, _, _, _, _, _, _, _, _, _, _, _, rfl⟩) (fun i σ1 F1 F2 M1 _ h => h) ?_ (fun σ1 F2 M2 H2 e2 c2 _ => s_retE c2 q' ev_c Ent.refl)
  rintro F' e' i ti x σ1 F2 M2 H2 ha e2 c2 ⟨hS2, hn2, a2, a3, a4, a5, a6, a7, a8, a9, a10, a11, a12, rfl⟩ hx
  have hi8 : i < 8 := by
    have := (List.getElem?_eq_some_iff.mp ha).1
    simpa using this
  have hn2' : M2.n ≤ 280 := by omega
  show tSeq _ _ _ [some v__law_script, some (.ref b), some x, a3, a4, a5, a6, a7, a8, a9, a10, a11, a12] H2
  have hnot : ∀ M : MM, ∀ a : Addr, M.f a = none → ∀ {φ}, M.f b = some φ → b ≠ a := fun M a h φ h2 z => by rw [z, h] at h2; cases h2
  refine q_parVN c2 (ev__law_prime b l (ea_cons (ev_varV rfl) ea_nil inferInstance) .nil ⟨Ent.refl, trivial⟩ ⟨hS2, by omega⟩ inferInstance) (en_lst (Rs := []) ea_nil (by decide)) (by show M2.n + 1 ≤ (M.add 1000).n; omega) inferInstance fun F3 H3 M3 vp r o c3 e3 hm3 h0r hfr hvp ho => ?_
  obtain ⟨⟨p, hp⟩, hpe⟩ := hvp.h
  obtain rfl : vp = .int p := hpe
  obtain ⟨vs, rfl, hal⟩ := ho
  cases hal
  have hbr : b ≠ r := fun z => by rw [← z] at hfr; rw [show (M2.add 1).f b = _ from hS2.hb] at hfr; cases hfr
  have hlr : l ≠ r := fun z => by rw [← z] at hfr; rw [show (M2.add 1).f l = _ from hS2.hl] at hfr; cases hfr
  have hS3 : Spring M3.f b l := Spring.mp (M := M2.add 1) hS2 hm3 hfr
  have hM3 : M3.n = M2.n + 1 := hm3.n
  show tSeq _ _ _ [some v__law_script, some (.ref b), some x, some (.int p), some (.ref r), a5, a6, a7, a8, a9, a10, a11, a12] H3
  refine q_forX (M1 := M3.add 1) (fun d : {d : Int // 0 ≤ d ∧ d < 6} => List.range d.1.toNat) (fun (i : Nat) => pI (i : Int))
    (fun d k σ1 F1 M1 => ∃ (rs : List (Int × Int)) (xs : List V), M1.f r = some (eqo (.lst xs)) ∧ Al F1 (rs.map fun x => pT K [pI x.1, pI x.2]) xs ∧ rs.length = k ∧ Spring M1.f b l ∧ M1.n ≤ M3.n + 1 + 2 * k ∧ ∃ (a5 : Option V), σ1 = [some v__law_script, some (.ref b), some x, some (.int p), some (.ref r), a5, a6, a7, a8, a9, a10, a11, a12])
    c3 (wkx_rng1 (n := fun d : {d : Int // 0 ≤ d ∧ d < 6} => d.1) (ea_cons (ev__law_draw b l 6 (ea_cons (ev_varV rfl) (ea_cons ev_c ea_nil inferInstance) inferInstance) .nil ⟨Ent.refl, Ent.refl, trivial⟩ ⟨hS3, by omega, by decide, by decide⟩ inferInstance) ea_nil inferInstance) (fun a => ⟨by have := a.2; omega, by have := a.2; omega⟩))
    (by show M3.n + 1 ≤ (M.add 1000).n; omega) (fun d F1 _ => ⟨[], [], hm3.at_, .nil, rfl, hS3, Nat.le_refl _, _, rfl⟩) (fun d k σ1 F1 F2 M1 e ⟨rs, xs, h1, h2, h3⟩ => ⟨rs, xs, h1, alRows_up e h2, h3⟩) ?_ ?_
  · rintro d F4 e4 k kk y σ1 F5 M5 H5 hk e5 c5 ⟨rs, xs, h51, h52, h53, hS5, hn5, a5', rfl⟩ hy
    have hk6 : k < 6 := by
      have := (List.getElem?_eq_some_iff.mp hk).1
      rw [List.length_range] at this
      have := d.2
      omega
    have hn5' : M5.n ≤ 300 := by omega
    show tDrop _ _ [some v__law_script, some (.ref b), some x, some (.int p), some (.ref r), some y, a6, a7, a8, a9, a10, a11, a12] H5
    refine s_appM (M1 := (M5.add 1).add 1) (R := pTt [pEx fun d : {d : Int // 0 ≤ d ∧ d < 25} => pI (d.1 - 12), pEx fun d : {d : Int // 0 ≤ d ∧ d < 31} => pI (d.1 - 15)]) c5 h51 h0r (by rw [← h52.length, List.length_map]; omega) (ev_varV rfl)
      (ev_tup (ea_cons (ev_op (ev__law_draw b l 25 (ea_cons (ev_varV rfl) (ea_cons ev_c ea_nil inferInstance) inferInstance) .nil ⟨Ent.refl, Ent.refl, trivial⟩ ⟨hS5, by omega, by decide, by decide⟩ inferInstance) ev_c (rv_exL fun d => rv_I0) inferInstance) (ea_cons (ev_op (ev__law_draw b l 31 (ea_cons (ev_varV rfl) (ea_cons ev_c ea_nil inferInstance) inferInstance) .nil ⟨Ent.refl, Ent.refl, trivial⟩ ⟨hS5, by show M5.n + 1 + 1 ≤ 1000000; omega, by decide, by decide⟩ inferInstance) ev_c (rv_exL fun d => rv_I0) inferInstance) ea_nil inferInstance) inferInstance) (by show (2 : Nat) ≤ 100000; decide) inferInstance)
      (by show M5.n + 1 + 1 ≤ (M.add 1000).n; omega) inferInstance fun F6 H6 M6 v c6 e6 hm6 hv => ?_
    obtain ⟨xy, hxy⟩ := row_of (K := K) hv.h
    refine ⟨F6, M6, c6, e5.trans e6, rs ++ [xy], xs ++ [v], hm6.at_, ?_, by rw [List.length_append, h53]; rfl, Spring.mp2 (M := (M5.add 1).add 1) hS5 hm6 hbr hlr, by rw [hm6.n]; show M5.n + 1 + 1 ≤ _; omega, _, rfl⟩
    rw [List.map_append]
    exact (alRows_up e6 h52).app (.cons hxy .nil)
  · rintro d σ1 F5 M5 H5 e5 c5 ⟨rs, xs, h51, h52, h53, hS5, hn5, a5', rfl⟩
    rw [List.length_range] at h53 hn5
    have hd6 := d.2
    have hlen : rs.length ≤ 5 := by omega
    have hn5' : M5.n ≤ M2.n + 12 := by omega
    obtain ⟨c6, e6⟩ := c5.done h0r h51
    have hS6 := hS5.del hbr hlr
    have hR6 : Kn (pL (rs.map fun x => pT K [pI x.1, pI x.2])) (upd F5 r (.lst xs)) (.ref r) := ⟨r, xs, rfl, upd_same, alRows_up e6 h52⟩
    have hM6n : (mdel M5 r).n ≤ M2.n + 12 := hn5'
    have hM6r : (mdel M5 r).f r = none := mdel_same
    generalize upd F5 r (.lst xs) = F6 at c6 e6 hR6
    generalize mdel M5 r = M6 at c6 hS6 hM6n hM6r
    have hmr : Monos (rs.map fun x => pT K [pI x.1, pI x.2]) := Monos.map (h := fun _ => inferInstance)
    refine q_asgM (M1 := M6.add 1) (R := pDr ((rs.length : Int) + 1)) c6 (ev__law_draw b l ((rs.length : Int) + 1) (ea_cons (ev_varV rfl) (ea_cons (R := pI ((rs.length : Int) + 1)) (EvM.ent (by walk_at "ev") (Ent.eq (by simp))) ea_nil inferInstance) inferInstance) .nil ⟨Ent.refl, Ent.refl, trivial⟩ ⟨hS6, by omega, by omega, by omega⟩ inferInstance) (by show M6.n + 1 ≤ (M.add 1000).n; omega) fun F7 H7 v7 c7 e7 hv7 => ?_
    obtain ⟨⟨ka, hk0, hk1⟩, hv7⟩ := hv7.h
    obtain rfl : v7 = .int ka := hv7
    obtain ⟨k, rfl⟩ : ∃ k : Nat, ka = (k : Int) := ⟨ka.toNat, by omega⟩
    have hk : k ≤ rs.length := by omega
    have hR7 := hR6.up e7
    show tSeq _ _ _ [some v__law_script, some (.ref b), some x, some (.int p), some (.ref r), a5', some (.int (k : Int)), a7, a8, a9, a10, a11, a12] H7
    refine q_asgNM (M1 := (M6.add 1).add 1) c7 (en_cat (Rs := cutR (rs.map fun x => pT K [pI x.1, pI x.2]) none (some (k : Int)) ++ [pOf K oddTerms]) (Ss := cutR (rs.map fun x => pT K [pI x.1, pI x.2]) (some (k : Int)) none)
      (ev_op (ev_slL (K := K) (Rs := rs.map fun x => pT K [pI x.1, pI x.2]) (ev_varV rfl) eo_none (eo_some (ev_varV rfl)) (Ent.trans (Ent.var hR7 inferInstance) Ent.lq) inferInstance inferInstance) (ev_lst (ea_cons (ev_pickT b l oddTerms (ev_varV rfl) (ev__law_odd_terms ea_nil .nil trivial trivial inferInstance) Ent.lq hS6 (by show M6.n + 1 + 1 ≤ 1000000; omega) (by decide) (by decide) inferInstance) ea_nil inferInstance) (by show (1 : Nat) ≤ 100000; decide) inferInstance) (rv_cat Ent.refl Ent.refl (by rw [cut_to _ k (by rw [List.length_map]; exact hk), List.length_take, List.length_map]; show _ + 1 ≤ 100000; omega) inferInstance inferInstance) inferInstance)
      (ev_slL (K := K) (Rs := rs.map fun x => pT K [pI x.1, pI x.2]) (ev_varV rfl) (eo_some (ev_varV rfl)) eo_none (Ent.trans (Ent.var hR7 inferInstance) Ent.lq) inferInstance inferInstance) Ent.refl Ent.refl (by
        rw [List.length_append, cut_to _ k (by rw [List.length_map]; exact hk), cut_from _ k (by rw [List.length_map]; exact hk), List.length_take, List.length_drop, List.length_map]
        show _ + 1 + _ ≤ 100000
        omega) inferInstance inferInstance) (by show M6.n + 1 + 1 ≤ (M.add 1000).n; omega) fun F8 H8 M8 q o c8 e8 hm8 h0q hfq ho => ?_
    obtain ⟨xs8, rfl, al8⟩ := ho
    obtain ⟨od, hod, al8⟩ := bad_of hk al8
    have hfb : firstBad ((rs.take k).map rowT ++ [od] ++ (rs.drop k).map rowT) = some k := by
      rw [fb_mid _ _ _ (odd_terms_bad od hod), List.length_take]
      congr 1
      omega
    have hbl : ((rs.take k).map rowT ++ [od] ++ (rs.drop k).map rowT).length ≤ 6 := by
      simp only [List.length_append, List.length_map, List.length_take, List.length_drop, List.length_cons, List.length_nil]
      omega
    generalize (rs.take k).map rowT ++ [od] ++ (rs.drop k).map rowT = bt at al8 hfb hbl
    have hkb : k < bt.length := by
      have : ∀ (xs : List Th) (i : Nat), firstBad xs = some i → i < xs.length := by
        intro xs
        induction xs with
        | nil => intro i h; cases h
        | cons y ys ih =>
          intro i h
          unfold firstBad at h
          cases hy : y.isTerm with
          | false => rw [hy] at h; cases h; simp
          | true =>
            rw [hy] at h
            simp only [if_true] at h
            cases hf : firstBad ys with
            | none => rw [hf] at h; cases h
            | some j =>
              rw [hf] at h
              cases h
              have := ih j hf
              simp only [List.length_cons]
              omega
      exact this bt k hfb
    have hS8 : Spring M8.f b l := Spring.mp (M := (M6.add 1).add 1) hS6 hm8 hfq
    have hbq : b ≠ q := hnot ((M6.add 1).add 1) q hfq hS6.hb
    have hlq : l ≠ q := fun z => by rw [← z] at hfq; rw [show ((M6.add 1).add 1).f l = _ from hS6.hl] at hfq; cases hfq
    have hM8n : M8.n ≤ M2.n + 14 := by rw [hm8.n]; show M6.n + 1 + 1 ≤ M2.n + 14; omega
    have hR8 := hR7.up e8
    show tSeq _ _ _ [some v__law_script, some (.ref b), some x, some (.int p), some (.ref r), a5', some (.int (k : Int)), some (.ref q), a8, a9, a10, a11, a12] H8
    have hm8a := hm8.at_
    clear hm8
    refine q_share (fun σ' H' => ∃ (F9 : Hp) (M9 : MM) (xs9 : List V) (bt9 : List Th), Bx F (M.add 1000) H F9 M9 H' ∧ Ex F8 F9 ∧ M9.f q = some (eqo (.lst xs9)) ∧ Al F9 (bt9.map (pTh K)) xs9 ∧ firstBad bt9 = some k ∧ bt9.length ≤ 7 ∧ Spring M9.f b l ∧ M9.n ≤ M2.n + 17 ∧
      σ' = [some v__law_script, some (.ref b), some x, some (.int p), some (.ref r), a5', some (.int (k : Int)), some (.ref q), a8, a9, a10, a11, a12]) ?_ fun hz => ?_
    · rintro σ' H' ⟨F9, M9, xs9, bt9, c9, e9, hq9, al9, hfb9, hbl9, hS9, hn9, rfl⟩
      obtain ⟨c10, e10⟩ := c9.done h0q hq9
      have hS10 := hS9.del hbq hlq
      have hBq : Kn (pQ K (bt9.map (pTh K))) (upd F9 q (.lst xs9)) (.ref q) := ⟨q, xs9, rfl, .inl (.inl upd_same), alThs_up e10 al9⟩
      have hR10 := hR8.up (e9.trans e10)
      have hn10 : (mdel M9 q).n ≤ M2.n + 17 := hn9
      have hMl : ∀ a, (mdel M9 q).l a = none := fun a => by rw [c10.l]; exact hml a
      have e910 : Ex F8 (upd F9 q (.lst xs9)) := e9.trans e10
      generalize upd F9 q (.lst xs9) = F10 at c10 hBq hR10 e910
      generalize mdel M9 q = M10 at c10 hS10 hn10 hMl
      clear e9 e10 hq9 al9 hS9 hn9 c9
      have hB : Kn (pTh K (.seq false bt9)) F10 (.ref q) := ⟨by rw [pTh_seq]; exact hBq.h⟩
      refine q_whenM (P := fun b => (!b) = true) (M1 := M10.add 1) c10 (etM_not (P := fun b => b = true) (etM_B (R := pB true) (ev__law_same (.seq true [.str "term", .int (k : Int)]) (ea_cons (R := pTh K (.seq true [.str "term", .int (k : Int)])) (M1 := M10.add 1) (EvM.ent
        (ev_callE (c__law_tried K) (fun bb : Bool => ((.int p, .seq bb bt9) : Th × Th)) (k := 0) (M1 := M10.add 1) (Rs := [pV (.int p), pOf K [.seq false bt9, .seq true bt9]])
          (ea_cons (ev_varV rfl) (ea_cons (ev_pickT b l [.seq false bt9, .seq true bt9] (ev_varV rfl) (ev_lst (Rs := [pV (.ref q), pTt (bt9.map (pTh K))]) (ea_cons (ev_varV rfl) (ea_cons (ev_tupleL (ea_cons (ev_varV rfl) ea_nil inferInstance) (Ent.var hBq inferInstance) inferInstance) ea_nil inferInstance) inferInstance) (by show (2 : Nat) ≤ 100000; decide) inferInstance) (Ent.trans (ent_pL (Ss := [pTh K (.seq false bt9), pTh K (.seq true bt9)]) ⟨Ent.var hB inferInstance, et_tup Ents.refl, trivial⟩) Ent.lq) hS10 (by omega) (by show (0 : Nat) < 2; decide) (by show (2 : Nat) < 1073741824; decide) inferInstance) ea_nil inferInstance) inferInstance)
          (fun F1 vs e hv => ?_) (fun bb => ⟨by simp [Th.dep], by simp [Th.okS], by show bt9.length ≤ 50000; omega⟩) (fun _ => rfl)) (ent_ex fun bb => ent_of (congrArg (pTh K) (tried_bad hp hfb9))))
        (ea_cons (ev_tup (ea_cons ev_c (ea_cons (ev_varV rfl) ea_nil inferInstance) inferInstance) (by show (2 : Nat) ≤ 100000; decide) inferInstance) ea_nil inferInstance) inferInstance) .nil ⟨Ent.refl, et_tup ⟨et_str, et_int, trivial⟩, trivial⟩ ⟨dep2 (by simp [Th.dep]) (by simp [Th.dep]), ok2 (by simp [Th.okS]) (by simp [Th.okS]), hMl⟩ inferInstance) (fun F v h => ⟨true, h, rfl⟩))) (by show M10.n + 1 ≤ (M.add 1000).n; omega) (fun z => by cases z) (fun _ F11 H11 c11 e11 => ?_)
      · cases hv with
        | cons h1 h2 =>
          cases h2 with
          | cons h2 h3 =>
            cases h3
            obtain ⟨⟨t, ht⟩, h2⟩ := h2
            rcases List.mem_cons.mp ht with e | ht
            · subst e
              exact ⟨false, .cons (et_int F1 _ (Ex.refl F1) h1) (.cons h2 .nil)⟩
            · have e := List.mem_singleton.mp ht
              subst e
              exact ⟨true, .cons (et_int F1 _ (Ex.refl F1) h1) (.cons h2 .nil)⟩
      · refine q_asgM (M1 := (M10.add 1).add 1) (R := pOf K oddPrimes) c11 (ev_pickT b l oddPrimes (ev_varV rfl) (ev__law_odd_primes ea_nil .nil trivial trivial inferInstance) Ent.lq hS10 (by show M10.n + 1 + 1 ≤ 1000000; omega) (by decide) (by decide) inferInstance) (by show M10.n + 1 + 1 ≤ (M.add 1000).n; omega) fun F12 H12 vS c12 e12 hvS => ?_
        obtain ⟨⟨ts, hts⟩, hvS⟩ := hvS.h
        have hT : Kn (pTh K ts) F12 vS := ⟨hvS⟩
        obtain ⟨f1, f2, f3, f4, f5⟩ := odd_facts ts hts
        have hB12 := hB.up (e11.trans e12)
        have hR12 := hR10.up (e11.trans e12)
        have hRt : Kn (pTh K (.seq false (rs.map rowT))) F12 (.ref r) := ⟨et_lst (by rw [rows_th]; exact Ents.refl) F12 _ (Ex.refl F12) hR12.h⟩
        have hn12 : ((M10.add 1).add 1).n ≤ M2.n + 19 := by show M10.n + 1 + 1 ≤ M2.n + 19; omega
        have hS12 : Spring ((M10.add 1).add 1).f b l := hS10
        have hMl12 : ∀ a, ((M10.add 1).add 1).l a = none := hMl
        generalize (M10.add 1).add 1 = M12 at c12 hn12 hS12 hMl12
        show tSeq _ _ _ [some v__law_script, some (.ref b), some x, some (.int p), some (.ref r), a5', some (.int (k : Int)), some (.ref q), some vS, a9, a10, a11, a12] H12
        refine q_for ([.seq false (rs.map rowT), .seq false bt9, .non] : List Th) (pTh K) (fun i σ1 F1 M1 => M1 = M12 ∧ ∃ a9, σ1 = [some v__law_script, some (.ref b), some x, some (.int p), some (.ref r), a5', some (.int (k : Int)), some (.ref q), some vS, a9, a10, a11, a12])
          c12 (wk_list (S := pL [pV (.ref r), pV (.ref q), pN]) (ev_lst (ea_cons (ev_varV rfl) (ea_cons (ev_varV rfl) (ea_cons ev_c ea_nil inferInstance) inferInstance) inferInstance) (by show (3 : Nat) ≤ 100000; decide) inferInstance) (Ent.trans (ent_pL (Ss := [pTh K (.seq false (rs.map rowT)), pTh K (.seq false bt9), pTh K .non]) ⟨Ent.var hRt inferInstance, Ent.var hB12 inferInstance, et_non, trivial⟩) Ent.lq) inferInstance)
          (fun F1 _ => ⟨rfl, _, rfl⟩) (fun i σ1 F1 F2 M1 _ h => h) ?_ ?_
        · rintro F' e' i t y σ1 F13 M13 H13 ha e13 c13 ⟨rfl, a9', rfl⟩ hy
          have htl : Th.len t ≤ 50000 := by
            rcases List.mem_cons.mp (List.mem_of_getElem? ha) with e | h
            · subst e
              show (rs.map rowT).length ≤ 50000
              rw [List.length_map]
              omega
            · rcases List.mem_cons.mp h with e | h
              · subst e
                show bt9.length ≤ 50000
                omega
              · have e := List.mem_singleton.mp h
                subst e
                exact Nat.zero_le _
          have hT13 := hT.up (e'.trans e13)
          show tIfS _ _ _ _ [some v__law_script, some (.ref b), some x, some (.int p), some (.ref r), a5', some (.int (k : Int)), some (.ref q), some vS, some y, a10, a11, a12] H13
          refine s_if (b := !true) c13 (et_not (et_B (ev__law_same (.seq true [.str "prime", ts.frozen]) (ea_cons (ev__law_tried ts t (ea_cons (ev_varV rfl) (ea_cons (ev_varV rfl) ea_nil inferInstance) inferInstance) .nil ⟨Ent.var hT13 inferInstance, Ent.var hy inferInstance, trivial⟩ ⟨f2, f3, htl⟩ inferInstance)
            (ea_cons (ev_tup (ea_cons ev_c (ea_cons (ev__law_frozen ts (ea_cons (ev_varV rfl) ea_nil inferInstance) .nil ⟨Ent.var hT13 inferInstance, trivial⟩ ⟨f2, f3⟩ inferInstance) ea_nil inferInstance) inferInstance) (by show (2 : Nat) ≤ 100000; decide) inferInstance) ea_nil inferInstance) inferInstance) .nil ⟨ent_of (congrArg (pTh K) (tried_badp f1)), et_tup ⟨et_str, Ent.refl, trivial⟩, trivial⟩ ⟨dep2 (by simp [Th.dep]) f4, ok2 (by simp [Th.okS]) f5, hMl12⟩ inferInstance))) (fun z => by cases z) (fun _ F14 H14 c14 e14 => ?_)
          exact ⟨F14, _, c14, e13.trans e14, rfl, _, rfl⟩
        · rintro σ1 F13 M13 H13 e13 c13 ⟨rfl, a9', rfl⟩
          have hP : Al F13 [pTh K (.seq true [])] [.ref dF] := .cons ⟨dF, [], rfl, hdF F13, .nil⟩ .nil
          refine q_for ([.non, .int 5, .str "ab", .str "", .dic [], .bl true, .own (He.ga K "Filter")] : List Th) (pTh K) (fun i σ1 F1 M1 => M1 = M13 ∧ ∃ a10, σ1 = [some v__law_script, some (.ref b), some x, some (.int p), some (.ref r), a5', some (.int (k : Int)), some (.ref q), some vS, a9', a10, a11, a12])
            c13 (wk_list (S := pL [pN, pI 5, pS "ab", pS "", pDk [], pB true, pF K p (heldOf p (prs []))]) (ev_lst (ea_cons ev_c (ea_cons ev_c (ea_cons ev_c (ea_cons ev_c (ea_cons ev_dnew (ea_cons ev_c (ea_cons (R := pF K p (heldOf p (prs [])))
              (ev_Filter_dinit (.int p) (.int p) (.seq true []) (ea_cons (ev_varV rfl) ea_nil inferInstance) hP ⟨fun F1 v e h => ⟨h, by rw [th_int]; rfl⟩, Ent.refl, trivial⟩ (Nat.zero_le _) inferInstance (outF_ok hp rfl) (fun F F' fs => resF_up F F' fs)) ea_nil inferInstance) inferInstance) inferInstance) inferInstance) inferInstance) inferInstance) inferInstance) (by show (7 : Nat) ≤ 100000; decide) inferInstance)
              (Ent.trans (ent_pL (Ss := [pTh K .non, pTh K (.int 5), pTh K (.str "ab"), pTh K (.str ""), pTh K (.dic []), pTh K (.bl true), pTh K (.own (He.ga K "Filter"))]) ⟨et_non, et_int, et_str, et_str, et_dic, et_bl, et_own T.own_Filter, trivial⟩) Ent.lq) inferInstance)
            (fun F1 _ => ⟨rfl, _, rfl⟩) (fun i σ1 F1 F2 M1 _ h => h) ?_ ?_
          · rintro F' e' i t y σ1 F14 M14 H14 ha e14 c14 ⟨rfl, a10', rfl⟩ hy
            have hts : t.isSq = false ∧ Th.len t ≤ 50000 := by
              have hm := List.mem_of_getElem? ha
              have : ∀ t ∈ ([.non, .int 5, .str "ab", .str "", .dic [], .bl true, .own (He.ga K "Filter")] : List Th), t.isSq = false ∧ Th.len t ≤ 50000 := by
                intro t ht
                simp only [List.mem_cons, List.not_mem_nil, or_false] at ht
                rcases ht with e | e | e | e | e | e | e <;> (subst e; exact ⟨rfl, Nat.zero_le _⟩)
              exact this t hm
            show tIfS _ _ _ _ [some v__law_script, some (.ref b), some x, some (.int p), some (.ref r), a5', some (.int (k : Int)), some (.ref q), some vS, a9', some y, a11, a12] H14
            refine s_if (b := !true) c14 (et_not (et_B (ev__law_same (.seq true [.str "term", .int 0]) (ea_cons (ev__law_tried (.int p) t (ea_cons (ev_varV rfl) (ea_cons (ev_varV rfl) ea_nil inferInstance) inferInstance) .nil ⟨et_int, Ent.var hy inferInstance, trivial⟩ ⟨by simp [Th.dep], by simp [Th.okS], hts.2⟩ inferInstance)
              (ea_cons (ev_tup (ea_cons ev_c (ea_cons ev_c ea_nil inferInstance) inferInstance) (by show (2 : Nat) ≤ 100000; decide) inferInstance) ea_nil inferInstance) inferInstance) .nil ⟨ent_of (congrArg (pTh K) (tried_nosq hp hts.1)), et_tup ⟨et_str, et_int, trivial⟩, trivial⟩ ⟨dep2 (by simp [Th.dep]) (by simp [Th.dep]), ok2 (by simp [Th.okS]) (by simp [Th.okS]), hMl12⟩ inferInstance))) (fun z => by cases z) (fun _ F15 H15 c15 e15 => ?_)
            exact ⟨F15, _, c15, e14.trans e15, rfl, _, rfl⟩
          · rintro σ1 F14 M14 H14 e14 c14 ⟨rfl, a10', rfl⟩
            have hR14 := hR12.up (e13.trans e14)
            refine q_asgM (M1 := ⟨M14.f, M14.l, M14.n + rs.length * 1⟩) (R := pL (rs.map fun x => pOf K [rowT x, .seq false [.int x.1, .int x.2]])) c14 (ev_ofN (en_lcM rs (fun x => pT K [pI x.1, pI x.2]) (fun x => pOf K [rowT x, .seq false [.int x.1, .int x.2]]) 1 (wk_list (ev_varV rfl) (Ent.trans (Ent.var hR14 inferInstance) Ent.lq) inferInstance) (by omega) (fun _ => rfl) (fun i a v F1 n hi hn e1 hv => ?_) (fun _ => inferInstance)) (Monos.map (h := fun _ => inferInstance))) (by show M14.n + rs.length * 1 ≤ (M.add 1000).n; omega) fun F15 H15 vg c15 e15 hg => ?_
            · have hil := (List.getElem?_eq_some_iff.mp hi).1
              refine ⟨(⟨M14.f, M14.l, n⟩ : MM).add 1, Nat.le_refl _, ?_⟩
              have hva : Kn (pTh K (rowT a)) F1 v := ⟨by rw [show rowT a = .seq true [.int a.1, .int a.2] from rfl, th_pair]; exact hv.h⟩
              refine ev_pickT (M1 := ⟨M14.f, M14.l, n⟩) b l [rowT a, .seq false [.int a.1, .int a.2]] (ev_varV rfl) (ev_lst (Rs := [pV v, pL [pI a.1, pI a.2]]) (ea_cons (ev_varV rfl) (ea_cons (ev_ofN (en_listT (K := K) (ea_cons (ev_varV rfl) ea_nil inferInstance) (Ent.var hv inferInstance)) inferInstance) ea_nil inferInstance) inferInstance) (by show (2 : Nat) ≤ 100000; decide) inferInstance) (Ent.trans (ent_pL (Ss := [pTh K (rowT a), pTh K (.seq false [.int a.1, .int a.2])]) ⟨Ent.var hva inferInstance, et_lst ⟨et_int, et_int, trivial⟩, trivial⟩) Ent.lq) hS12 (by show n + 1 ≤ 1000000; omega) (by show (0 : Nat) < 2; decide) (by show (2 : Nat) < 1073741824; decide) inferInstance
            · obtain ⟨ga, gxs, rfl, hgF, hgA⟩ := hg.h
              obtain ⟨gt, g1, g2, g3, g4⟩ := good_of hgA
              have hG : Kn (pTh K (.seq false gt)) F15 (.ref ga) := ⟨by rw [pTh_seq]; exact (show pQ K _ _ _ from ⟨ga, gxs, rfl, .inl (.inl hgF), g1⟩)⟩
              have hR15 := hR14.up e15
              have hMl15 : ∀ a, (⟨M14.f, M14.l, M14.n + rs.length * 1⟩ : MM).l a = none := hMl12
              have hp0 : 0 < p := by have := prime_mem hp; omega
              have hl1 := len_held p rs
              have hpo := pairsT_ok (heldOf p rs) (by omega)
              show tIfS _ _ _ _ [some v__law_script, some (.ref b), some x, some (.int p), some (.ref r), a5', some (.int (k : Int)), some (.ref q), some vS, a9', a10', some (.ref ga), a12] H15
              refine s_if (b := !true) c15 (et_not (et_B (ev__law_same (.seq true [.str "made", pairsT (heldOf p rs)]) (ea_cons (ev__law_tried (.int p) (.seq false gt) (ea_cons (ev_varV rfl) (ea_cons (ev_varV rfl) ea_nil inferInstance) inferInstance) .nil ⟨et_int, Ent.var hG inferInstance, trivial⟩ ⟨by simp [Th.dep], by simp [Th.okS], by show gt.length ≤ 50000; omega⟩ inferInstance)
                (ea_cons (ev_tup (ea_cons ev_c (ea_cons (ev__law_pairs (heldOf p rs) (ea_cons (ev__law_held p rs (ea_cons (ev_varV rfl) (ea_cons (ev_varV rfl) ea_nil inferInstance) inferInstance) .nil ⟨Ent.refl, Ent.trans (Ent.var hR15 inferInstance) Ent.lq, trivial⟩ ⟨hp0, by omega⟩ inferInstance) ea_nil inferInstance) .nil ⟨Ent.refl, trivial⟩ ⟨hMl15, by omega, keys_held p rs⟩ inferInstance) ea_nil inferInstance) inferInstance) (by show (2 : Nat) ≤ 100000; decide) inferInstance) ea_nil inferInstance) inferInstance) .nil
                ⟨ent_of (congrArg (pTh K) (by rw [tried_good hp g3, g2])), et_tup ⟨et_str, Ent.trans Ent.lq (ent_of (th_pairs _).symm), trivial⟩, trivial⟩ ⟨dep2 (by simp [Th.dep]) (by omega), ok2 (by simp [Th.okS]) hpo.1, hMl15⟩ inferInstance))) (fun z => by cases z) (fun _ F16 H16 c16 e16 => ?_)
              refine ⟨F16, _, c16, e2.trans (e3.trans (e5.trans (e6.trans (e7.trans (e8.trans (e910.trans (e11.trans (e12.trans (e13.trans (e14.trans (e15.trans e16))))))))))), hS12, ?_, _, _, _, _, _, _, _, _, _, _, _, rfl⟩
              show M14.n + rs.length * 1 ≤ 40 * (i + 1)
              omega
    · refine s_ifM (P := fun _ => True) (M1 := M8.add 1) c8 (etM_test (ev_op (ev__law_draw b l 2 (ea_cons (ev_varV rfl) (ea_cons ev_c ea_nil inferInstance) inferInstance) .nil ⟨Ent.refl, Ent.refl, trivial⟩ ⟨hS8, by omega, by decide, by decide⟩ inferInstance) ev_c (rv_exL fun d => rv_eq rfl) inferInstance) (fun F v ⟨d, h⟩ => ⟨_, h, trivial⟩)) (by show M8.n + 1 ≤ (M.add 1000).n; omega) (fun _ F9 H9 c9 e9 => ?_) (fun _ F9 H9 c9 e9 => ?_)
      · refine s_insM (M := M8.add 1) (M1 := (M8.add 1).add 1) (M2 := ((M8.add 1).add 1).add 1) (n := fun d : {d : Int // 0 ≤ d ∧ d < (rs.length : Int) - (k : Int) + 1} => (k : Int) + 1 + d.1) (R := pOf K oddTerms) c9 hm8a h0q (by rw [← al8.length, List.length_map]; omega) (ev_varV rfl)
          (ev_op (S := pI ((k : Int) + 1)) (by walk_at "ev") (ev__law_draw b l ((rs.length : Int) - (k : Int) + 1) (ea_cons (ev_varV rfl) (ea_cons (R := pI ((rs.length : Int) - (k : Int) + 1)) (EvM.ent (by walk_at "ev") (Ent.eq (by simp))) ea_nil inferInstance) inferInstance) .nil ⟨Ent.refl, Ent.refl, trivial⟩ ⟨hS8, by show M8.n + 1 + 1 ≤ 1000000; omega, by omega, by omega⟩ inferInstance) (rv_exR fun d => rv_I0) inferInstance)
          (fun d => ⟨by have := d.2; omega, by have := d.2; omega⟩)
          (ev_pickT b l oddTerms (ev_varV rfl) (ev__law_odd_terms ea_nil .nil trivial trivial inferInstance) Ent.lq hS8 (by show M8.n + 1 + 1 + 1 ≤ 1000000; omega) (by decide) (by decide) inferInstance) (by show M8.n + 1 + 1 + 1 ≤ (M.add 1000).n; omega) inferInstance fun F10 H10 M10 d v c10 e10 hm10 hv => ?_
        obtain ⟨o2, ho2, al10⟩ := ins_of (K := K) ((k : Int) + 1 + d.1).toNat (alThs_up (e9.trans e10) al8) hv.h
        refine hz _ _ ⟨F10, M10, _, _, c10, e9.trans e10, hm10.at_, al10, fb_ins hfb (by have := d.2; omega), ?_, Spring.mp2 (M := ((M8.add 1).add 1).add 1) hS8 hm10 hbq hlq, by rw [hm10.n]; show M8.n + 1 + 1 + 1 ≤ M2.n + 17; omega, rfl⟩
        simp only [List.length_append, List.length_take, List.length_drop, List.length_cons, List.length_nil]
        omega
      · exact hz _ _ ⟨F9, M8.add 1, xs8, bt, c9, e9, hm8a, alThs_up e9 al8, hfb, by omega, hS8, by show M8.n + 1 ≤ M2.n + 17; omega, rfl⟩
end
end
end Pk
namespace Hd
open PySem PySem.Spec PyProof.Rows L2 Fw
def d0 : He.DefD := ⟨("BadPrime", some "__init__"), "__init__", "BadPrime.__init__", defArgs Pk.s_BadPrime_dinit, defBody Pk.s_BadPrime_dinit, defScope Pk.s_BadPrime_dinit, [], []⟩
def d1 : He.DefD := ⟨("BadTerm", some "__init__"), "__init__", "BadTerm.__init__", defArgs Pk.s_BadTerm_dinit, defBody Pk.s_BadTerm_dinit, defScope Pk.s_BadTerm_dinit, [], []⟩
def d2 : He.DefD := ⟨("is_integer", none), "is_integer", "is_integer", defArgs Pk.s_is_integer, defBody Pk.s_is_integer, defScope Pk.s_is_integer, [], []⟩
def d3 : He.DefD := ⟨("is_list", none), "is_list", "is_list", defArgs Pk.s_is_list, defBody Pk.s_is_list, defScope Pk.s_is_list, [], []⟩
def d4 : He.DefD := ⟨("is_prime", none), "is_prime", "is_prime", defArgs Pk.s_is_prime, defBody Pk.s_is_prime, defScope Pk.s_is_prime, [], []⟩
def d5 : He.DefD := ⟨("is_term", none), "is_term", "is_term", defArgs Pk.s_is_term, defBody Pk.s_is_term, defScope Pk.s_is_term, [], []⟩
def d6 : He.DefD := ⟨("Filter", some "__init__"), "__init__", "Filter.__init__", defArgs Pk.s_Filter_dinit, defBody Pk.s_Filter_dinit, defScope Pk.s_Filter_dinit, [.adr (He.dflAt ("Filter", some "__init__") 0)], []⟩
def d7 : He.DefD := ⟨("Filter", some "terms"), "terms", "Filter.terms", defArgs Pk.s_Filter_terms, defBody Pk.s_Filter_terms, defScope Pk.s_Filter_terms, [], []⟩
def d8 : He.DefD := ⟨("_law_frozen", none), "_law_frozen", "_law_frozen", defArgs Pk.s__law_frozen, defBody Pk.s__law_frozen, defScope Pk.s__law_frozen, [], []⟩
def d9 : He.DefD := ⟨("_law_same", none), "_law_same", "_law_same", defArgs Pk.s__law_same, defBody Pk.s__law_same, defScope Pk.s__law_same, [], []⟩
def d10 : He.DefD := ⟨("_law_draw", none), "_law_draw", "_law_draw", defArgs Pk.s__law_draw, defBody Pk.s__law_draw, defScope Pk.s__law_draw, [], []⟩
def d11 : He.DefD := ⟨("_law_pick", none), "_law_pick", "_law_pick", defArgs Pk.s__law_pick, defBody Pk.s__law_pick, defScope Pk.s__law_pick, [], []⟩
def d12 : He.DefD := ⟨("_law_spring", none), "_law_spring", "_law_spring", defArgs Pk.s__law_spring, defBody Pk.s__law_spring, defScope Pk.s__law_spring, [], []⟩
def d13 : He.DefD := ⟨("_law_prime", none), "_law_prime", "_law_prime", defArgs Pk.s__law_prime, defBody Pk.s__law_prime, defScope Pk.s__law_prime, [], []⟩
def d14 : He.DefD := ⟨("_law_held", none), "_law_held", "_law_held", defArgs Pk.s__law_held, defBody Pk.s__law_held, defScope Pk.s__law_held, [], []⟩
def d15 : He.DefD := ⟨("_law_pairs", none), "_law_pairs", "_law_pairs", defArgs Pk.s__law_pairs, defBody Pk.s__law_pairs, defScope Pk.s__law_pairs, [], []⟩
def d16 : He.DefD := ⟨("_law_tried", none), "_law_tried", "_law_tried", defArgs Pk.s__law_tried, defBody Pk.s__law_tried, defScope Pk.s__law_tried, [], []⟩
def d17 : He.DefD := ⟨("_law_odd_terms", none), "_law_odd_terms", "_law_odd_terms", defArgs Pk.s__law_odd_terms, defBody Pk.s__law_odd_terms, defScope Pk.s__law_odd_terms, [], []⟩
def d18 : He.DefD := ⟨("_law_odd_primes", none), "_law_odd_primes", "_law_odd_primes", defArgs Pk.s__law_odd_primes, defBody Pk.s__law_odd_primes, defScope Pk.s__law_odd_primes, [], []⟩
def d19 : He.DefD := ⟨("law", none), "law", "law", defArgs Pk.s_law, defBody Pk.s_law, defScope Pk.s_law, [], []⟩
def fn : List He.DefD := [d0, d1, d2, d3, d4, d5, d6, d7, d8, d9, d10, d11, d12, d13, d14, d15, d16, d17, d18, d19]
def fs : List Fb := [fun K => baseB K (He.ga K "SeenError"),
  fun K => (He.Fa.cls "Filter").ok K,
  fun K => (He.Fa.glo "BadPrime").ok K,
  fun K => (He.Fa.glo "BadTerm").ok K,
  fun K => (He.Fa.glo "PRIMES").ok K,
  fun K => (He.Fa.glo "SeenError").ok K,
  fun K => (He.Fa.free "all").ok K,
  fun K => (He.Fa.free "bool").ok K,
  fun K => (He.Fa.free "dict").ok K,
  fun K => (He.Fa.free "enumerate").ok K,
  fun K => (He.Fa.free "int").ok K,
  fun K => (He.Fa.free "isinstance").ok K,
  fun K => (He.Fa.free "len").ok K,
  fun K => (He.Fa.free "list").ok K,
  fun K => (He.Fa.free "range").ok K,
  fun K => (He.Fa.free "sorted").ok K,
  fun K => (He.Fa.free "tuple").ok K,
  fun K => (He.Fa.free "zip").ok K,
  fun K => (He.Fa.noat "Filter" "held").ok K,
  fun K => (He.Fa.noat "Filter" "kept").ok K,
  fun K => (He.Fa.noat "Filter" "prime").ok K,
  fun K => (He.Fa.noat "BadPrime" "prime").ok K,
  fun K => (He.Fa.noat "BadTerm" "index").ok K,
  fun K => oexB K (He.ga K "BadPrime"),
  fun K => oexB K (He.ga K "BadTerm"),
  fun K => ownB K "Filter",
  fun K => He.tupB K "PRIMES" [.int 2, .int 3, .int 5, .int 7],
  fun K => L2.xfB K (He.ga K "BadPrime"),
  fun K => L2.xfB K (He.ga K "BadTerm"),
  fun K => (He.Fa.exm "BadTerm" "BadPrime" false).ok K,
  fun K => (He.Fa.exm "BadPrime" "BadPrime" true).ok K,
  fun K => (He.Fa.exm "BadTerm" "BadTerm" true).ok K,
  fun K => (He.Fa.glo "law").ok K,
  fun K => (He.Fa.meth "BadPrime" "__init__").ok K,
  fun K => (He.Fa.meth "BadTerm" "__init__").ok K,
  fun K => (He.Fa.glo "is_integer").ok K,
  fun K => (He.Fa.glo "is_list").ok K,
  fun K => (He.Fa.glo "is_prime").ok K,
  fun K => (He.Fa.glo "is_term").ok K,
  fun K => (He.Fa.mkr "Filter").ok K,
  fun K => (He.Fa.glo "Filter").ok K,
  fun K => (He.Fa.meth "Filter" "terms").ok K,
  fun K => (He.Fa.glo "_law_frozen").ok K,
  fun K => (He.Fa.glo "_law_same").ok K,
  fun K => (He.Fa.glo "_law_draw").ok K,
  fun K => (He.Fa.glo "_law_pick").ok K,
  fun K => (He.Fa.glo "_law_spring").ok K,
  fun K => (He.Fa.glo "_law_prime").ok K,
  fun K => (He.Fa.glo "_law_held").ok K,
  fun K => (He.Fa.glo "_law_pairs").ok K,
  fun K => (He.Fa.glo "_law_tried").ok K,
  fun K => (He.Fa.glo "_law_odd_terms").ok K,
  fun K => (He.Fa.glo "_law_odd_primes").ok K,
  fun K => tupAt K (He.dflAt ("Filter", some "__init__") 0 K) []]
abbrev R : PySem.W.OpenRow := PySem.W.OpenLaw.row PySem.Challenge.rw_seenrows_k02_filters_refused
abbrev hk : PySem.W.Hook := hookF 6 fs fn
def ob (s : PySem.W.SharedT) : He.AlD := obsFG 6 fs fn (HandSHeadRun.getT s)
theorem ob_eq (s : PySem.W.SharedT) : ob s = hk.obs s.abs := obsFG_eq (HandSHeadRun.getT_eq s)
def names : List PySem.Str := (["PRIMES", "is_integer", "is_list", "is_prime", "inverse", "SeenError", "BadPrime", "BadTerm", "UnlikePrimes", "ZeroFilter", "divided", "product_rest", "shift_rest", "far_rest", "check_primes", "NEAR", "is_term", "divisor_of", "Filter", "_law_spring"] : List PySem.Str) ++ (["_law_draw", "_law_pick", "_law_same", "_law_held", "_law_pairs", "_law_prime", "_law_frozen", "_law_tried", "_law_odd_terms", "_law_odd_primes"] : List PySem.Str)
theorem run (w : World) : HandSHeadRun.RunEq R (PySem.W.view R.prog [35]) hk ob 4000 names w := by
  intro os
  kernel_rfl
theorem facts {P : Program} {w : World} {K : PySem.W.Frag} {h : Heap} {mg : Str → Option Value} {f : Addr} (X : K.In h) (G : h.Ns mainGlobals mg) (hfa : mg ("law" : Str) = some (.ref f)) (c : SaysF fs fn K) :
    ∃ fd : FuncData, (∀ (s : Shared) (v : Value), BindsTo s fd ⟨[v], []⟩ [("_law_script", v)]) ∧ ∀ base : Heap, K.In base → base.Ns mainGlobals mg → FnOk P w K mg base CX0 7 f fd ["_law_script"] (Pk.c_law K).sp := by
  have T : Pk.Txt K mg := ⟨baseB_ok (c.fact 0), He.cls_ok (c.fact 1), He.glo_ok X G (c.fact 2), He.glo_ok X G (c.fact 3), He.glo_ok X G (c.fact 4), He.glo_ok X G (c.fact 5), He.free_ok X G (c.fact 6), He.free_ok X G (c.fact 7), He.free_ok X G (c.fact 8), He.free_ok X G (c.fact 9), He.free_ok X G (c.fact 10), He.free_ok X G (c.fact 11), He.free_ok X G (c.fact 12), He.free_ok X G (c.fact 13), He.free_ok X G (c.fact 14), He.free_ok X G (c.fact 15), He.free_ok X G (c.fact 16), He.free_ok X G (c.fact 17), He.noat_ok (c.fact 18), He.noat_ok (c.fact 19), He.noat_ok (c.fact 20), He.noat_ok (c.fact 21), He.noat_ok (c.fact 22), oexB_ok (c.fact 23), oexB_ok (c.fact 24), ownB_ok (c.fact 25), fun F => He.tupB_ok (c.fact 26) F, L2.xfB_ok (c.fact 27), L2.xfB_ok (c.fact 28), He.exm_ok (c.fact 29), He.exm_ok (c.fact 30), He.exm_ok (c.fact 31)⟩
  obtain ⟨fd0, F0⟩ := c.def_ 0 (d := d0) rfl
  have F0 : FunD K "__init__" "BadPrime.__init__" (defArgs Pk.s_BadPrime_dinit) (defBody Pk.s_BadPrime_dinit) (defScope Pk.s_BadPrime_dinit) [] [] (He.fAd K ("BadPrime", some "__init__")) fd0 := F0
  have B0 : Binds K fd0 ["self", "prime"] [] := F0.bindsN fun _ _ _ _ _ _ us hl => match us, hl with | [_, _], _ => rfl
  obtain ⟨fd1, F1⟩ := c.def_ 1 (d := d1) rfl
  have F1 : FunD K "__init__" "BadTerm.__init__" (defArgs Pk.s_BadTerm_dinit) (defBody Pk.s_BadTerm_dinit) (defScope Pk.s_BadTerm_dinit) [] [] (He.fAd K ("BadTerm", some "__init__")) fd1 := F1
  have B1 : Binds K fd1 ["self", "index"] [] := F1.bindsN fun _ _ _ _ _ _ us hl => match us, hl with | [_, _], _ => rfl
  obtain ⟨fd2, F2⟩ := c.def_ 2 (d := d2) rfl
  have F2 : FunD K "is_integer" "is_integer" (defArgs Pk.s_is_integer) (defBody Pk.s_is_integer) (defScope Pk.s_is_integer) [] [] (He.fAd K ("is_integer", none)) fd2 := F2
  have B2 : Binds K fd2 ["thing"] [] := F2.bindsN fun _ _ _ _ _ _ us hl => match us, hl with | [_], _ => rfl
  obtain ⟨fd3, F3⟩ := c.def_ 3 (d := d3) rfl
  have F3 : FunD K "is_list" "is_list" (defArgs Pk.s_is_list) (defBody Pk.s_is_list) (defScope Pk.s_is_list) [] [] (He.fAd K ("is_list", none)) fd3 := F3
  have B3 : Binds K fd3 ["thing"] [] := F3.bindsN fun _ _ _ _ _ _ us hl => match us, hl with | [_], _ => rfl
  obtain ⟨fd4, F4⟩ := c.def_ 4 (d := d4) rfl
  have F4 : FunD K "is_prime" "is_prime" (defArgs Pk.s_is_prime) (defBody Pk.s_is_prime) (defScope Pk.s_is_prime) [] [] (He.fAd K ("is_prime", none)) fd4 := F4
  have B4 : Binds K fd4 ["thing"] [] := F4.bindsN fun _ _ _ _ _ _ us hl => match us, hl with | [_], _ => rfl
  obtain ⟨fd5, F5⟩ := c.def_ 5 (d := d5) rfl
  have F5 : FunD K "is_term" "is_term" (defArgs Pk.s_is_term) (defBody Pk.s_is_term) (defScope Pk.s_is_term) [] [] (He.fAd K ("is_term", none)) fd5 := F5
  have B5 : Binds K fd5 ["thing"] [] := F5.bindsN fun _ _ _ _ _ _ us hl => match us, hl with | [_], _ => rfl
  obtain ⟨fd6, F6⟩ := c.def_ 6 (d := d6) rfl
  have F6 : FunD K "__init__" "Filter.__init__" (defArgs Pk.s_Filter_dinit) (defBody Pk.s_Filter_dinit) (defScope Pk.s_Filter_dinit) [.ref (He.dflAt ("Filter", some "__init__") 0 K)] [] (He.fAd K ("Filter", some "__init__")) fd6 := F6
  obtain ⟨e6, V6, B6⟩ := F6.binds1 (ps := ["self", "prime", "terms"]) 3 1 (by intro z; cases z) rfl fun T kV doc pm an cdv ct us its h1 h2 => match us, its, h1, h2 with | [_, _, _], [_], _, _ => ⟨_, rfl, rfl⟩
  obtain ⟨e6d, V6d, B6d⟩ := F6.binds1 (ps := ["self", "prime", "terms"]) 2 0 (by intro z; cases z) rfl fun T kV doc pm an cdv ct us its h1 h2 => match us, its, h1, h2 with | [_, _], [_], _, _ => ⟨_, rfl, rfl⟩
  obtain ⟨fd7, F7⟩ := c.def_ 7 (d := d7) rfl
  have F7 : FunD K "terms" "Filter.terms" (defArgs Pk.s_Filter_terms) (defBody Pk.s_Filter_terms) (defScope Pk.s_Filter_terms) [] [] (He.fAd K ("Filter", some "terms")) fd7 := F7
  have B7 : Binds K fd7 ["self"] [] := F7.bindsN fun _ _ _ _ _ _ us hl => match us, hl with | [_], _ => rfl
  obtain ⟨fd8, F8⟩ := c.def_ 8 (d := d8) rfl
  have F8 : FunD K "_law_frozen" "_law_frozen" (defArgs Pk.s__law_frozen) (defBody Pk.s__law_frozen) (defScope Pk.s__law_frozen) [] [] (He.fAd K ("_law_frozen", none)) fd8 := F8
  have B8 : Binds K fd8 ["_law_thing"] [] := F8.bindsN fun _ _ _ _ _ _ us hl => match us, hl with | [_], _ => rfl
  obtain ⟨fd9, F9⟩ := c.def_ 9 (d := d9) rfl
  have F9 : FunD K "_law_same" "_law_same" (defArgs Pk.s__law_same) (defBody Pk.s__law_same) (defScope Pk.s__law_same) [] [] (He.fAd K ("_law_same", none)) fd9 := F9
  have B9 : Binds K fd9 ["_law_found", "_law_due"] [] := F9.bindsN fun _ _ _ _ _ _ us hl => match us, hl with | [_, _], _ => rfl
  obtain ⟨fd10, F10⟩ := c.def_ 10 (d := d10) rfl
  have F10 : FunD K "_law_draw" "_law_draw" (defArgs Pk.s__law_draw) (defBody Pk.s__law_draw) (defScope Pk.s__law_draw) [] [] (He.fAd K ("_law_draw", none)) fd10 := F10
  have B10 : Binds K fd10 ["_law_spring_here", "_law_many"] [] := F10.bindsN fun _ _ _ _ _ _ us hl => match us, hl with | [_, _], _ => rfl
  obtain ⟨fd11, F11⟩ := c.def_ 11 (d := d11) rfl
  have F11 : FunD K "_law_pick" "_law_pick" (defArgs Pk.s__law_pick) (defBody Pk.s__law_pick) (defScope Pk.s__law_pick) [] [] (He.fAd K ("_law_pick", none)) fd11 := F11
  have B11 : Binds K fd11 ["_law_spring_here", "_law_things"] [] := F11.bindsN fun _ _ _ _ _ _ us hl => match us, hl with | [_, _], _ => rfl
  obtain ⟨fd12, F12⟩ := c.def_ 12 (d := d12) rfl
  have F12 : FunD K "_law_spring" "_law_spring" (defArgs Pk.s__law_spring) (defBody Pk.s__law_spring) (defScope Pk.s__law_spring) [] [] (He.fAd K ("_law_spring", none)) fd12 := F12
  have B12 : Binds K fd12 ["_law_script"] [] := F12.bindsN fun _ _ _ _ _ _ us hl => match us, hl with | [_], _ => rfl
  obtain ⟨fd13, F13⟩ := c.def_ 13 (d := d13) rfl
  have F13 : FunD K "_law_prime" "_law_prime" (defArgs Pk.s__law_prime) (defBody Pk.s__law_prime) (defScope Pk.s__law_prime) [] [] (He.fAd K ("_law_prime", none)) fd13 := F13
  have B13 : Binds K fd13 ["_law_spring_here"] [] := F13.bindsN fun _ _ _ _ _ _ us hl => match us, hl with | [_], _ => rfl
  obtain ⟨fd14, F14⟩ := c.def_ 14 (d := d14) rfl
  have F14 : FunD K "_law_held" "_law_held" (defArgs Pk.s__law_held) (defBody Pk.s__law_held) (defScope Pk.s__law_held) [] [] (He.fAd K ("_law_held", none)) fd14 := F14
  have B14 : Binds K fd14 ["_law_prime_here", "_law_terms"] [] := F14.bindsN fun _ _ _ _ _ _ us hl => match us, hl with | [_, _], _ => rfl
  obtain ⟨fd15, F15⟩ := c.def_ 15 (d := d15) rfl
  have F15 : FunD K "_law_pairs" "_law_pairs" (defArgs Pk.s__law_pairs) (defBody Pk.s__law_pairs) (defScope Pk.s__law_pairs) [] [] (He.fAd K ("_law_pairs", none)) fd15 := F15
  have B15 : Binds K fd15 ["_law_held_here"] [] := F15.bindsN fun _ _ _ _ _ _ us hl => match us, hl with | [_], _ => rfl
  obtain ⟨fd16, F16⟩ := c.def_ 16 (d := d16) rfl
  have F16 : FunD K "_law_tried" "_law_tried" (defArgs Pk.s__law_tried) (defBody Pk.s__law_tried) (defScope Pk.s__law_tried) [] [] (He.fAd K ("_law_tried", none)) fd16 := F16
  have B16 : Binds K fd16 ["_law_p", "_law_rows"] [] := F16.bindsN fun _ _ _ _ _ _ us hl => match us, hl with | [_, _], _ => rfl
  obtain ⟨fd17, F17⟩ := c.def_ 17 (d := d17) rfl
  have F17 : FunD K "_law_odd_terms" "_law_odd_terms" (defArgs Pk.s__law_odd_terms) (defBody Pk.s__law_odd_terms) (defScope Pk.s__law_odd_terms) [] [] (He.fAd K ("_law_odd_terms", none)) fd17 := F17
  have B17 : Binds K fd17 [] [] := F17.bindsN fun _ _ _ _ _ _ us hl => match us, hl with | [], _ => rfl
  obtain ⟨fd18, F18⟩ := c.def_ 18 (d := d18) rfl
  have F18 : FunD K "_law_odd_primes" "_law_odd_primes" (defArgs Pk.s__law_odd_primes) (defBody Pk.s__law_odd_primes) (defScope Pk.s__law_odd_primes) [] [] (He.fAd K ("_law_odd_primes", none)) fd18 := F18
  have B18 : Binds K fd18 [] [] := F18.bindsN fun _ _ _ _ _ _ us hl => match us, hl with | [], _ => rfl
  obtain ⟨fd19, F19⟩ := c.def_ 19 (d := d19) rfl
  have F19 : FunD K "law" "law" (defArgs Pk.s_law) (defBody Pk.s_law) (defScope Pk.s_law) [] [] (He.fAd K ("law", none)) fd19 := F19
  have B19 : Binds K fd19 ["_law_script"] [] := F19.bindsN fun _ _ _ _ _ _ us hl => match us, hl with | [_], _ => rfl
  have e := hfa.symm.trans (He.glo_ok X G (c.fact 32 (f := fun K => (He.Fa.glo "law").ok K)))
  cases e
  have b := FunD.bindsA (ps := ["_law_script"]) F19 fun _ _ _ _ _ _ us hl => match us, hl with | [_], _ => rfl
  refine ⟨fd19, fun s v => b s [v] rfl, fun base _ _ => ?_⟩
  have h_x_BadPrime : CalE P w K mg base 1 "BadPrime" ["self", "prime"] (spX1 (He.ga K "BadPrime") "prime") := ⟨⟨_, _, Pk.ok_BadPrime_dinit F0 T, B0, T.oe_BadPrime, (metB_ok (c.fact 33)).1, (metB_ok (c.fact 33)).2, (He.glo_ok X G (c.fact 2))⟩⟩
  have h_x_BadTerm : CalE P w K mg base 1 "BadTerm" ["self", "index"] (spX1 (He.ga K "BadTerm") "index") := ⟨⟨_, _, Pk.ok_BadTerm_dinit F1 T, B1, T.oe_BadTerm, (metB_ok (c.fact 34)).1, (metB_ok (c.fact 34)).2, (He.glo_ok X G (c.fact 3))⟩⟩
  have h_is_integer : Cal P w K mg base 1 "is_integer" ["thing"] (Pk.c_is_integer K).sp := ⟨⟨_, _, Pk.ok_is_integer F2 T, B2, F2.kp, (He.glo_ok X G (c.fact 35))⟩⟩
  have h_is_list : Cal P w K mg base 1 "is_list" ["thing"] (Pk.c_is_list K).sp := ⟨⟨_, _, Pk.ok_is_list F3 T, B3, F3.kp, (He.glo_ok X G (c.fact 36))⟩⟩
  have h_is_prime : Cal P w K mg base 2 "is_prime" ["thing"] (Pk.c_is_prime K).sp := ⟨⟨_, _, Pk.ok_is_prime F4 T h_is_integer, B4, F4.kp, (He.glo_ok X G (c.fact 37))⟩⟩
  have h_is_term : Cal P w K mg base 2 "is_term" ["thing"] (Pk.c_is_term K).sp := ⟨⟨_, _, Pk.ok_is_term F5 T h_is_integer h_is_list, B5, F5.kp, (He.glo_ok X G (c.fact 38))⟩⟩
  have h_Filter_dinit : CalKX P w K mg base 3 "Filter" ["self", "prime", "terms"] [] ((Pk.c_Filter_dinit K).sp (He.ga K "Filter")) := ⟨⟨_, _, e6, Pk.ok_Filter_dinit F6 T h_is_term h_x_BadTerm h_is_list h_is_prime h_x_BadPrime, B6, V6, He.mkr_ok (c.fact 39), (He.glo_ok X G (c.fact 40))⟩⟩
  have h_Filter_dinit_d : CalKX P w K mg base 3 "Filter" ["self", "prime", "terms"] [.ref (He.dflAt ("Filter", some "__init__") 0 K)] ((Pk.c_Filter_dinit K).sp (He.ga K "Filter")) := ⟨⟨_, _, e6d, Pk.ok_Filter_dinit F6 T h_is_term h_x_BadTerm h_is_list h_is_prime h_x_BadPrime, B6d, V6d, He.mkr_ok (c.fact 39), (He.glo_ok X G (c.fact 40))⟩⟩
  have h_Filter_terms : CalM P w K mg base 1 (He.ga K "Filter") "terms" ["self"] [] (Pk.c_Filter_terms K).sp := ⟨⟨_, _, [], Pk.ok_Filter_terms F7 T, B7, .nil, He.meth_ok (c.fact 41)⟩⟩
  have h__law_frozen : Cal P w K mg base 5 "_law_frozen" ["_law_thing"] (Pk.c__law_frozen K 4).sp := ⟨⟨_, _, Pk.ok__law_frozen F8 T B8 (He.glo_ok X G (c.fact 42)) 4, B8, F8.kp, (He.glo_ok X G (c.fact 42))⟩⟩
  have h__law_frozen_H : CalH P w K mg base 5 "_law_frozen" ["_law_thing"] (Pk.c__law_frozen K 4).sp := ⟨⟨_, _, Pk.ok__law_frozen_H F8 T B8 (He.glo_ok X G (c.fact 42)) 4, B8, F8.kp, (He.glo_ok X G (c.fact 42))⟩⟩
  have h__law_same : Cal P w K mg base 6 "_law_same" ["_law_found", "_law_due"] (Pk.c__law_same K 5).sp := ⟨⟨_, _, Pk.ok__law_same F9 T B9 (He.glo_ok X G (c.fact 43)) 5, B9, F9.kp, (He.glo_ok X G (c.fact 43))⟩⟩
  have h__law_draw : Cal P w K mg base 1 "_law_draw" ["_law_spring_here", "_law_many"] (Pk.c__law_draw K).sp := ⟨⟨_, _, Pk.ok__law_draw F10 T, B10, F10.kp, (He.glo_ok X G (c.fact 44))⟩⟩
  have h__law_pick : Cal P w K mg base 2 "_law_pick" ["_law_spring_here", "_law_things"] (Pk.c__law_pick K).sp := ⟨⟨_, _, Pk.ok__law_pick F11 T h__law_draw, B11, F11.kp, (He.glo_ok X G (c.fact 45))⟩⟩
  have h__law_spring : Cal P w K mg base 1 "_law_spring" ["_law_script"] (spSpring K) := ⟨⟨_, _, Pk.ok__law_spring F12 T, B12, F12.kp, (He.glo_ok X G (c.fact 46))⟩⟩
  have h__law_prime : Cal P w K mg base 3 "_law_prime" ["_law_spring_here"] (Pk.c__law_prime K).sp := ⟨⟨_, _, Pk.ok__law_prime F13 T h__law_pick, B13, F13.kp, (He.glo_ok X G (c.fact 47))⟩⟩
  have h__law_held : Cal P w K mg base 1 "_law_held" ["_law_prime_here", "_law_terms"] (Pk.c__law_held K).sp := ⟨⟨_, _, Pk.ok__law_held F14 T, B14, F14.kp, (He.glo_ok X G (c.fact 48))⟩⟩
  have h__law_pairs : Cal P w K mg base 1 "_law_pairs" ["_law_held_here"] (Pk.c__law_pairs K).sp := ⟨⟨_, _, Pk.ok__law_pairs F15 T, B15, F15.kp, (He.glo_ok X G (c.fact 49))⟩⟩
  have h__law_tried : Cal P w K mg base 6 "_law_tried" ["_law_p", "_law_rows"] (Pk.c__law_tried K).sp := ⟨⟨_, _, Pk.ok__law_tried F16 T h_Filter_terms h_Filter_dinit h__law_frozen_H, B16, F16.kp, (He.glo_ok X G (c.fact 50))⟩⟩
  have h__law_odd_terms : Cal P w K mg base 1 "_law_odd_terms" [] (Pk.c__law_odd_terms K).sp := ⟨⟨_, _, Pk.ok__law_odd_terms F17 T, B17, F17.kp, (He.glo_ok X G (c.fact 51))⟩⟩
  have h__law_odd_primes : Cal P w K mg base 1 "_law_odd_primes" [] (Pk.c__law_odd_primes K).sp := ⟨⟨_, _, Pk.ok__law_odd_primes F18 T, B18, F18.kp, (He.glo_ok X G (c.fact 52))⟩⟩
  exact Pk.ok_law F19 T h__law_held h__law_pairs h__law_tried h__law_same h__law_pick h_Filter_dinit_d h__law_frozen h__law_odd_primes h__law_draw h__law_odd_terms h__law_prime h__law_spring (fun F => tupAt_ok (c.fact 53) F)
end Hd
open PySem PySem.W PySem.Calls PyProof.Rows
theorem PySem.Challenge.cw_seenrows_k02_filters_refused_holds : PySem.Challenge.rw_seenrows_k02_filters_refused.Holds := by
  w_on; o_law
  refine HandSHeadRun.head_any (r := OpenLaw.row PySem.Challenge.rw_seenrows_k02_filters_refused) (q := view (OpenLaw.row PySem.Challenge.rw_seenrows_k02_filters_refused).prog [35]) (H := Hd.hk) (ob := Hd.ob) (M := 4000) (loose := Hd.names) (d := HandSHeadRun.topDef (OpenLaw.row PySem.Challenge.rw_seenrows_k02_filters_refused).prog 35) (kwd := []) Hd.ob_eq
    (by kernel_rfl) (fun s => by kernel_rfl) Hd.run (by kernel_rfl) (by kernel_rfl) (by kernel_rfl) (by rfl) (by first | assumption | decide +kernel) (by decide +kernel) ⟨rfl, rfl, rfl, rfl, rfl, by decide +kernel⟩ ?hw ?hc
  case hw => w_witness2
  case hc =>
    refine L2.walk_ofE (l := PySem.Challenge.rw_seenrows_k02_filters_refused) (n := 63) (k := 7) (x := "_law_script") (CX := L2.CX0) rfl (by decide) (by kernel_rfl) ⟨rfl, by decide, by decide⟩ ?F (fun _ _ _ _ z => z)
    intro w mg fa h Y G hmg0
    obtain ⟨K, KX, c⟩ := Y
    have hmg : mg ("law" : PySem.Str) = some (.ref fa) := by
      have e : (HandSHeadRun.topDef (OpenLaw.row PySem.Challenge.rw_seenrows_k02_filters_refused).prog 35).name = ("law" : PySem.Str) := by kernel_rfl
      rw [← e]
      exact hmg0
    obtain ⟨fd, hb, hF⟩ := Hd.facts (P := (PySem.Challenge.rw_seenrows_k02_filters_refused).prog) (w := w) KX G hmg c
    exact ⟨K, fd, (Pk.c_law K).sp, KX, hb, fun H a ns hl _ hS => ⟨H, Fw.M0, ns, Fw.Cn.whole, .cons ⟨a, _, rfl, hS, Fw.al_script ns⟩ .nil, ⟨rfl, fun _ => rfl, Nat.le_trans hl (by decide)⟩, fun _ _ _ _ hv => hv⟩, hF⟩
end
