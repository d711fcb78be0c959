import PyProof.Rows.All
import Wide.All
import OpenK.AllK
import Wide.FinOn
import PySem.Challenge.RW_pq0113_01
open PySem PySem.W PyProof.Rows PySem.Calls PySem.Spec
set_option Elab.async false
set_option maxRecDepth 100000
set_option linter.all false
namespace Mine
section
open PySem PySem.W PyProof.Rows PySem.Calls

/-! the data -/
inductive D where
  | none
  | bool (b : Bool)
  | int (i : Int)
  | str (s : Str)
  | tup (l : List D)
  | lst (l : List D)
  | rng (a b c : Int)
  | raw (v : Value)
  deriving Inhabited

noncomputable abbrev PH := Addr → Option Obj
noncomputable def PH.le (B B' : PH) : Prop := ∀ a o, B a = some o → B' a = some o
theorem PH.le.refl (B : PH) : PH.le B B := fun _ _ e => e
theorem PH.le.trans {B B' B'' : PH} (x : PH.le B B') (y : PH.le B' B'') : PH.le B B'' := fun a o e => y a o (x a o e)

noncomputable abbrev tupO (xs : Array Value) (n : Nat) : Obj := { cls := .type "tuple", dict := none, data := .seq xs n, slots := #[] }
noncomputable abbrev lstO (xs : Array Value) (n : Nat) : Obj := { cls := .type "list", dict := none, data := .seq xs n, slots := #[] }
mutual
noncomputable def Rep (B : PH) : D → Value → Prop
  | .none, v => v = .none
  | .bool b, v => v = .bool b
  | .int i, v => ∃ t, v = .int i t
  | .str s, v => ∃ t, v = .str s t
  | .tup l, v => ∃ a xs n, v = .ref a ∧ B a = some (tupO xs n) ∧ RepL B l xs.toList
  | .lst l, v => ∃ a xs n, v = .ref a ∧ B a = some (lstO xs n) ∧ RepL B l xs.toList
  | .rng x y z, v => ∃ a t u w, v = .ref a ∧ B a = some { cls := .type "range", dict := .none, data := .fields #[.int x t, .int y u, .int z w], slots := #[] }
  | .raw x, v => v = x
noncomputable def RepL (B : PH) : List D → List Value → Prop
  | [], vs => vs = []
  | d :: l, vs => ∃ v r, vs = v :: r ∧ Rep B d v ∧ RepL B l r
end

mutual
theorem Rep.mono {B B' : PH} (k : PH.le B B') : ∀ {d : D} {v : Value}, Rep B d v → Rep B' d v
  | .none, _, h => by simpa only [Rep] using h
  | .bool _, _, h => by simpa only [Rep] using h
  | .int _, _, h => by simpa only [Rep] using h
  | .str _, _, h => by simpa only [Rep] using h
  | .raw _, _, h => by simpa only [Rep] using h
  | .rng _ _ _, v, h => by
    dsimp only [Rep] at h ⊢
    obtain ⟨a, t, u, w, h1, h2⟩ := h
    exact ⟨a, t, u, w, h1, k _ _ h2⟩
  | .tup l, v, h => by
    dsimp only [Rep] at h ⊢
    obtain ⟨a, xs, n, h1, h2, h5⟩ := h
    exact ⟨a, xs, n, h1, k _ _ h2, RepL.mono k h5⟩
  | .lst l, v, h => by
    dsimp only [Rep] at h ⊢
    obtain ⟨a, xs, n, h1, h2, h5⟩ := h
    exact ⟨a, xs, n, h1, k _ _ h2, RepL.mono k h5⟩
theorem RepL.mono {B B' : PH} (k : PH.le B B') : ∀ {l : List D} {vs : List Value}, RepL B l vs → RepL B' l vs
  | [], _, h => by simpa only [RepL] using h
  | d :: l, vs, h => by
    dsimp only [RepL] at h ⊢
    obtain ⟨v, r, h1, h2, h3⟩ := h
    exact ⟨v, r, h1, Rep.mono k h2, RepL.mono k h3⟩
end

theorem RepL.length {B : PH} : ∀ {l : List D} {vs : List Value}, RepL B l vs → vs.length = l.length
  | [], _, h => by dsimp only [RepL] at h; subst h; rfl
  | d :: l, vs, h => by
    dsimp only [RepL] at h
    obtain ⟨v, r, rfl, _, h3⟩ := h
    simp [RepL.length h3]
theorem RepL.get {B : PH} : ∀ {l : List D} {vs : List Value} {i : Nat} {d : D}, RepL B l vs → l[i]? = some d → ∃ v, vs[i]? = some v ∧ Rep B d v
  | [], _, _, _, _, e => by simp at e
  | d :: l, vs, 0, _, h, e => by
    dsimp only [RepL] at h
    obtain ⟨v, r, rfl, h2, h3⟩ := h
    simp only [List.getElem?_cons_zero, Option.some.injEq] at e
    subst e
    exact ⟨v, rfl, h2⟩
  | d :: l, vs, i + 1, _, h, e => by
    dsimp only [RepL] at h
    obtain ⟨v, r, rfl, h2, h3⟩ := h
    dsimp only [List.getElem?_cons_succ] at e ⊢
    exact RepL.get h3 e
theorem RepL.append {B : PH} : ∀ {l l' : List D} {vs vs' : List Value}, RepL B l vs → RepL B l' vs' → RepL B (l ++ l') (vs ++ vs')
  | [], _, _, _, h, h' => by dsimp only [RepL] at h; subst h; simpa using h'
  | d :: l, _, vs, _, h, h' => by
    dsimp only [RepL] at h
    obtain ⟨v, r, rfl, h2, h3⟩ := h
    dsimp only [List.cons_append, RepL]
    exact ⟨v, _, rfl, h2, RepL.append h3 h'⟩
theorem RepL.drop {B : PH} : ∀ {l : List D} {vs : List Value} (k : Nat), RepL B l vs → RepL B (l.drop k) (vs.drop k)
  | l, vs, 0, h => by simpa using h
  | [], _, k + 1, h => by dsimp only [RepL] at h; subst h; simp [RepL]
  | d :: l, vs, k + 1, h => by
    dsimp only [RepL] at h
    obtain ⟨v, r, rfl, h2, h3⟩ := h
    simpa using RepL.drop k h3
theorem RepL.take {B : PH} : ∀ {l : List D} {vs : List Value} (k : Nat), RepL B l vs → RepL B (l.take k) (vs.take k)
  | l, vs, 0, h => by simp [RepL]
  | [], _, k + 1, h => by dsimp only [RepL] at h; subst h; simp [RepL]
  | d :: l, vs, k + 1, h => by
    dsimp only [RepL] at h
    obtain ⟨v, r, rfl, h2, h3⟩ := h
    dsimp only [List.take_succ_cons, RepL]
    exact ⟨v, _, rfl, h2, RepL.take k h3⟩
theorem RepL.set {B : PH} {d : D} {v : Value} (hv : Rep B d v) : ∀ {l : List D} {vs : List Value} (k : Nat), RepL B l vs → RepL B (l.set k d) (vs.set k v)
  | [], _, k, h => by dsimp only [RepL] at h; subst h; simp [RepL]
  | _ :: l, vs, 0, h => by
    dsimp only [RepL] at h
    obtain ⟨_, r, rfl, _, h3⟩ := h
    dsimp only [List.set_cons_zero, RepL]
    exact ⟨v, r, rfl, hv, h3⟩
  | e :: l, vs, k + 1, h => by
    dsimp only [RepL] at h
    obtain ⟨w, r, rfl, h2, h3⟩ := h
    dsimp only [List.set_cons_succ, RepL]
    exact ⟨w, _, rfl, h2, RepL.set hv k h3⟩
theorem RepL.reverse {B : PH} : ∀ {l : List D} {vs : List Value}, RepL B l vs → RepL B l.reverse vs.reverse
  | [], _, h => by dsimp only [RepL] at h; subst h; simp [RepL]
  | d :: l, vs, h => by
    dsimp only [RepL] at h
    obtain ⟨v, r, rfl, h2, h3⟩ := h
    simp only [List.reverse_cons]
    exact RepL.append (RepL.reverse h3) (by dsimp only [RepL]; exact ⟨v, [], rfl, h2, rfl⟩)
theorem RepL.replicate {B : PH} {d : D} {v : Value} (hv : Rep B d v) : ∀ n : Nat, RepL B (List.replicate n d) (List.replicate n v)
  | 0 => by simp [RepL]
  | n + 1 => by dsimp only [List.replicate_succ, RepL]; exact ⟨v, _, rfl, hv, RepL.replicate hv n⟩
theorem RepL.one {B : PH} {d : D} {v : Value} (hv : Rep B d v) : RepL B [d] [v] := by dsimp only [RepL]; exact ⟨v, [], rfl, hv, rfl⟩
theorem RepL.nil {B : PH} : RepL B [] [] := by simp [RepL]
theorem RepL.cons {B : PH} {d : D} {v : Value} {l : List D} {vs : List Value} (hv : Rep B d v) (h : RepL B l vs) : RepL B (d :: l) (v :: vs) := by dsimp only [RepL]; exact ⟨v, vs, rfl, hv, h⟩


/-! the cells -/
inductive Cell where
  | frame (ρ : Str → Option D)
  | list (l : List D)
  | cell (d : Option D)
  | obj (o : Obj)
  | liter (rest : List D)
  | titer (rest : List D)
  | riter (rest : List D)
  | siter (rest : List D)
  | other (P : Obj → Prop)
  | any (P : PH → Obj → Prop)

noncomputable def upd {α : Type} (ρ : Str → Option α) (x : Str) (d : α) : Str → Option α := fun y => if y = x then some d else ρ y
theorem upd_same {α : Type} (ρ : Str → Option α) (x : Str) (d : α) : upd ρ x d x = some d := by simp [upd]
theorem upd_ne {α : Type} (ρ : Str → Option α) {x y : Str} (d : α) (h : y ≠ x) : upd ρ x d y = ρ y := by simp [upd, h]

noncomputable def FrameIs (B : PH) (ρ : Str → Option D) (m : Str → Option Value) : Prop := ∀ x d, ρ x = some d → ∃ v, m x = some v ∧ Rep B d v
theorem FrameIs.mono {B B' : PH} (k : PH.le B B') {ρ : Str → Option D} {m : Str → Option Value} (h : FrameIs B ρ m) : FrameIs B' ρ m := fun x d e => by
  obtain ⟨v, h1, h2⟩ := h x d e
  exact ⟨v, h1, h2.mono k⟩
theorem FrameIs.upd {B : PH} {ρ : Str → Option D} {m : Str → Option Value} (h : FrameIs B ρ m) {d : D} {v : Value} (hv : Rep B d v) (x : Str) :
    FrameIs B (Mine.upd ρ x d) (fun y => if y = x then some v else m y) := fun y e he => by
  unfold Mine.upd at he
  dsimp only
  by_cases q : y = x
  · rw [if_pos q] at he ⊢
    cases he
    exact ⟨v, rfl, hv⟩
  · rw [if_neg q] at he ⊢
    exact h y e he

noncomputable def intsD (a step : Int) : Nat → List D
  | 0 => []
  | n + 1 => .int a :: intsD (a + step) step n

noncomputable def CellAt (B : PH) (h : Heap) (a : Addr) : Cell → Prop
  | .frame ρ => ∃ m, h.Ns a m ∧ FrameIs B ρ m
  | .list l => ∃ xs n, h.get? a = some (lstO xs n) ∧ RepL B l xs.toList
  | .cell d => ∃ v, h.IsCell a v ∧ ∀ e, d = some e → ∃ x, v = some x ∧ Rep B e x
  | .obj o => h.get? a = some o
  | .liter rest => ∃ la i xs n l, h.IsListIter a la i ∧ B la = some (lstO xs n) ∧ RepL B l xs.toList ∧ rest = l.drop i
  | .titer rest => ∃ la i xs n l, h.IsTupleIter a la i ∧ B la = some (tupO xs n) ∧ RepL B l xs.toList ∧ rest = l.drop i
  | .riter rest => ∃ (x : Int) (n : Nat) (step : Int), IsRangeIter h a x n step ∧ rest = intsD x step n
  | .siter rest => ∃ x t i, h.IsStrIter a "str_ascii_iterator" x t i ∧ rest = (x.cps.toList.drop i).map fun c => D.str ⟨#[c]⟩
  | .other P => ∃ o, h.get? a = some o ∧ P o
  | .any P => ∃ o, h.get? a = some o ∧ ∃ B₀, PH.le B₀ B ∧ P B₀ o

theorem CellAt.mono {B B' : PH} (k : PH.le B B') {h : Heap} {a : Addr} : ∀ {c : Cell}, CellAt B h a c → CellAt B' h a c := by
  intro c x
  cases c
  case frame _ => obtain ⟨m, h1, h2⟩ := x; exact ⟨m, h1, h2.mono k⟩
  case list _ => obtain ⟨xs, n, h1, h5⟩ := x; exact ⟨xs, n, h1, h5.mono k⟩
  case cell _ => obtain ⟨v, h1, h2⟩ := x; exact ⟨v, h1, fun e q => let ⟨y, h3, h4⟩ := h2 e q; ⟨y, h3, h4.mono k⟩⟩
  case obj _ => exact x
  case liter _ => obtain ⟨la, i, xs, n, l, h1, h2, h5, h6⟩ := x; exact ⟨la, i, xs, n, l, h1, k _ _ h2, h5.mono k, h6⟩
  case titer _ => obtain ⟨la, i, xs, n, l, h1, h2, h5, h6⟩ := x; exact ⟨la, i, xs, n, l, h1, k _ _ h2, h5.mono k, h6⟩
  case riter _ => exact x
  case siter _ => exact x
  case other _ => exact x
  case any _ => obtain ⟨o, h1, B₀, h2, h3⟩ := x; exact ⟨o, h1, B₀, h2.trans k, h3⟩

/-- a cell's word hangs on its own address alone -/
theorem CellAt.at {B : PH} {h h' : Heap} {a : Addr} (e : ∀ o, h.get? a = some o → h'.get? a = some o) : ∀ {c : Cell}, CellAt B h a c → CellAt B h' a c := by
  intro c x
  cases c
  case frame _ => obtain ⟨m, ⟨o, es, ep, ho, r⟩, h2⟩ := x; exact ⟨m, ⟨o, es, ep, e _ ho, r⟩, h2⟩
  case list _ => obtain ⟨xs, n, h1, r⟩ := x; exact ⟨xs, n, e _ h1, r⟩
  case cell _ => obtain ⟨v, ⟨o, ho, hd⟩, h2⟩ := x; exact ⟨v, ⟨o, e _ ho, hd⟩, h2⟩
  case obj _ => exact e _ x
  case liter _ => obtain ⟨la, i, xs, n, l, ⟨oi, h1, r1⟩, r⟩ := x; exact ⟨la, i, xs, n, l, ⟨oi, e _ h1, r1⟩, r⟩
  case titer _ => obtain ⟨la, i, xs, n, l, ⟨oi, h1, r1⟩, r⟩ := x; exact ⟨la, i, xs, n, l, ⟨oi, e _ h1, r1⟩, r⟩
  case riter _ => obtain ⟨y, n, st, h1, r⟩ := x; exact ⟨y, n, st, e _ h1, r⟩
  case siter _ => obtain ⟨y, t, i, ⟨oi, h1, r1⟩, r⟩ := x; exact ⟨y, t, i, ⟨oi, e _ h1, r1⟩, r⟩
  case other _ => obtain ⟨o, h1, r⟩ := x; exact ⟨o, e _ h1, r⟩
  case any _ => obtain ⟨o, h1, r⟩ := x; exact ⟨o, e _ h1, r⟩
theorem CellAt.some {B : PH} {h : Heap} {a : Addr} : ∀ {c : Cell}, CellAt B h a c → ∃ o, h.get? a = some o := by
  intro c x
  cases c
  case frame _ => obtain ⟨_, ⟨o, _, _, ho, _⟩, _⟩ := x; exact ⟨o, ho⟩
  case list _ => obtain ⟨_, _, h1, _⟩ := x; exact ⟨_, h1⟩
  case cell _ => obtain ⟨_, ⟨o, ho, _⟩, _⟩ := x; exact ⟨o, ho⟩
  case obj o => exact ⟨o, x⟩
  case liter _ => obtain ⟨_, _, _, _, _, ⟨oi, h1, _⟩, _⟩ := x; exact ⟨oi, h1⟩
  case titer _ => obtain ⟨_, _, _, _, _, ⟨oi, h1, _⟩, _⟩ := x; exact ⟨oi, h1⟩
  case riter _ => obtain ⟨_, _, _, h1, _⟩ := x; exact ⟨_, h1⟩
  case siter _ => obtain ⟨_, _, _, ⟨oi, h1, _⟩, _⟩ := x; exact ⟨oi, h1⟩
  case other _ => obtain ⟨o, h1, _⟩ := x; exact ⟨o, h1⟩
  case any _ => obtain ⟨o, h1, _⟩ := x; exact ⟨o, h1⟩

noncomputable abbrev Sig := List (Addr × Cell)

/-- what stands: the text's own heap G, the rest of the state -/
structure Gd where
  G : Heap
  gens : Array GenState
  drawn : Drawn
  os : OsState
  mg : Str → Option Value
  mb : Str → Option Value
  hg : G.Ns mainGlobals mg
  hb : G.Ns builtinsNs mb
  hlim : G.NoLimit
  boot : ∀ x : Str, x ≠ "__name__" → mb x = bootBuiltins x

structure St (W : Gd) (s : Shared) (B : PH) (S : Sig) : Prop where
  gens : s.gens = W.gens
  drawn : s.drawn = W.drawn
  os : s.os = W.os
  base : ∀ a o, W.G.get? a = some o → B a = some o
  le : ∀ a o, B a = some o → s.heap.get? a = some o
  cells : ∀ p ∈ S, CellAt B s.heap p.1 p.2
  apart : ∀ p ∈ S, B p.1 = none
  nodup : (S.map (·.1)).Nodup

namespace St
variable {W : Gd} {s s' : Shared} {B : PH} {S S' : Sig}
theorem ground (x : St W s B S) : ∀ a o, W.G.get? a = some o → s.heap.get? a = some o := fun a o e => x.le a o (x.base a o e)
theorem fresh (x : St W s B S) : B s.heap.objs.size = none := by
  cases q : B s.heap.objs.size with
  | none => rfl
  | some o => exact absurd (Heap.lt_size (x.le _ _ q)) (Nat.lt_irrefl _)
theorem ne (x : St W s B S) : ∀ p ∈ S, p.1 < s.heap.objs.size := fun p hp => let ⟨_, h⟩ := (x.cells p hp).some; Heap.lt_size h
theorem sub (x : St W s B S) (k : S'.Sublist S) : St W s B S' :=
  ⟨x.gens, x.drawn, x.os, x.base, x.le, fun p hp => x.cells p (k.mem hp), fun p hp => x.apart p (k.mem hp), x.nodup.sublist (k.map _)⟩
theorem perm (x : St W s B S) (k : S.Perm S') : St W s B S' :=
  ⟨x.gens, x.drawn, x.os, x.base, x.le, fun p hp => x.cells p (k.mem_iff.mpr hp), fun p hp => x.apart p (k.mem_iff.mpr hp), (k.map _).nodup_iff.mp x.nodup⟩
/-- the heap grows, nothing turns -/
theorem grow (x : St W s B S) {h' : Heap} {tk : Nat} (k : ∀ a o, s.heap.get? a = some o → h'.get? a = some o) : St W { s with heap := h', toks := tk } B S :=
  ⟨x.gens, x.drawn, x.os, x.base, fun a o e => k a o (x.le a o e), fun p hp => (x.cells p hp).at (k p.1), x.apart, x.nodup⟩
theorem tok (x : St W s B S) (tk : Nat) : St W { s with toks := tk } B S := x.grow fun _ _ e => e
/-- a new object, persistent -/
noncomputable def add (B : PH) (a : Addr) (o : Obj) : PH := fun b => if b = a then some o else B b
theorem add_self {a : Addr} {o : Obj} : add B a o a = some o := by simp [add]
theorem add_le {a : Addr} {o : Obj} (e : B a = none) : PH.le B (add B a o) := fun b p h => by
  unfold add
  by_cases q : b = a
  · rw [q, e] at h; cases h
  · rw [if_neg q]; exact h
theorem newP (x : St W s B S) {o : Obj} (hf : o.isFreed = false) (tk : Nat) : St W { s with heap := s.heap.push o, toks := tk } (add B s.heap.objs.size o) S := by
  have y := x.grow (h' := s.heap.push o) (tk := tk) fun a o' e => Heap.get?_push_of_some o e
  refine ⟨y.gens, y.drawn, y.os, fun a o' e => add_le x.fresh a o' (x.base a o' e), fun a o' e => ?_, fun p hp => (y.cells p hp).mono (add_le x.fresh), fun p hp => ?_, x.nodup⟩
  · unfold add at e
    by_cases q : a = s.heap.objs.size
    · rw [if_pos q] at e; cases e; rw [q]; exact Heap.get?_push_size _ hf
    · rw [if_neg q] at e; exact y.le a o' e
  · unfold add
    rw [if_neg (Nat.ne_of_lt (x.ne p hp))]
    exact x.apart p hp
/-- a new object, a cell of its own -/
theorem newC (x : St W s B S) {o : Obj} {c : Cell} (tk : Nat) (hc : CellAt B (s.heap.push o) s.heap.objs.size c) : St W { s with heap := s.heap.push o, toks := tk } B ((s.heap.objs.size, c) :: S) := by
  have y := x.grow (h' := s.heap.push o) (tk := tk) fun a o' e => Heap.get?_push_of_some o e
  refine ⟨y.gens, y.drawn, y.os, y.base, y.le, fun p hp => ?_, fun p hp => ?_, ?_⟩
  · rcases List.mem_cons.mp hp with rfl | hp
    · exact hc
    · exact y.cells p hp
  · rcases List.mem_cons.mp hp with rfl | hp
    · exact x.fresh
    · exact x.apart p hp
  · rw [List.map_cons, List.nodup_cons]
    refine ⟨fun hm => ?_, x.nodup⟩
    obtain ⟨p, hp, e⟩ := List.mem_map.mp hm
    exact absurd (x.ne p hp) (by rw [e]; exact Nat.lt_irrefl _)
/-- one cell turns -/
theorem turn0 {a : Addr} {c c' : Cell} (x : St W s B ((a, c) :: S)) {h' : Heap} {tk : Nat} (k : Heap.ExtBut a s.heap h') (hc : CellAt B h' a c') : St W { s with heap := h', toks := tk } B ((a, c') :: S) := by
  have hnd := x.nodup
  rw [List.map_cons, List.nodup_cons] at hnd
  have na : ∀ p ∈ S, p.1 ≠ a := fun p hp q => hnd.1 (List.mem_map.mpr ⟨p, hp, q⟩)
  have nb : ∀ b o, B b = some o → b ≠ a := fun b o e q => by
    have := x.apart (a, c) (.head _)
    rw [← q, e] at this; cases this
  refine ⟨x.gens, x.drawn, x.os, x.base, fun b o e => k b o (nb b o e) (x.le b o e), fun p hp => ?_, fun p hp => ?_, ?_⟩
  · rcases List.mem_cons.mp hp with rfl | hp
    · exact hc
    · exact (x.cells p (.tail _ hp)).at fun o e => k p.1 o (na p hp) e
  · rcases List.mem_cons.mp hp with rfl | hp
    · exact x.apart (a, c) (.head _)
    · exact x.apart p (.tail _ hp)
  · rw [List.map_cons, List.nodup_cons]; exact hnd
theorem gone {a : Addr} {c : Cell} (x : St W s B ((a, c) :: S)) {h' : Heap} {tk : Nat} (k : Heap.ExtBut a s.heap h') : St W { s with heap := h', toks := tk } B S := by
  have hnd := x.nodup
  rw [List.map_cons, List.nodup_cons] at hnd
  have na : ∀ p ∈ S, p.1 ≠ a := fun p hp q => hnd.1 (List.mem_map.mpr ⟨p, hp, q⟩)
  have nb : ∀ b o, B b = some o → b ≠ a := fun b o e q => by
    have := x.apart (a, c) (.head _)
    rw [← q, e] at this; cases this
  exact ⟨x.gens, x.drawn, x.os, x.base, fun b o e => k b o (nb b o e) (x.le b o e), fun p hp => (x.cells p (.tail _ hp)).at fun o e => k p.1 o (na p hp) e, fun p hp => x.apart p (.tail _ hp), hnd.2⟩
theorem set_perm {a : Addr} {c : Cell} : ∀ {S : Sig} {i : Nat}, S[i]? = some (a, c) → ∃ r, S.Perm ((a, c) :: r) ∧ ∀ c', ((a, c') :: r).Perm (S.set i (a, c'))
  | [], _, e => by simp at e
  | p :: r, 0, e => by
    simp only [List.getElem?_cons_zero, Option.some.injEq] at e
    subst e
    exact ⟨r, List.Perm.refl _, fun c' => by rw [List.set_cons_zero]⟩
  | p :: r, i + 1, e => by
    rw [List.getElem?_cons_succ] at e
    obtain ⟨t, h1, h2⟩ := set_perm e
    refine ⟨p :: t, (h1.cons p).trans (List.Perm.swap ..), fun c' => ?_⟩
    rw [List.set_cons_succ]
    exact (List.Perm.swap ..).trans ((h2 c').cons p)
theorem turn {a : Addr} {c c' : Cell} {i : Nat} (x : St W s B S) (hi : S[i]? = some (a, c)) {h' : Heap} {tk : Nat} (k : Heap.ExtBut a s.heap h') (hc : CellAt B h' a c') : St W { s with heap := h', toks := tk } B (S.set i (a, c')) := by
  obtain ⟨r, h1, h2⟩ := set_perm hi
  exact ((x.perm h1).turn0 k hc).perm (h2 c')
theorem get {a : Addr} {c : Cell} {i : Nat} (x : St W s B S) (hi : S[i]? = some (a, c)) : CellAt B s.heap a c := x.cells (a, c) (List.mem_of_getElem? hi)
/-- a cell that turns no more -/
theorem freeze0 {a : Addr} {c : Cell} {o : Obj} (x : St W s B ((a, c) :: S)) (ho : s.heap.get? a = some o) : St W s (add B a o) S := by
  have hnd := x.nodup
  rw [List.map_cons, List.nodup_cons] at hnd
  have hn : B a = none := x.apart (a, c) (.head _)
  refine ⟨x.gens, x.drawn, x.os, fun b p e => add_le hn b p (x.base b p e), fun b p e => ?_, fun p hp => (x.cells p (.tail _ hp)).mono (add_le hn), fun p hp => ?_, hnd.2⟩
  · unfold add at e
    by_cases q : b = a
    · rw [if_pos q] at e; cases e; rw [q]; exact ho
    · rw [if_neg q] at e; exact x.le b p e
  · unfold add
    rw [if_neg (fun q : p.1 = a => hnd.1 (List.mem_map.mpr ⟨p, hp, q⟩))]
    exact x.apart p (.tail _ hp)
end St

/-! the triple -/
section
variable {α β : Type}

/-- the end of a tree: grown persistent store, the value told, the cells -/
noncomputable def Post (W : Gd) (B : PH) (RR : PH → α → β → Prop) (Q : β → Sig → Prop) (a : α) (s' : Shared) : Prop :=
  ∃ B' b S', PH.le B B' ∧ St W s' B' S' ∧ RR B' a b ∧ Q b S'
noncomputable def ExcP (B : PH) (X : Value → PH → Shared → Prop) (e : Value) (s' : Shared) : Prop := ∃ B', PH.le B B' ∧ X e B' s'

noncomputable def TX (M : Model) (W : Gd) (A : Around) (t : Sem α) (RR : PH → α → β → Prop) (S : Sig) (X : Value → PH → Shared → Prop) (Q : β → Sig → Prop) : Prop :=
  ∀ s B, St W s B S → wpAny M A t (Post W B RR Q) (ExcP B X) s

theorem Post.up {W : Gd} {B B' : PH} {RR : PH → α → β → Prop} {Q : β → Sig → Prop} {a : α} {s' : Shared} (k : PH.le B B') (h : Post W B' RR Q a s') : Post W B RR Q a s' :=
  let ⟨B'', b, S', h1, r⟩ := h; ⟨B'', b, S', k.trans h1, r⟩
theorem ExcP.up {B B' : PH} {X : Value → PH → Shared → Prop} {e : Value} {s' : Shared} (k : PH.le B B') (h : ExcP B' X e s') : ExcP B X e s' := let ⟨B'', h1, r⟩ := h; ⟨B'', k.trans h1, r⟩
noncomputable def XF : Value → PH → Shared → Prop := fun _ _ _ => False
theorem ExcP.false {B : PH} {e : Value} {s' : Shared} (h : ExcP B XF e s') : False := let ⟨_, _, r⟩ := h; r
end
end
section
open PySem PySem.W PyProof.Rows PySem.Calls

noncomputable def RepV : PH → Value → D → Prop := fun B v d => Rep B d v
noncomputable def RepVs : PH → List Value → List D → Prop := fun B vs ds => RepL B ds vs
noncomputable def RepU : PH → Unit → Unit → Prop := fun _ _ _ => True
noncomputable def RepB : PH → Bool → Bool → Prop := fun _ a b => a = b
inductive Fl where
  | next | brk | cont
  | ret (d : D)
noncomputable def RepF : PH → Flow → Fl → Prop
  | _, .next, .next => True
  | _, .brk, .brk => True
  | _, .cont, .cont => True
  | B, .ret v, .ret d => Rep B d v
  | _, _, _ => False

section
variable {α β γ δ : Type} {M : Model} {W : Gd} {A : Around} {S : Sig} {X : Value → PH → Shared → Prop}

theorem TX.use {t : Sem α} {RR : PH → α → β → Prop} {Q : β → Sig → Prop} {P : α → Shared → Prop} {E : Value → Shared → Prop} {s : Shared} {B : PH}
    (h : TX M W A t RR S X Q) (x : St W s B S) (k : ∀ a s' B' b S', PH.le B B' → St W s' B' S' → RR B' a b → Q b S' → P a s') (kx : ∀ e s', ExcP B X e s' → E e s') : wpAny M A t P E s :=
  wpAny_mono (h s B x) (fun a s' hh1 => (by obtain ⟨B', b, S', h1, h2, h3, h4⟩ := hh1; exact k a s' B' b S' h1 h2 h3 h4)) kx
theorem TX.mono {t : Sem α} {RR : PH → α → β → Prop} {Q Q' : β → Sig → Prop} (h : TX M W A t RR S X Q) (k : ∀ b S', Q b S' → Q' b S') : TX M W A t RR S X Q' := fun _ _ x =>
  h.use x (fun _ _ B' b S' l y r q => ⟨B', b, S', l, y, r, k b S' q⟩) fun _ _ e => e
theorem TX.perm {S' : Sig} {t : Sem α} {RR : PH → α → β → Prop} {Q : β → Sig → Prop} (k : S.Perm S') (h : TX M W A t RR S' X Q) : TX M W A t RR S X Q := fun s B x => h s B (x.perm k)
theorem TX.sub {S' : Sig} {t : Sem α} {RR : PH → α → β → Prop} {Q : β → Sig → Prop} (k : S'.Sublist S) (h : TX M W A t RR S' X Q) : TX M W A t RR S X Q := fun s B x => h s B (x.sub k)
/-- a tree over a value that is told -/
noncomputable def Op1 (M : Model) (W : Gd) (A : Around) (f : Value → Sem α) (RR : PH → α → β → Prop) (d : D) (S : Sig) (X : Value → PH → Shared → Prop) (Q : β → Sig → Prop) : Prop :=
  ∀ s B v, St W s B S → Rep B d v → wpAny M A (f v) (Post W B RR Q) (ExcP B X) s
noncomputable def Op2 (M : Model) (W : Gd) (A : Around) (f : Value → Value → Sem α) (RR : PH → α → β → Prop) (d e : D) (S : Sig) (X : Value → PH → Shared → Prop) (Q : β → Sig → Prop) : Prop :=
  ∀ s B v u, St W s B S → Rep B d v → Rep B e u → wpAny M A (f v u) (Post W B RR Q) (ExcP B X) s
noncomputable def OpL (M : Model) (W : Gd) (A : Around) (f : List Value → Sem α) (RR : PH → α → β → Prop) (ds : List D) (S : Sig) (X : Value → PH → Shared → Prop) (Q : β → Sig → Prop) : Prop :=
  ∀ s B vs, St W s B S → RepL B ds vs → wpAny M A (f vs) (Post W B RR Q) (ExcP B X) s
end

noncomputable abbrev Ev (M : Model) (W : Gd) (A : Around) (env : Env) (e : Expr) (S : Sig) (X : Value → PH → Shared → Prop) (Q : D → Sig → Prop) : Prop := TX M W A (eval e env) RepV S X Q
noncomputable abbrev Te (M : Model) (W : Gd) (A : Around) (env : Env) (e : Expr) (S : Sig) (X : Value → PH → Shared → Prop) (Q : Bool → Sig → Prop) : Prop := TX M W A (isTrue e env (eval e env)) RepB S X Q
noncomputable abbrev Ex (M : Model) (W : Gd) (A : Around) (env : Env) (st : Stmt) (S : Sig) (X : Value → PH → Shared → Prop) (Q : Fl → Sig → Prop) : Prop := TX M W A (exec st env) RepF S X Q
noncomputable abbrev Exs (M : Model) (W : Gd) (A : Around) (env : Env) (ss : List Stmt) (S : Sig) (X : Value → PH → Shared → Prop) (Q : Fl → Sig → Prop) : Prop := TX M W A (execs ss env) RepF S X Q
noncomputable abbrev Sto (M : Model) (W : Gd) (A : Around) (env : Env) (t : Expr) (d : D) (S : Sig) (X : Value → PH → Shared → Prop) (Q : Unit → Sig → Prop) : Prop := Op1 M W A (assign t env) RepU d S X Q

section
variable {M : Model} {W : Gd} {A : Around} {env : Env} {S : Sig} {X : Value → PH → Shared → Prop} {Q : D → Sig → Prop}

/-! names -/
theorem Ev.nameL {x : Str} {pos : Pos} {L : Addr} {ρ : Str → Option D} {d : D} (hv : ρ x = some d) (q : Q d ((L, .frame ρ) :: S))
    (hL : env.locals = L := by with_unfolding_all rfl) (hk : env.scope.kind = .function := by with_unfolding_all rfl) (hl : env.kindOf x = some .local := by with_unfolding_all rfl) (hd : (x == ("__debug__" : Str)) = false := by decide) :
    Ev M W A env (.Name x pos) ((L, .frame ρ) :: S) X Q := fun s B y => by
  subst hL
  obtain ⟨m, hn, hf⟩ := y.cells (env.locals, .frame ρ) (.head _)
  obtain ⟨v, hm, hr⟩ := hf x d hv
  exact wpAny_Name (wpAny_loadName_local hk hl hn hm ⟨B, d, _, .refl B, y, hr, q⟩) hd
theorem Ev.nameC {x : Str} {pos : Pos} {c : Addr} {d : D} (hc : env.cells.lookup x = some c) (hm : (c, .cell (some d)) ∈ S) (q : Q d S)
    (hk : env.scope.kind = .function := by rfl) (hl : env.kindOf x = some .cell := by rfl) (hd : (x == ("__debug__" : Str)) = false := by decide) :
    Ev M W A env (.Name x pos) S X Q := fun s B y => by
  obtain ⟨v, hv, hr⟩ := y.cells _ hm
  obtain ⟨u, hu, hr2⟩ := hr d rfl
  subst hu
  exact wpAny_Name (wpAny_loadName_cell hk hl hc hv ⟨B, d, _, .refl B, y, hr2, q⟩) hd
theorem Ev.nameF {x : Str} {pos : Pos} {c : Addr} {d : D} (hc : env.cells.lookup x = some c) (hm : (c, .cell (some d)) ∈ S) (q : Q d S)
    (hk : env.scope.kind = .function := by rfl) (hl : env.kindOf x = some .free := by rfl) (hd : (x == ("__debug__" : Str)) = false := by decide) (hn : (x == ("__classdict__" : Str)) = false := by decide) :
    Ev M W A env (.Name x pos) S X Q := fun s B y => by
  obtain ⟨v, hv, hr⟩ := y.cells _ hm
  obtain ⟨u, hu, hr2⟩ := hr d rfl
  subst hu
  exact wpAny_Name (wpAny_loadName_free hk hl hc hv ⟨B, d, _, .refl B, y, hr2, q⟩ hn) hd
theorem Ev.nameG {x : Str} {pos : Pos} {v : Value} {d : D} (hv : W.mg x = some v) (hr : Rep W.G.get? d v) (q : Q d S)
    (hg : env.globals = mainGlobals := by rfl) (hk : env.scope.kind = .function := by rfl) (hl : env.kindOf x = some .globalImplicit := by rfl) (hd : (x == ("__debug__" : Str)) = false := by decide) :
    Ev M W A env (.Name x pos) S X Q := fun s B y =>
  Name_function_global hk hl (loadGlobal_global (by rw [hg]; exact W.hg.keeps y.ground) hv ⟨B, d, S, .refl B, y, hr.mono y.base, q⟩) hd
theorem Ev.nameB {x : Str} {pos : Pos} {v : Value} (hm : W.mg x = none) (hv : bootBuiltins x = some v) (q : Q (.raw v) S)
    (hg : env.globals = mainGlobals := by with_unfolding_all rfl) (hb : env.builtins = builtinsNs := by with_unfolding_all rfl) (hk : env.scope.kind = .function := by with_unfolding_all rfl) (hl : env.kindOf x = some .globalImplicit := by with_unfolding_all rfl) (hd : (x == ("__debug__" : Str)) = false := by decide) (hn : x ≠ "__name__" := by decide) :
    Ev M W A env (.Name x pos) S X Q := fun s B y =>
  Name_function_global hk hl (loadGlobal_builtin (by rw [hg]; exact W.hg.keeps y.ground) hm (by rw [hb]; exact W.hb.keeps y.ground) ((W.boot x hn).trans hv) ⟨B, .raw v, S, .refl B, y, by dsimp only [RepV, Rep], q⟩) hd

/-! constants -/
theorem Ev.cint {i : Int} {k : Nat} {pos : Pos} (q : Q (.int i) S) : Ev M W A env (.Constant (.int i) k pos) S X Q := fun s B y =>
  wpAny_Constant_int ⟨B, .int i, S, .refl B, y.tok _, by dsimp only [RepV, Rep]; exact ⟨_, rfl⟩, q⟩
theorem Ev.cstr {x : Str} {k : Nat} {pos : Pos} (q : Q (.str x) S) : Ev M W A env (.Constant (.str x) k pos) S X Q := fun s B y =>
  wpAny_Constant_str ⟨B, .str x, S, .refl B, y.tok _, by dsimp only [RepV, Rep]; exact ⟨_, rfl⟩, q⟩
theorem Ev.cnone {k : Nat} {pos : Pos} (q : Q .none S) : Ev M W A env (.Constant .none k pos) S X Q := fun s B y =>
  wpAny_Constant_none ⟨B, .none, S, .refl B, y, by dsimp only [RepV, Rep], q⟩
theorem Ev.cbool {b : Bool} {k : Nat} {pos : Pos} (q : Q (.bool b) S) : Ev M W A env (.Constant (.bool b) k pos) S X Q := fun s B y =>
  wpAny_Constant_bool ⟨B, .bool b, S, .refl B, y, by dsimp only [RepV, Rep], q⟩

/-! two operands -/
theorem Ev.bin {l r : Expr} {op : Operator} {pos : Pos} (h : Ev M W A env l S X fun d₁ S₁ => Ev M W A env r S₁ X fun d₂ S₂ => Op2 M W A (binaryOp op) RepV d₁ d₂ S₂ X Q) :
    Ev M W A env (.BinOp l op r pos) S X Q := fun s B y =>
  wpAny_BinOp (h.use y (fun v₁ s₁ B₁ d₁ S₁ l₁ y₁ r₁ h₁ => h₁.use y₁ (fun v₂ s₂ B₂ d₂ S₂ l₂ y₂ r₂ h₂ =>
    wpAny_mono (h₂ s₂ B₂ v₁ v₂ y₂ (r₁.mono l₂) r₂) (fun _ _ p => (p.up l₂).up l₁) fun _ _ p => (p.up l₂).up l₁) fun _ _ p => p.up l₁) fun _ _ p => p)
theorem Ev.cmp {l r : Expr} {op : CmpOp} {pos : Pos} (h : Ev M W A env l S X fun d₁ S₁ => Ev M W A env r S₁ X fun d₂ S₂ => Op2 M W A (compareOp op) RepV d₁ d₂ S₂ X Q)
    (hm : behindInMarks op r = false := by with_unfolding_all rfl) : Ev M W A env (.Compare l [op] [r] pos) S X Q := fun s B y =>
  wpAny_Compare1 (h.use y (fun v₁ s₁ B₁ d₁ S₁ l₁ y₁ r₁ h₁ => h₁.use y₁ (fun v₂ s₂ B₂ d₂ S₂ l₂ y₂ r₂ h₂ =>
    wpAny_mono (h₂ s₂ B₂ v₁ v₂ y₂ (r₁.mono l₂) r₂) (fun _ _ p => (p.up l₂).up l₁) fun _ _ p => (p.up l₂).up l₁) fun _ _ p => p.up l₁) fun _ _ p => p) hm
theorem Te.cmp {l r : Expr} {op : CmpOp} {pos : Pos} {Q : Bool → Sig → Prop} (h : Ev M W A env l S X fun d₁ S₁ => Ev M W A env r S₁ X fun d₂ S₂ => Op2 M W A (compareOp op) RepV d₁ d₂ S₂ X fun d S₃ => ∃ b, d = .bool b ∧ Q b S₃)
    (hm : behindInMarks op r = false := by with_unfolding_all rfl) : Te M W A env (.Compare l [op] [r] pos) S X Q := fun s B y =>
  wpAny_isTrue_Compare1 (h.use y (fun v₁ s₁ B₁ d₁ S₁ l₁ y₁ r₁ h₁ => h₁.use y₁ (fun v₂ s₂ B₂ d₂ S₂ l₂ y₂ r₂ h₂ =>
    wpAny_mono (h₂ s₂ B₂ v₁ v₂ y₂ (r₁.mono l₂) r₂) (fun c s₃ hh2 => by
      obtain ⟨B₃, d, S₃, l₃, y₃, r₃, b, hb, q⟩ := hh2
      subst hb
      dsimp only [RepV, Rep] at r₃
      subst r₃
      exact wpAny_truthy_bool ⟨B₃, b, S₃, (l₁.trans l₂).trans l₃, y₃, rfl, q⟩) fun _ _ p => (p.up l₂).up l₁) fun _ _ p => p.up l₁) fun _ _ p => p) hm
/-- l op₁ m op₂ r, as a test -/
theorem Te.cmp2 {l m r : Expr} {op op' : CmpOp} {pos : Pos} {Q : Bool → Sig → Prop}
    (h : Ev M W A env l S X fun d₁ S₁ => Ev M W A env m S₁ X fun d₂ S₂ => Op2 M W A (compareOp op) RepV d₁ d₂ S₂ X fun d S₃ => ∃ b, d = .bool b ∧
      (b = false → Q false S₃) ∧ (b = true → Ev M W A env r S₃ X fun d₃ S₄ => Op2 M W A (compareOp op') RepV d₂ d₃ S₄ X fun d S₅ => ∃ b, d = .bool b ∧ Q b S₅))
    (hm : lastMarks [op, op'] [m, r] = false := by with_unfolding_all rfl) : Te M W A env (.Compare l [op, op'] [m, r] pos) S X Q := fun s B y => by
  refine isTrue_chain (rs := []) (h.use y (fun v₁ s₁ B₁ d₁ S₁ l₁ y₁ r₁ h₁ => ?_) fun _ _ p => p) hm
  show wpAny M A (do
    let rv ← holding [v₁] (eval m env)
    standAt pos
    let c ← holding [v₁, rv] (compareOp op v₁ rv)
    release [v₁, rv] [c]
    if ← holding [c, rv] (truthy c) then testChain pos rv [op'] [eval r env] else pure false) _ _ s₁
  refine wpAny_bind (wpAny_holding (h₁.use y₁ (fun v₂ s₂ B₂ d₂ S₂ l₂ y₂ r₂ h₂ => ?_) fun _ _ p => p.up l₁))
  refine wpAny_bind (wpAny_standAt ?_)
  refine wpAny_bind (wpAny_holding (wpAny_mono (h₂ s₂ B₂ v₁ v₂ y₂ (r₁.mono l₂) r₂) (fun c s₃ hh3 => ?_) fun _ _ p => (p.up l₂).up l₁))
  obtain ⟨B₃, d, S₃, l₃, y₃, r₃, b, hb, qf, qt⟩ := hh3
  subst hb
  dsimp only [RepV, Rep] at r₃
  subst r₃
  have rel : ∀ {γ : Type} {f : Unit → Sem γ} {P : γ → Shared → Prop} {E : Value → Shared → Prop} {vs ks : List Value}, wpAny M A (f ()) P E s₃ → wpAny M A (release vs ks >>= f) P E s₃ := fun h Γ p hΓ => by
    rw [Sem.wp_bind', Sem.wp_release]; exact h Γ p hΓ
  refine rel (wpAny_bind (wpAny_holding (wpAny_truthy_bool ?_)))
  cases b with
  | false => exact wpAny_pure ⟨B₃, false, S₃, (l₁.trans l₂).trans l₃, y₃, rfl, qf rfl⟩
  | true =>
    show wpAny M A (do
      let rv ← holding [v₂] (eval r env)
      standAt pos
      let c ← operate [v₂, rv] (compareOp op' v₂ rv)
      holding [c] (truthy c)) _ _ s₃
    refine wpAny_bind (wpAny_holding ((qt rfl).use y₃ (fun v₄ s₄ B₄ d₄ S₄ l₄ y₄ r₄ h₄ => ?_) fun _ _ p => ((p.up l₃).up l₂).up l₁))
    refine wpAny_bind (wpAny_standAt ?_)
    have op : ∀ {P : Value → Shared → Prop} {E : Value → Shared → Prop} {vs : List Value} {t : Sem Value}, wpAny M A t P E s₄ → wpAny M A (operate vs t) P E s₄ := fun h Γ p hΓ => by
      rw [Sem.wp_operate]; exact h Γ p hΓ
    refine wpAny_bind (op (wpAny_mono (h₄ s₄ B₄ v₂ v₄ y₄ ((r₂.mono l₃).mono l₄) r₄) (fun c s₅ hh4 => ?_) fun _ _ p => (((p.up l₄).up l₃).up l₂).up l₁))
    obtain ⟨B₅, d, S₅, l₅, y₅, r₅, b, hb, q⟩ := hh4
    subst hb
    dsimp only [RepV, Rep] at r₅
    subst r₅
    exact wpAny_holding (wpAny_truthy_bool ⟨B₅, b, S₅, (((l₁.trans l₂).trans l₃).trans l₄).trans l₅, y₅, rfl, q⟩)

/-! tests -/
theorem Te.not {x : Expr} {pos : Pos} {Q : Bool → Sig → Prop} (h : Te M W A env x S X fun b S₁ => Q (!b) S₁) : Te M W A env (.UnaryOp .Not x pos) S X Q := fun s B y =>
  wpAny_isTrue_Not (h.use y (fun b s₁ B₁ b' S₁ l₁ y₁ r₁ q => by cases r₁; exact ⟨B₁, !b, S₁, l₁, y₁, rfl, q⟩) fun _ _ p => p)
theorem Te.and2 {x z : Expr} {pos : Pos} {Q : Bool → Sig → Prop} (h : Te M W A env x S X fun b S₁ => if b then Te M W A env z S₁ X Q else Q false S₁) : Te M W A env (.BoolOp .And [x, z] pos) S X Q := fun s B y => by
  refine isTrue_and (h.use y (fun b s₁ B₁ b' S₁ l₁ y₁ r₁ q => ?_) fun _ _ p => p)
  cases r₁
  cases b with
  | false => exact ⟨B₁, false, S₁, l₁, y₁, rfl, q⟩
  | true =>
    refine isTrue_and (TX.use (P := fun c s' => if c = true then _ else _) q y₁ (fun b s₂ B₂ b' S₂ l₂ y₂ r₂ q => ?_) fun _ _ p => p.up l₁)
    cases r₂
    cases b with
    | false => exact ⟨B₂, false, S₂, l₁.trans l₂, y₂, rfl, q⟩
    | true => exact isTrue_and_nil ⟨B₂, true, S₂, l₁.trans l₂, y₂, rfl, q⟩
theorem Te.or2 {x z : Expr} {pos : Pos} {Q : Bool → Sig → Prop} (h : Te M W A env x S X fun b S₁ => if b then Q true S₁ else Te M W A env z S₁ X Q) : Te M W A env (.BoolOp .Or [x, z] pos) S X Q := fun s B y => by
  refine isTrue_or (h.use y (fun b s₁ B₁ b' S₁ l₁ y₁ r₁ q => ?_) fun _ _ p => p)
  cases r₁
  cases b with
  | true => exact ⟨B₁, true, S₁, l₁, y₁, rfl, q⟩
  | false =>
    refine isTrue_or (TX.use (P := fun c s' => if c = true then _ else _) q y₁ (fun b s₂ B₂ b' S₂ l₂ y₂ r₂ q => ?_) fun _ _ p => p.up l₁)
    cases r₂
    cases b with
    | true => exact ⟨B₂, true, S₂, l₁.trans l₂, y₂, rfl, q⟩
    | false => exact isTrue_or_nil ⟨B₂, false, S₂, l₁.trans l₂, y₂, rfl, q⟩
/-- a test that is no comparison: its value's truth -/
theorem Te.value {e : Expr} {Q : Bool → Sig → Prop} (h : Ev M W A env e S X fun d S₁ => Op1 M W A truthy RepB d S₁ X Q)
    (he : isTrue e env (eval e env) = (do let v ← eval e env; standAt e.pos; holding [v] (truthy v)) := by rfl) : Te M W A env e S X Q := fun s B y =>
  isTrue_plain (h.use y (fun v s₁ B₁ d S₁ l₁ y₁ r₁ h₁ => wpAny_mono (h₁ s₁ B₁ v y₁ r₁) (fun _ _ p => p.up l₁) fun _ _ p => p.up l₁) fun _ _ p => p) he
theorem Op1.truthy_bool {b : Bool} {Q : Bool → Sig → Prop} (q : Q b S) : Op1 M W A truthy RepB (.bool b) S X Q := fun s B v y r => by
  dsimp only [Rep] at r
  subst r
  exact wpAny_truthy_bool ⟨B, b, S, .refl B, y, rfl, q⟩
theorem Ev.ifexp {t b o : Expr} {pos : Pos} (h : Te M W A env t S X fun c S₁ => if c then Ev M W A env b S₁ X Q else Ev M W A env o S₁ X Q) : Ev M W A env (.IfExp t b o pos) S X Q := fun s B y =>
  wpAny_IfExp (h.use y (fun c s₁ B₁ c' S₁ l₁ y₁ r₁ q => by
    cases r₁
    cases c with
    | true => exact TX.use (P := Post W B RepV Q) q y₁ (fun _ _ B₂ d S₂ l₂ y₂ r₂ q => ⟨B₂, d, S₂, l₁.trans l₂, y₂, r₂, q⟩) fun _ _ p => p.up l₁
    | false => exact TX.use (P := Post W B RepV Q) q y₁ (fun _ _ B₂ d S₂ l₂ y₂ r₂ q => ⟨B₂, d, S₂, l₁.trans l₂, y₂, r₂, q⟩) fun _ _ p => p.up l₁) fun _ _ p => p)
end
end
section
open PySem PySem.W PyProof.Rows PySem.Calls
set_option genInjectivity false
set_option genSizeOf false
/-! a goal hidden while a word is taken apart -/
theorem hide1 {α0 : Type} {H G : α0 → Prop} (h : ∀ P : α0 → Prop, (∀ a0, G a0 → P a0) → ∀ a0, H a0 → P a0) : ∀ a0, H a0 → G a0 := h G fun _ x => x
theorem hide2 {α0 α1 : Type} {H G : α0 → α1 → Prop} (h : ∀ P : α0 → α1 → Prop, (∀ a0 a1, G a0 a1 → P a0 a1) → ∀ a0 a1, H a0 a1 → P a0 a1) : ∀ a0 a1, H a0 a1 → G a0 a1 := h G fun _ _ x => x
theorem hide4 {α0 α1 α2 α3 : Type} {H G : α0 → α1 → α2 → α3 → Prop} (h : ∀ P : α0 → α1 → α2 → α3 → Prop, (∀ a0 a1 a2 a3, G a0 a1 a2 a3 → P a0 a1 a2 a3) → ∀ a0 a1 a2 a3, H a0 a1 a2 a3 → P a0 a1 a2 a3) : ∀ a0 a1 a2 a3, H a0 a1 a2 a3 → G a0 a1 a2 a3 := h G fun _ _ _ _ x => x
theorem hide7 {α0 α1 α2 α3 α4 α5 α6 : Type} {H G : α0 → α1 → α2 → α3 → α4 → α5 → α6 → Prop} (h : ∀ P : α0 → α1 → α2 → α3 → α4 → α5 → α6 → Prop, (∀ a0 a1 a2 a3 a4 a5 a6, G a0 a1 a2 a3 a4 a5 a6 → P a0 a1 a2 a3 a4 a5 a6) → ∀ a0 a1 a2 a3 a4 a5 a6, H a0 a1 a2 a3 a4 a5 a6 → P a0 a1 a2 a3 a4 a5 a6) : ∀ a0 a1 a2 a3 a4 a5 a6, H a0 a1 a2 a3 a4 a5 a6 → G a0 a1 a2 a3 a4 a5 a6 := h G fun _ _ _ _ _ _ _ x => x

section
variable {M : Model} {W : Gd} {A : Around} {env : Env} {S : Sig} {X : Value → PH → Shared → Prop} {Q : Fl → Sig → Prop}

/-! storing a name -/
noncomputable abbrev StoN (M : Model) (W : Gd) (A : Around) (env : Env) (x : Str) (d : D) (S : Sig) (X : Value → PH → Shared → Prop) (Q : Unit → Sig → Prop) : Prop := Op1 M W A (storeName env x) RepU d S X Q
theorem StoN.loc {x : Str} {L : Addr} {ρ : Str → Option D} {d : D} {Q : Unit → Sig → Prop} (q : Q () ((L, .frame (upd ρ x d)) :: S))
    (hL : env.locals = L := by with_unfolding_all rfl) (hk : env.scope.kind = .function := by with_unfolding_all rfl) (hl : env.kindOf x = some .local := by with_unfolding_all rfl) : StoN M W A env x d ((L, .frame ρ) :: S) X Q := fun s B v y r => by
  subst hL
  obtain ⟨m, hn, hf⟩ := y.cells (env.locals, .frame ρ) (.head _)
  refine wpAny_storeName_local hl hn (fun h' hn' hs' => ⟨B, (), _, .refl B, y.turn0 (c' := .frame (upd ρ x d)) hs'.extBut ⟨_, hn', hf.upd r x⟩, trivial, q⟩) ?_
  rw [hk]; rfl
theorem StoN.cell {x : Str} {c : Addr} {d : D} {d₀ : Option D} {i : Nat} {Q : Unit → Sig → Prop} (hc : env.cells.lookup x = some c) (hi : S[i]? = some (c, .cell d₀)) (q : Q () (S.set i (c, .cell (some d))))
    (hk : env.scope.kind = .function := by rfl) (hl : env.kindOf x = some .cell := by rfl) : StoN M W A env x d S X Q := fun s B v y r => by
  obtain ⟨v₀, hv, _⟩ := y.get hi
  exact wpAny_storeName_cell hk hl hc hv fun h' hv' hs' => ⟨B, (), _, .refl B, y.turn hi (c' := .cell (some d)) (tk := s.toks) hs'.extBut ⟨_, hv', fun e q => by cases q; exact ⟨v, rfl, r⟩⟩, trivial, q⟩
theorem Sto.name {x : Str} {pos : Pos} {d : D} {Q : Unit → Sig → Prop} (h : StoN M W A env x d S X Q) : Sto M W A env (.Name x pos) d S X Q := fun s B v y r => wpAny_assign_Name (h s B v y r)

/-! statements -/
theorem Exs.nil (q : Q .next S) : Exs M W A env [] S X Q := fun s B y => wpAny_execs_nil ⟨B, .next, S, .refl B, y, trivial, q⟩
/-- after a statement: the rest, or out -/
noncomputable abbrev SeqQ (M : Model) (W : Gd) (A : Around) (env : Env) (rest : List Stmt) (X : Value → PH → Shared → Prop) (Q : Fl → Sig → Prop) : Fl → Sig → Prop := fun f S₁ => match f with | .next => Exs M W A env rest S₁ X Q | f => Q f S₁
/-- after a turn -/
noncomputable abbrev ForQ (F₀ : Sig) (J : Sig → Prop) (Q : Fl → Sig → Prop) : Fl → Sig → Prop := fun f S₂ => match f with
  | .next | .cont => ∃ S₃, S₂ = S₃ ++ F₀ ∧ J S₃
  | .brk => ∃ S₃, S₂ = S₃ ++ F₀ ∧ Q .next S₃
  | .ret d => Q (.ret d) S₂
theorem Exs.cons {st : Stmt} {rest : List Stmt} (h : Ex M W A env st S X (SeqQ M W A env rest X Q)) : Exs M W A env (st :: rest) S X Q := fun s B y =>
  wpAny_execs_cons (h.use y (fun f s₁ B₁ f' S₁ l₁ y₁ r₁ q => by
    cases f <;> cases f' <;> dsimp only [RepF] at r₁
    · exact TX.use (P := Post W B RepF Q) q y₁ (fun _ _ B₂ d S₂ l₂ y₂ r₂ q => ⟨B₂, d, S₂, l₁.trans l₂, y₂, r₂, q⟩) fun _ _ p => p.up l₁
    · exact ⟨B₁, .brk, S₁, l₁, y₁, trivial, q⟩
    · exact ⟨B₁, .cont, S₁, l₁, y₁, trivial, q⟩
    · exact ⟨B₁, .ret _, S₁, l₁, y₁, r₁, q⟩) fun _ _ p => p)
theorem Ex.assign {x : Str} {p pos : Pos} {value : Expr} (h : Ev M W A env value S X fun d S₁ => StoN M W A env x d S₁ X fun _ => Q .next)
    (hs : swapsWith value (some (.Name x p)) pos.line env = pure false := by with_unfolding_all rfl) : Ex M W A env (.Assign [.Name x p] value pos) S X Q := fun s B y =>
  wpAny_Assign_Name (h.use y (fun v s₁ B₁ d S₁ l₁ y₁ r₁ h₁ => wpAny_mono (h₁ s₁ B₁ v y₁ r₁) (fun _ _ hh1 => (by obtain ⟨B₂, _, S₂, l₂, y₂, _, q⟩ := hh1; exact ⟨B₂, .next, S₂, l₁.trans l₂, y₂, trivial, q⟩)) fun _ _ p => p.up l₁) fun _ _ p => p) hs
theorem Ex.iff {test : Expr} {body orelse : List Stmt} {pos : Pos} (h : Te M W A env test S X fun b S₁ => if b then Exs M W A env body S₁ X Q else Exs M W A env orelse S₁ X Q) : Ex M W A env (.If test body orelse pos) S X Q := fun s B y =>
  wpAny_If (h.use y (fun c s₁ B₁ c' S₁ l₁ y₁ r₁ q => by
    cases r₁
    cases c with
    | true => exact TX.use (P := Post W B RepF Q) q y₁ (fun _ _ B₂ d S₂ l₂ y₂ r₂ q => ⟨B₂, d, S₂, l₁.trans l₂, y₂, r₂, q⟩) fun _ _ p => p.up l₁
    | false => exact TX.use (P := Post W B RepF Q) q y₁ (fun _ _ B₂ d S₂ l₂ y₂ r₂ q => ⟨B₂, d, S₂, l₁.trans l₂, y₂, r₂, q⟩) fun _ _ p => p.up l₁) fun _ _ p => p)
theorem Ex.ret {e : Expr} {pos : Pos} (h : Ev M W A env e S X fun d => Q (.ret d)) : Ex M W A env (.Return (some e) pos) S X Q := fun s B y =>
  wpAny_Return_some (h.use y (fun v s₁ B₁ d S₁ l₁ y₁ r₁ q => ⟨B₁, .ret d, S₁, l₁, y₁, r₁, q⟩) fun _ _ p => p)
/-- a call whose value is None -/
theorem Ex.expr {e : Expr} {pos : Pos} (h : Ev M W A env e S X fun d S₁ => d = .none ∧ Q .next S₁) (hi : interactive env = false := by with_unfolding_all rfl) (hs : swapsWith e none pos.line env = pure false := by with_unfolding_all rfl) :
    Ex M W A env (.Expr e pos) S X Q := fun s B y =>
  wpAny_Expr (h.use y (fun v s₁ B₁ d S₁ l₁ y₁ r₁ q => by
    obtain ⟨rfl, q⟩ := q
    dsimp only [RepV, Rep] at r₁
    subst r₁
    exact ⟨B₁, .next, S₁, l₁, y₁, trivial, q⟩) fun _ _ p => p) hi hs
noncomputable def Op3 (M : Model) (W : Gd) (A : Around) (f : Value → Value → Value → Sem Unit) (d e g : D) (S : Sig) (X : Value → PH → Shared → Prop) (Q : Sig → Prop) : Prop :=
  ∀ s B v u t, St W s B S → Rep B d v → Rep B e u → Rep B g t → wpAny M A (f v u t) (Post W B RepU fun _ => Q) (ExcP B X) s
theorem Ex.setitem {o i value : Expr} {p pos : Pos}
    (h : Ev M W A env value S X fun d S₁ => Ev M W A env o S₁ X fun od S₂ => Ev M W A env i S₂ X fun id S₃ => Op3 M W A setItem od id d S₃ X (Q .next))
    (hs : swapsWith value (some (.Subscript o i p)) pos.line env = pure false := by with_unfolding_all rfl) : Ex M W A env (.Assign [.Subscript o i p] value pos) S X Q := fun s B y =>
  wpAny_Assign_Subscript (h.use y (fun v s₁ B₁ d S₁ l₁ y₁ r₁ h₁ => h₁.use y₁ (fun ov s₂ B₂ od S₂ l₂ y₂ r₂ h₂ => h₂.use y₂ (fun iv s₃ B₃ id S₃ l₃ y₃ r₃ h₃ =>
    wpAny_mono (h₃ s₃ B₃ ov iv v y₃ (r₂.mono l₃) r₃ ((r₁.mono l₂).mono l₃)) (fun _ _ hh2 => (by obtain ⟨B₄, _, S₄, l₄, y₄, _, q⟩ := hh2; exact ⟨B₄, .next, S₄, ((l₁.trans l₂).trans l₃).trans l₄, y₄, trivial, q⟩)) fun _ _ p => ((p.up l₃).up l₂).up l₁)
    fun _ _ p => (p.up l₂).up l₁) fun _ _ p => p.up l₁) fun _ _ p => p) hs
end

/-! what yields its items one by one -/
section
variable {prog : Program} {w : World} {W : Gd} {A : Around} {env : Env} {S : Sig} {X : Value → PH → Shared → Prop} {Q : Fl → Sig → Prop}

structure Iter (M : Model) (W : Gd) (A : Around) (target : Expr) (it : Value) (F : List D → Sig) : Prop where
  item : ∀ {s B S d rest}, St W s B (S ++ F (d :: rest)) →
    wpAny M A (pyNext it) (fun r s₁ => ∃ v, r = some v ∧ wpAny M A (letOwnedTupleGo target it v) (fun _ s₂ => ∃ B', PH.le B B' ∧ St W s₂ B' (S ++ F rest) ∧ Rep B' d v) (fun _ _ => False) s₁) (fun _ _ => False) s
  self : ∀ {s B S rest}, St W s B (S ++ F rest) → wpAny M A (pyIter it) (fun r s₁ => r = it ∧ s₁ = s) (fun _ _ => False) s
  done : ∀ {s B S}, St W s B (S ++ F []) → wpAny M A (pyNext it) (fun r s₁ => r = none ∧ ∃ B', PH.le B B' ∧ St W s₁ B' S) (fun _ _ => False) s

/-- a for over told items: I, what holds of the rest of the items and of the cells -/
theorem codeFor {target : Expr} {it : Value} {body orelse : List Stmt} {F : List D → Sig} (hit : Iter (model prog w) W A target it F) (I : List D → Sig → Prop)
    (turn : ∀ d rest S F₀, I (d :: rest) S → Sto (model prog w) W A env target d (S ++ F₀) X fun _ S₁ => Exs (model prog w) W A env body S₁ X (ForQ F₀ (I rest) Q))
    (fin : ∀ S, I [] S → Exs (model prog w) W A env orelse S X Q)
    (hX : ∀ B, PassesOwn (model prog w) A env (ExcP B X)) {items : List D} {B : PH} {s : Shared} (h : I items S) (y : St W s B (S ++ F items)) :
    codeAny (model prog w) A (.forLoop target it body orelse env) (fun r s' => match r with | .ok f => Post W B RepF Q f s' | .error e => cameBackBy (model prog w) A env (ExcP B X) e s') s := by
  refine codeAny_forLoop_any (fun n s' => ∃ items S' B', items.length = n ∧ I items S' ∧ PH.le B B' ∧ St W s' B' (S' ++ F items)) ?_ _ ⟨items, S, B, rfl, h, .refl B, y⟩
  rintro n s' ⟨items, S', B', rfl, hI, l, y⟩
  cases items with
  | nil =>
    refine wpAny_mono (hit.done y) (fun r s₁ hh3 => ?_) fun _ _ p => p.elim
    obtain ⟨hr, B₁, l₁, y₁⟩ := hh3
    subst hr
    exact (fin S' hI).use y₁ (fun f s₂ B₂ f' S₂ l₂ y₂ r₂ q => ⟨B₂, f', S₂, (l.trans l₁).trans l₂, y₂, r₂, q⟩) fun e s₂ p => hX B e s₂ ((p.up l₁).up l)
  | cons d rest =>
    refine wpAny_mono (hit.item y) (fun r s₀ hh4 => ?_) fun _ _ p => p.elim
    obtain ⟨v, hr, hg⟩ := hh4
    subst hr
    refine wpAny_mono hg (fun _ s₁ hh5 => ?_) fun _ _ p => p.elim
    obtain ⟨B₁, l₁, y₁, r₁⟩ := hh5
    have t := turn d rest S' (F rest) hI s₁ B₁ v y₁ r₁
    refine wpAny_mono t (fun _ s₂ hh6 => ?_) fun e s₂ p => hX B e s₂ ((p.up l₁).up l)
    obtain ⟨B₂, _, S₂, l₂, y₂, _, h₂⟩ := hh6
    refine h₂.use y₂ (fun f s₃ B₃ f' S₃ l₃ y₃ r₃ q => ?_) fun e s₂ p => hX B e s₂ (((p.up l₂).up l₁).up l)
    have l' := ((l.trans l₁).trans l₂).trans l₃
    cases f <;> cases f' <;> dsimp only [RepF] at r₃
    · obtain ⟨S₄, rfl, hI'⟩ := q
      exact ⟨rest.length, Nat.lt_succ_self _, rest, S₄, B₃, rfl, hI', l', y₃⟩
    · obtain ⟨S₄, rfl, q⟩ := q
      exact ⟨B₃, .next, S₄, l', y₃.sub (List.sublist_append_left _ _), trivial, q⟩
    · obtain ⟨S₄, rfl, hI'⟩ := q
      exact ⟨rest.length, Nat.lt_succ_self _, rest, S₄, B₃, rfl, hI', l', y₃⟩
    · exact ⟨B₃, .ret _, S₃, l', y₃, r₃, q⟩

/-- an iterable: its iterator stands behind the cells -/
noncomputable def ItW (M : Model) (W : Gd) (A : Around) (target : Expr) (d : D) (S : Sig) (X : Value → PH → Shared → Prop) (Q : List D → Sig → Prop) : Prop :=
  ∀ s B v, St W s B S → Rep B d v → wpAny M A (pyIter v) (fun it s' => ∃ B' F items S', PH.le B B' ∧ Iter M W A target it F ∧ St W s' B' (S' ++ F items) ∧ Q items S') (ExcP B X) s

theorem Ex.for_ {target iter : Expr} {body orelse : List Stmt} {pos : Pos} (I : List D → Sig → Prop)
    (h : Ev (model prog w) W A env iter S X fun d S₁ => ItW (model prog w) W A target d S₁ X fun items S₂ => I items S₂)
    (turn : ∀ d rest S F₀, I (d :: rest) S → Sto (model prog w) W A env target d (S ++ F₀) X fun _ S₁ => Exs (model prog w) W A env body S₁ X (ForQ F₀ (I rest) Q))
    (fin : ∀ S, I [] S → Exs (model prog w) W A env orelse S X Q)
    (hX : ∀ B, PassesOwn (model prog w) A env (ExcP B X)) (hs : ∀ x, foldedSetIterable iter env x = pure x := by intro _; rfl) : Ex (model prog w) W A env (.For target iter body orelse pos) S X Q := fun s B y =>
  wpAny_For (h.use y (fun x s₁ B₁ d S₁ l₁ y₁ r₁ h₁ => wpAny_mono (h₁ s₁ B₁ x y₁ r₁) (fun it s₂ ⟨B₂, F, items, S₂, l₂, hit, y₂, hI⟩ =>
    codeAny_mono (codeFor hit I turn fin hX hI y₂) fun r s' hr => by
      cases r with
      | ok f => exact (hr.up l₂).up l₁
      | error e =>
        unfold cameBackBy at hr ⊢
        exact wpAny_mono hr (fun _ _ p => (p.up l₂).up l₁) fun _ _ p => (p.up l₂).up l₁) fun _ _ p => p.up l₁) fun _ _ p => p) hs
theorem XF.passes (B : PH) : PassesOwn (model prog w) A env (ExcP B XF) := fun _ _ h => h.false.elim
end
end
section
open PySem PySem.W PyProof.Rows PySem.Calls

noncomputable def goNames : List String := ["enumerate", "zip", "dict_itemiterator", "dict_reverseitemiterator", "odict_iterator", "itertools.zip_longest", "itertools.pairwise"]
section
variable {prog : Program} {w : World} {W : Gd} {A : Around} {env : Env} {S : Sig} {X : Value → PH → Shared → Prop}

/-- an iterator that hands on no tuple of its own -/
theorem letGo_quiet {M : Model} {E : Value → Shared → Prop} {s : Shared} {target : Expr} {it : Addr} {v : Value} {o : Obj} {n : String} {Q : Unit → Shared → Prop} (ho : s.heap.get? it = some o) (hc : o.cls = .type n)
    (hn : goNames.contains n = false) (h : Q () s) : wpAny M A (letOwnedTupleGo target (.ref it) v) Q E s := by
  have body : ∀ a : Addr, wpAny M A (do
      let o ← load it
      match o.cls, o.data with
      | .type n, .fields vs =>
        if goNames.contains n && vs[0]? == some (rawInt a) then
          rule "for.unpacks-the-owned-tuple"
          updateField it 0 .none
      | _, _ => pure ()) Q E s := fun a => by
    refine wpAny_bind (wpAny_load ho ?_)
    rw [hc]
    generalize o.data = dd
    cases dd with
    | fields vs =>
      dsimp only
      rw [hn, Bool.false_and, if_neg Bool.false_ne_true]
      exact wpAny_pure h
    | _ => exact wpAny_pure h
  cases target with
  | Tuple elts x p => cases v with
    | ref a => exact body a
    | _ => exact wpAny_pure h
  | List elts p => cases v with
    | ref a => exact body a
    | _ => exact wpAny_pure h
  | _ => exact wpAny_pure h

theorem append_perm {a : Addr} {c : Cell} : ((a, c) :: S).Perm (S ++ [(a, c)]) := (List.perm_append_singleton (a, c) S).symm

theorem drop_cons {l : List D} {i : Nat} {d : D} {rest : List D} (h : d :: rest = l.drop i) : l[i]? = some d ∧ rest = l.drop (i + 1) := by
  have h1 : (l.drop i)[0]? = some d := by rw [← h]; rfl
  rw [List.getElem?_drop, Nat.add_zero] at h1
  refine ⟨h1, ?_⟩
  have h2 : (l.drop i).drop 1 = rest := by rw [← h]; rfl
  rw [List.drop_drop] at h2
  rw [← h2]
theorem drop_nil {l : List D} {i : Nat} (h : ([] : List D) = l.drop i) : l[i]? = none := by
  have := congrArg List.length h
  rw [List.length_nil, List.length_drop] at this
  exact List.getElem?_eq_none (by lia)

/-! a list's iterator -/
theorem iter_list (hh : A.handled = none) {target : Expr} (it : Addr) : Iter (model prog w) W A target (.ref it) fun rest => [(it, .liter rest)] where
  self := fun {s B S rest} y => by
    obtain ⟨la, i, xs, n, l, hi, _⟩ := (y.perm (append_perm (S := S)).symm).cells _ (.head _)
    exact wpAny_pyIter_listiter hi ⟨rfl, rfl⟩
  item := fun {s B S d rest} y => by
    have y' := y.perm (append_perm (S := S)).symm
    obtain ⟨la, i, xs, n, l, hi, hB, hr, he⟩ := y'.cells _ (.head _)
    obtain ⟨h1, h2⟩ := drop_cons he
    obtain ⟨v, hv, rv⟩ := hr.get h1
    have hl : s.heap.IsList la xs := ⟨_, y.le _ _ hB, rfl, n, rfl⟩
    refine wpAny_pyNext_list_item hi hl (x := v) (by rw [← Array.getElem?_toList]; exact hv) fun h' hi' hs' => ⟨v, rfl, ?_⟩
    obtain ⟨oi, hoi, hci, _⟩ := id hi'
    refine letGo_quiet (s := { s with heap := h' }) hoi hci (by decide) ⟨B, .refl B, ?_, rv⟩
    exact (y'.turn0 (c' := .liter rest) (tk := s.toks) hs'.extBut ⟨la, i + 1, xs, n, l, hi', hB, hr, h2⟩).perm append_perm
  done := fun {s B S} y => by
    have y' := y.perm (append_perm (S := S)).symm
    obtain ⟨la, i, xs, n, l, hi, hB, hr, he⟩ := y'.cells _ (.head _)
    have hl : s.heap.IsList la xs := ⟨_, y.le _ _ hB, rfl, n, rfl⟩
    refine wpAny_pyNext_list_end hh hi hl ?_ fun h' hs' => ⟨rfl, B, .refl B, ?_⟩
    · have hz := drop_nil he
      rw [List.getElem?_eq_none_iff] at hz
      rw [← Array.getElem?_toList, List.getElem?_eq_none_iff, hr.length]
      exact hz
    · exact y'.gone (tk := s.toks) hs'
theorem iter_tup (hh : A.handled = none) {target : Expr} (it : Addr) : Iter (model prog w) W A target (.ref it) fun rest => [(it, .titer rest)] where
  self := fun {s B S rest} y => by
    obtain ⟨la, i, xs, n, l, hi, _⟩ := (y.perm (append_perm (S := S)).symm).cells _ (.head _)
    exact wpAny_pyIter_tupleiter hi ⟨rfl, rfl⟩
  item := fun {s B S d rest} y => by
    have y' := y.perm (append_perm (S := S)).symm
    obtain ⟨la, i, xs, n, l, hi, hB, hr, he⟩ := y'.cells _ (.head _)
    obtain ⟨h1, h2⟩ := drop_cons he
    obtain ⟨v, hv, rv⟩ := hr.get h1
    have hl : s.heap.IsTuple la xs := ⟨_, y.le _ _ hB, rfl, n, rfl⟩
    refine wpAny_pyNext_tuple_item hi hl (x := v) (by rw [← Array.getElem?_toList]; exact hv) fun h' hi' hs' => ⟨v, rfl, ?_⟩
    obtain ⟨oi, hoi, hci, _⟩ := id hi'
    refine letGo_quiet (s := { s with heap := h' }) hoi hci (by decide) ⟨B, .refl B, ?_, rv⟩
    exact (y'.turn0 (c' := .titer rest) (tk := s.toks) hs'.extBut ⟨la, i + 1, xs, n, l, hi', hB, hr, h2⟩).perm append_perm
  done := fun {s B S} y => by
    have y' := y.perm (append_perm (S := S)).symm
    obtain ⟨la, i, xs, n, l, hi, hB, hr, he⟩ := y'.cells _ (.head _)
    have hl : s.heap.IsTuple la xs := ⟨_, y.le _ _ hB, rfl, n, rfl⟩
    refine wpAny_pyNext_tuple_end hh hi hl ?_ fun h' hs' => ⟨rfl, B, .refl B, ?_⟩
    · have hz := drop_nil he
      rw [List.getElem?_eq_none_iff] at hz
      rw [← Array.getElem?_toList, List.getElem?_eq_none_iff, hr.length]
      exact hz
    · exact y'.gone (tk := s.toks) hs'
theorem iter_rng (hh : A.handled = none) {target : Expr} (it : Addr) : Iter (model prog w) W A target (.ref it) fun rest => [(it, .riter rest)] where
  self := fun {s B S rest} y => by
    obtain ⟨x, n, step, hi, he⟩ := (y.perm (append_perm (S := S)).symm).cells _ (.head _)
    exact wpAny_pyIter_rangeiter hi ⟨rfl, rfl⟩
  item := fun {s B S d rest} y => by
    have y' := y.perm (append_perm (S := S)).symm
    obtain ⟨x, n, step, hi, he⟩ := y'.cells _ (.head _)
    cases n with
    | zero => cases he
    | succ n =>
      dsimp only [intsD, List.cons.injEq] at he
      obtain ⟨rfl, rfl⟩ := he
      refine wpAny_pyNext_range_item hi (by lia) fun h' hi' hs' => ⟨_, rfl, ?_⟩
      refine letGo_quiet (s := { s with heap := h', toks := s.toks + 1 }) hi' rfl (by decide) ⟨B, .refl B, ?_, by dsimp only [Rep]; exact ⟨_, rfl⟩⟩
      exact (y'.turn0 (c' := .riter _) (tk := s.toks + 1) hs'.extBut ⟨x + step, n, step, by rw [show (n : Int) = ((n + 1 : Nat) : Int) - 1 by lia]; exact hi', rfl⟩).perm append_perm
  done := fun {s B S} y => by
    have y' := y.perm (append_perm (S := S)).symm
    obtain ⟨x, n, step, hi, he⟩ := y'.cells _ (.head _)
    cases n with
    | succ n => cases he
    | zero => exact wpAny_pyNext_range_end hh hi (by lia) fun h' hs' => ⟨rfl, B, .refl B, y'.gone (tk := s.toks) hs'⟩
theorem iter_str (hh : A.handled = none) {target : Expr} (it : Addr) : Iter (model prog w) W A target (.ref it) fun rest => [(it, .siter rest)] where
  self := fun {s B S rest} y => by
    obtain ⟨x, t, i, hi, he⟩ := (y.perm (append_perm (S := S)).symm).cells _ (.head _)
    exact wpAny_pyIter_striter_ascii hi ⟨rfl, rfl⟩
  item := fun {s B S d rest} y => by
    have y' := y.perm (append_perm (S := S)).symm
    obtain ⟨x, t, i, hi, he⟩ := y'.cells _ (.head _)
    rw [List.map_drop] at he
    obtain ⟨h1, h2⟩ := drop_cons he
    rw [List.getElem?_map, Option.map_eq_some_iff] at h1
    obtain ⟨c, hc, rfl⟩ := h1
    refine wpAny_pyNext_ascii_item hi (c := c) (by rw [← Array.getElem?_toList]; exact hc) fun h' hi' hs' => ⟨_, rfl, ?_⟩
    obtain ⟨oi, hoi, hci, _⟩ := id hi'
    refine letGo_quiet (s := { s with heap := h', toks := s.toks + 1 }) hoi hci (by decide) ⟨B, .refl B, ?_, by dsimp only [Rep]; exact ⟨_, rfl⟩⟩
    exact (y'.turn0 (c' := .siter _) (tk := s.toks + 1) hs'.extBut ⟨x, t, i + 1, hi', by rw [h2, List.map_drop]⟩).perm append_perm
  done := fun {s B S} y => by
    have y' := y.perm (append_perm (S := S)).symm
    obtain ⟨x, t, i, hi, he⟩ := y'.cells _ (.head _)
    rw [List.map_drop] at he
    have hz := drop_nil he
    rw [List.getElem?_eq_none_iff, List.length_map] at hz
    refine wpAny_pyNext_ascii_end hh hi ?_ fun h' hs' => ⟨rfl, B, .refl B, y'.gone (tk := s.toks) hs'⟩
    rw [← Array.getElem?_toList, List.getElem?_eq_none_iff]
    exact hz

/-! iter() of the data -/
theorem ItW.lst (hh : A.handled = none) {target : Expr} {l : List D} {Q : List D → Sig → Prop} (q : Q l S) : ItW (model prog w) W A target (.lst l) S X Q := fun s B v y r => by
  dsimp only [Rep] at r
  obtain ⟨a, xs, n, rfl, hB, hr⟩ := r
  refine wpAny_pyIter_list (items := xs) ⟨_, y.le _ _ hB, rfl, n, rfl⟩ ⟨B, _, l, S, .refl B, iter_list hh _, ?_, q⟩
  exact (y.newC (c := .liter l) s.toks ⟨a, 0, xs, n, l, ⟨_, Heap.get?_push_size _ rfl, rfl, rfl⟩, hB, hr, by simp⟩).perm append_perm
theorem ItW.tup (hh : A.handled = none) {target : Expr} {l : List D} {Q : List D → Sig → Prop} (q : Q l S) : ItW (model prog w) W A target (.tup l) S X Q := fun s B v y r => by
  dsimp only [Rep] at r
  obtain ⟨a, xs, n, rfl, hB, hr⟩ := r
  refine wpAny_pyIter_tuple (items := xs) ⟨_, y.le _ _ hB, rfl, n, rfl⟩ ⟨B, _, l, S, .refl B, iter_tup hh _, ?_, q⟩
  exact (y.newC (c := .titer l) s.toks ⟨a, 0, xs, n, l, ⟨_, Heap.get?_push_size _ rfl, rfl, rfl⟩, hB, hr, by simp⟩).perm append_perm
theorem ItW.rng (hh : A.handled = none) {target : Expr} {a b c : Int} {Q : List D → Sig → Prop} (hs : Builtin.Range.small a b c = true) (h0 : 0 ≤ Builtin.Range.rangeSize a b c) (q : Q (intsD a c (Builtin.Range.rangeSize a b c).toNat) S) :
    ItW (model prog w) W A target (.rng a b c) S X Q := fun s B v y r => by
  dsimp only [Rep] at r
  obtain ⟨x, t, u, z, rfl, hB⟩ := r
  refine wpAny_pyIter_range (y.le _ _ hB) hs ⟨B, _, _, S, .refl B, iter_rng hh _, ?_, q⟩
  exact (y.newC (c := .riter (intsD a c (Builtin.Range.rangeSize a b c).toNat)) s.toks ⟨a, (Builtin.Range.rangeSize a b c).toNat, c, by rw [Int.toNat_of_nonneg h0]; exact Heap.get?_push_size _ rfl, rfl⟩).perm append_perm
theorem ItW.str (hh : A.handled = none) {target : Expr} {x : Str} {Q : List D → Sig → Prop} (ha : x.cps.all (· < 128) = true) (q : Q (x.cps.toList.map fun c => D.str ⟨#[c]⟩) S) :
    ItW (model prog w) W A target (.str x) S X Q := fun s B v y r => by
  dsimp only [Rep] at r
  obtain ⟨t, rfl⟩ := r
  refine wpAny_pyIter_ascii ha ⟨B, _, _, S, .refl B, iter_str hh _, ?_, q⟩
  exact (y.newC (c := .siter (x.cps.toList.map fun c => D.str ⟨#[c]⟩)) s.toks ⟨x, t, 0, ⟨_, Heap.get?_push_size _ rfl, rfl, rfl⟩, by simp⟩).perm append_perm
end
end
section
section
variable {prog : Program} {w : World} {W : Gd} {A : Around} {S : Sig} {X : Value → PH → Shared → Prop} {Q : D → Sig → Prop} {a b : Int}
theorem int_inv {B : PH} {i : Int} {v : Value} (h : Rep B (.int i) v) : ∃ t, v = .int i t := by simpa only [Rep] using h
theorem str_inv {B : PH} {x : Str} {v : Value} (h : Rep B (.str x) v) : ∃ t, v = .str x t := by simpa only [Rep] using h
theorem raw_inv {B : PH} {u v : Value} (h : Rep B (.raw u) v) : v = u := by simpa only [Rep] using h
theorem none_inv {B : PH} {v : Value} (h : Rep B .none v) : v = .none := by simpa only [Rep] using h
theorem rep_int {B : PH} (i : Int) (t : Tok) : RepV B (.int i t) (.int i) := by dsimp only [RepV, Rep]; exact ⟨t, rfl⟩
theorem rep_bool {B : PH} (b : Bool) : RepV B (.bool b) (.bool b) := by dsimp only [RepV, Rep]
theorem rep_none {B : PH} : RepV B .none .none := by dsimp only [RepV, Rep]
theorem rep_raw {B : PH} (v : Value) : RepV B v (.raw v) := by dsimp only [RepV, Rep]

theorem Op2.add (q : Q (.int (a + b)) S) : Op2 (model prog w) W A (binaryOp .Add) RepV (.int a) (.int b) S X Q := fun s B v u y r₁ r₂ => by
  obtain ⟨t, rfl⟩ := int_inv r₁
  obtain ⟨t', rfl⟩ := int_inv r₂
  exact PyProof.Rows.add_int ⟨B, _, S, .refl B, y.tok _, rep_int _ _, q⟩
theorem Op2.sub (q : Q (.int (a - b)) S) : Op2 (model prog w) W A (binaryOp .Sub) RepV (.int a) (.int b) S X Q := fun s B v u y r₁ r₂ => by
  obtain ⟨t, rfl⟩ := int_inv r₁
  obtain ⟨t', rfl⟩ := int_inv r₂
  exact PyProof.Rows.sub_int ⟨B, _, S, .refl B, y.tok _, rep_int _ _, q⟩
theorem Op2.mul (hm : IntMulOk a b) (q : Q (.int (a * b)) S) : Op2 (model prog w) W A (binaryOp .Mult) RepV (.int a) (.int b) S X Q := fun s B v u y r₁ r₂ => by
  obtain ⟨t, rfl⟩ := int_inv r₁
  obtain ⟨t', rfl⟩ := int_inv r₂
  exact PyProof.Rows.mul_int ⟨B, _, S, .refl B, y.tok _, rep_int _ _, q⟩ hm
theorem Op2.mod (hb : b ≠ 0) (q : Q (.int (a.fmod b)) S) : Op2 (model prog w) W A (binaryOp .Mod) RepV (.int a) (.int b) S X Q := fun s B v u y r₁ r₂ => by
  obtain ⟨t, rfl⟩ := int_inv r₁
  obtain ⟨t', rfl⟩ := int_inv r₂
  exact PyProof.Rows.mod_int' hb ⟨B, _, S, .refl B, y.tok _, rep_int _ _, q⟩
theorem Op2.fdiv (hb : b ≠ 0) (hp : Builtin.divisionGoesByPylong a b = false) (q : Q (.int (a.fdiv b)) S) : Op2 (model prog w) W A (binaryOp .FloorDiv) RepV (.int a) (.int b) S X Q := fun s B v u y r₁ r₂ => by
  obtain ⟨t, rfl⟩ := int_inv r₁
  obtain ⟨t', rfl⟩ := int_inv r₂
  exact PyProof.Rows.floordiv_int hb ⟨B, _, S, .refl B, y.tok _, rep_int _ _, q⟩ (.inl hp)
theorem Op2.lt (q : Q (.bool (decide (a < b))) S) : Op2 (model prog w) W A (compareOp .Lt) RepV (.int a) (.int b) S X Q := fun s B v u y r₁ r₂ => by
  obtain ⟨t, rfl⟩ := int_inv r₁
  obtain ⟨t', rfl⟩ := int_inv r₂
  exact PyProof.Rows.lt_int ⟨B, _, S, .refl B, y, rep_bool _, q⟩
theorem Op2.gt (q : Q (.bool (decide (b < a))) S) : Op2 (model prog w) W A (compareOp .Gt) RepV (.int a) (.int b) S X Q := fun s B v u y r₁ r₂ => by
  obtain ⟨t, rfl⟩ := int_inv r₁
  obtain ⟨t', rfl⟩ := int_inv r₂
  exact PyProof.Rows.gt_int ⟨B, _, S, .refl B, y, rep_bool _, q⟩
theorem Op2.le (q : Q (.bool (decide (a ≤ b))) S) : Op2 (model prog w) W A (compareOp .LtE) RepV (.int a) (.int b) S X Q := fun s B v u y r₁ r₂ => by
  obtain ⟨t, rfl⟩ := int_inv r₁
  obtain ⟨t', rfl⟩ := int_inv r₂
  exact PyProof.Rows.le_int ⟨B, _, S, .refl B, y, rep_bool _, q⟩
theorem Op2.ge (q : Q (.bool (decide (b ≤ a))) S) : Op2 (model prog w) W A (compareOp .GtE) RepV (.int a) (.int b) S X Q := fun s B v u y r₁ r₂ => by
  obtain ⟨t, rfl⟩ := int_inv r₁
  obtain ⟨t', rfl⟩ := int_inv r₂
  exact PyProof.Rows.ge_int ⟨B, _, S, .refl B, y, rep_bool _, q⟩
theorem Op2.nei (q : Q (.bool (a != b)) S) : Op2 (model prog w) W A (compareOp .NotEq) RepV (.int a) (.int b) S X Q := fun s B v u y r₁ r₂ => by
  obtain ⟨t, rfl⟩ := int_inv r₁
  obtain ⟨t', rfl⟩ := int_inv r₂
  exact PyProof.Rows.ne_int ⟨B, _, S, .refl B, y, rep_bool _, q⟩
end

/-! equality of data -/
mutual
noncomputable def toPy : D → PyData
  | .none => .none
  | .bool b => .bool b
  | .int i => .int i
  | .str x => .str x
  | .tup l => .tuple (toPys l)
  | .lst l => .list (toPys l)
  | .rng _ _ _ => .none
  | .raw _ => .none
noncomputable def toPys : List D → List PyData
  | [] => []
  | d :: l => toPy d :: toPys l
end

noncomputable def plain : Nat → D → Bool
  | _, .none => true
  | _, .int _ => true
  | _, .str x => PyData.strOk x
  | n + 1, .tup l => l.all (plain n)
  | n + 1, .lst l => l.all (plain n)
  | _, _ => false

mutual
theorem reads_of {B : PH} {h : Heap} (k : ∀ a o, B a = some o → h.get? a = some o) : ∀ (n : Nat) (d : D) (v : Value), plain n d = true → Rep B d v → ∃ as, Reads h v (toPy d) as
  | n, .none, v, _, r => by
    obtain rfl := none_inv r
    exact ⟨_, Reads.none⟩
  | n, .int i, v, _, r => by
    obtain ⟨t, rfl⟩ := int_inv r
    exact ⟨_, Reads.int i t⟩
  | n, .str x, v, _, r => by
    obtain ⟨t, rfl⟩ := str_inv r
    exact ⟨_, Reads.str x t⟩
  | 0, .tup l, v, p, _ => by simp [plain] at p
  | 0, .lst l, v, p, _ => by simp [plain] at p
  | n + 1, .tup l, v, p, r => by
    dsimp only [Rep] at r
    obtain ⟨a, xs, m, rfl, hB, hr⟩ := r
    obtain ⟨as, q⟩ := readsL_of k n l xs.toList (by simpa [plain] using p) hr
    rw [toPy]
    exact ⟨as, Reads.tuple (k _ _ hB) rfl rfl q⟩
  | n + 1, .lst l, v, p, r => by
    dsimp only [Rep] at r
    obtain ⟨a, xs, m, rfl, hB, hr⟩ := r
    obtain ⟨as, q⟩ := readsL_of k n l xs.toList (by simpa [plain] using p) hr
    rw [toPy]
    exact ⟨_, Reads.list (k _ _ hB) rfl rfl q⟩
  | n, .bool _, _, p, _ => by cases n <;> simp [plain] at p
  | n, .rng _ _ _, _, p, _ => by cases n <;> simp [plain] at p
  | n, .raw _, _, p, _ => by cases n <;> simp [plain] at p
theorem readsL_of {B : PH} {h : Heap} (k : ∀ a o, B a = some o → h.get? a = some o) : ∀ (n : Nat) (l : List D) (vs : List Value), (∀ d ∈ l, plain n d = true) → RepL B l vs → ∃ as, ReadsAll h vs (toPys l) as
  | n, [], vs, _, r => by
    dsimp only [RepL] at r
    subst r
    exact ⟨_, ReadsAll.nil⟩
  | n, d :: l, vs, p, r => by
    dsimp only [RepL] at r
    obtain ⟨v, us, rfl, r1, r2⟩ := r
    obtain ⟨as, q1⟩ := reads_of k n d v (p d (.head _)) r1
    obtain ⟨bs, q2⟩ := readsL_of k n l us (fun e he => p e (.tail _ he)) r2
    exact ⟨_, ReadsAll.cons q1 q2⟩
end
theorem plain_lay : ∀ (n : Nat) (d : D), plain n d = true → (toPy d).canLay0 = true ∧ (toPy d).depth ≤ n := by
  have all : ∀ (n : Nat), (∀ d, plain n d = true → (toPy d).canLay0 = true ∧ (toPy d).depth ≤ n) → ∀ l : List D, (∀ d ∈ l, plain n d = true) → PyData.canLayAll0 (toPys l) = true ∧ PyData.depthAll (toPys l) ≤ n := by
    intro n ih l
    induction l with
    | nil => intro _; simp [toPys, PyData.canLayAll0, PyData.depthAll]
    | cons d l hi =>
      intro h
      have h1 := ih d (h d (.head _))
      have h2 := hi fun e he => h e (.tail _ he)
      dsimp only [toPys, PyData.canLayAll0, PyData.depthAll, h1.1, h2.1, Bool.and_self, true_and]
      have a1 := h1.2
      have a2 := h2.2
      lia
  intro n
  induction n with
  | zero => intro d h; cases d <;> simp_all [plain, toPy, PyData.canLay0, PyData.depth]
  | succ n ih =>
    intro d h
    cases d with
    | tup l =>
      have q := all n ih l (by simpa [plain] using h)
      have q2 := q.2
      dsimp only [toPy, PyData.canLay0, PyData.depth, q.1, true_and]
      lia
    | lst l =>
      have q := all n ih l (by simpa [plain] using h)
      have q2 := q.2
      dsimp only [toPy, PyData.canLay0, PyData.depth, q.1, true_and]
      lia
    | _ => simp_all [plain, toPy, PyData.canLay0, PyData.depth]
theorem plain_eqv : ∀ (n : Nat) (d e : D) (k : Nat), plain n d = true → plain k e = true → (PyData.eqv (toPy d) (toPy e) = true ↔ d = e) := by
  have all : ∀ (n : Nat), (∀ d e k, plain n d = true → plain k e = true → (PyData.eqv (toPy d) (toPy e) = true ↔ d = e)) → ∀ (k : Nat) (l m : List D), (∀ d ∈ l, plain n d = true) → (∀ d ∈ m, plain k d = true) →
      (PyData.eqvAll (toPys l) (toPys m) = true ↔ l = m) := by
    intro n ih k l
    induction l with
    | nil =>
      intro m _ _
      cases m with
      | nil => exact ⟨fun _ => rfl, fun _ => rfl⟩
      | cons e m => exact ⟨fun q => Bool.noConfusion q, fun q => by cases q⟩
    | cons d l hi =>
      intro m h1 h2
      cases m with
      | nil => exact ⟨fun q => Bool.noConfusion q, fun q => by cases q⟩
      | cons e m =>
        have q1 := ih d e k (h1 d (.head _)) (h2 e (.head _))
        have q2 := hi m (fun x hx => h1 x (.tail _ hx)) fun x hx => h2 x (.tail _ hx)
        show (PyData.eqv (toPy d) (toPy e) && PyData.eqvAll (toPys l) (toPys m)) = true ↔ _
        rw [Bool.and_eq_true, q1, q2, List.cons.injEq]
  have one : ∀ (d e : D) (k : Nat), (∀ l, d ≠ .tup l) → (∀ l, d ≠ .lst l) → (∃ n, plain n d = true) → plain k e = true → (PyData.eqv (toPy d) (toPy e) = true ↔ d = e) := by
    intro d e k ht hl h1 h2
    obtain ⟨n, h1⟩ := h1
    cases d with
    | tup l => exact absurd rfl (ht l)
    | lst l => exact absurd rfl (hl l)
    | none => cases e <;> first | exact ⟨fun _ => rfl, fun _ => rfl⟩ | exact ⟨fun q => Bool.noConfusion q, fun q => D.noConfusion q⟩ | (cases k <;> cases h2)
    | int i => cases e <;> first | exact ⟨fun q => congrArg D.int (eq_of_beq q), fun q => by cases q; exact beq_self_eq_true i⟩ | exact ⟨fun q => Bool.noConfusion q, fun q => D.noConfusion q⟩ | (cases k <;> cases h2)
    | str i => cases e <;> first | exact ⟨fun q => congrArg D.str (eq_of_beq q), fun q => by cases q; exact beq_self_eq_true i⟩ | exact ⟨fun q => Bool.noConfusion q, fun q => D.noConfusion q⟩ | (cases k <;> cases h2)
    | _ => cases n <;> cases h1
  intro n
  induction n with
  | zero =>
    intro d e k h1 h2
    exact one d e k (fun l q => by cases q; cases h1) (fun l q => by cases q; cases h1) ⟨0, h1⟩ h2
  | succ n ih =>
    intro d e k h1 h2
    cases d with
    | tup l =>
      cases e with
      | tup m =>
        cases k with
        | zero => cases h2
        | succ k => exact (all n ih k l m (List.all_eq_true.mp h1) (List.all_eq_true.mp h2)).trans ⟨fun q => congrArg D.tup q, fun q => by cases q; rfl⟩
      | _ => exact ⟨fun q => Bool.noConfusion q, fun q => D.noConfusion q⟩
    | lst l =>
      cases e with
      | lst m =>
        cases k with
        | zero => cases h2
        | succ k => exact (all n ih k l m (List.all_eq_true.mp h1) (List.all_eq_true.mp h2)).trans ⟨fun q => congrArg D.lst q, fun q => by cases q; rfl⟩
      | _ => exact ⟨fun q => Bool.noConfusion q, fun q => D.noConfusion q⟩
    | _ => exact one _ e k (fun l q => D.noConfusion q) (fun l q => D.noConfusion q) ⟨_, h1⟩ h2
theorem plain_shaped {n : Nat} {d : D} (h : plain n d = true) (hn : n ≤ 64) : SeqAt.shaped (toPy d) = true := by
  have q := plain_lay n d h
  unfold SeqAt.shaped
  rw [q.1, Bool.true_and]
  exact decide_eq_true (Nat.le_trans q.2 hn)

section
variable {prog : Program} {w : World} {W : Gd} {A : Around} {S : Sig} {X : Value → PH → Shared → Prop} {Q : D → Sig → Prop} {d e : D} {n k : Nat}
open Classical in
theorem Op2.eqd (hd : plain n d = true) (he : plain k e = true) (hn : n ≤ 64) (hk : k ≤ 64) (hu : A.units + 64 < cLine) (q : Q (.bool (decide (d = e))) S) :
    Op2 (model prog w) W A (compareOp .Eq) RepV d e S X Q := fun s B v u y r₁ r₂ => by
  obtain ⟨as, q1⟩ := reads_of y.le n d v hd r₁
  obtain ⟨bs, q2⟩ := reads_of y.le k e u he r₂
  have h := plain_eqv n d e k hd he
  refine eq_dataH q1 q2 (plain_shaped hd hn) (plain_shaped he hk) hu ⟨B, _, S, .refl B, y, rep_bool _, ?_⟩
  rw [show PyData.eqv (toPy d) (toPy e) = decide (d = e) by
    by_cases z : d = e
    · rw [decide_eq_true z]; exact h.mpr z
    · rw [decide_eq_false z]; exact Bool.eq_false_iff.mpr fun c => z (h.mp c)]
  exact q
open Classical in
theorem Op2.ned (hd : plain n d = true) (he : plain k e = true) (hn : n ≤ 64) (hk : k ≤ 64) (hu : A.units + 64 < cLine) (q : Q (.bool (!decide (d = e))) S) :
    Op2 (model prog w) W A (compareOp .NotEq) RepV d e S X Q := fun s B v u y r₁ r₂ => by
  obtain ⟨as, q1⟩ := reads_of y.le n d v hd r₁
  obtain ⟨bs, q2⟩ := reads_of y.le k e u he r₂
  have h := plain_eqv n d e k hd he
  refine ne_dataH q1 q2 (plain_shaped hd hn) (plain_shaped he hk) hu ⟨B, _, S, .refl B, y, rep_bool _, ?_⟩
  rw [show PyData.eqv (toPy d) (toPy e) = decide (d = e) by
    by_cases z : d = e
    · rw [decide_eq_true z]; exact h.mpr z
    · rw [decide_eq_false z]; exact Bool.eq_false_iff.mpr fun c => z (h.mp c)]
  exact q
end
end
section
theorem sub_ops (slice : Expr) (o i : Value) : ∃ ops, subscripted slice false o i = operate ops (getItem o i) := by
  cases slice with
  | Slice _ _ x _ => cases x <;> exact ⟨_, rfl⟩
  | _ => exact ⟨_, rfl⟩

noncomputable def cutD {α : Type} (l : List α) (lo hi : Option Int) : List α := (l.drop (lo.elim 0 (clipAt l.length))).take (hi.elim l.length (clipAt l.length) - lo.elim 0 (clipAt l.length))
theorem RepL.cut {B : PH} {l : List D} {vs : List Value} (h : RepL B l vs) (lo hi : Option Int) : RepL B (cutD l lo hi) (cutD vs lo hi) := by
  unfold cutD
  rw [h.length]
  exact (h.drop _).take _
theorem cutD_from {α : Type} (l : List α) (a : Nat) : cutD l (some (a : Int)) none = l.drop a := by
  unfold cutD
  simp only [Option.elim, clipAt_nat]
  rcases Nat.le_total a l.length with h | h
  · rw [Nat.min_eq_left h, List.take_of_length_le (by simp)]
  · rw [Nat.min_eq_right h, List.drop_of_length_le (by lia), List.drop_of_length_le (by simpa using h)]; simp
theorem cutD_upto {α : Type} (l : List α) (b : Nat) : cutD l none (some (b : Int)) = l.take b := by
  unfold cutD
  simp only [Option.elim, clipAt_nat, List.drop_zero, Nat.sub_zero]
  rcases Nat.le_total b l.length with h | h
  · rw [Nat.min_eq_left h]
  · rw [Nat.min_eq_right h, List.take_of_length_le (by lia), List.take_of_length_le (by lia)]
theorem cutD_run {α : Type} (l : List α) (a b : Nat) (ha : a ≤ l.length) (hb : b ≤ l.length) : cutD l (some (a : Int)) (some (b : Int)) = (l.drop a).take (b - a) := by
  unfold cutD
  simp only [Option.elim, clipAt_nat, Nat.min_eq_left ha, Nat.min_eq_left hb]
theorem cutD_length {α : Type} (l : List α) (lo hi : Option Int) : (cutD l lo hi).length ≤ l.length := by
  unfold cutD
  rw [List.length_take, List.length_drop]
  exact Nat.le_trans (Nat.min_le_right _ _) (Nat.sub_le _ _)
theorem slicePick_cut (xs : Array Value) (lo hi : Option Int) : slicePick xs lo hi none = (cutD xs.toList lo hi).toArray := by
  rw [slicePick_plain]
  unfold cutD
  rw [Array.length_toList]

section
variable {prog : Program} {w : World} {A : Around} {E : Value → Shared → Prop} {s : Shared}
theorem slicePart {v : Value} {k : Option Int} {Q : Option Int → Shared → Prop} (p : IsPart v k) (h : Q k s) : wpAny (model prog w) A (Builtin.Slice.slicePartIndex v) Q E s := by
  cases p with
  | none => exact slicePart_none h
  | int i t => exact slicePart_int h
theorem adjust_clip (lo hi : Option Int) (n : Nat) : Builtin.Slice.sliceAdjust lo hi 1 (n : Int) = (((lo.elim 0 (clipAt n) : Nat) : Int), ((hi.elim n (clipAt n) : Nat) : Int)) := by
  unfold Builtin.Slice.sliceAdjust
  have h1 : ¬ ((1 : Int) < 0) := by lia
  dsimp only [h1, if_false]
  cases lo <;> cases hi <;> simp only [Option.elim, clipAt_cast, Prod.mk.injEq] <;> refine ⟨?_, ?_⟩ <;> first | rfl | trivial | (split <;> first | (rw [Int.min_eq_left (by lia), Int.max_comm]) | exact (Int.max_eq_right (Int.le_min.mpr ⟨Int.not_lt.mp ‹_›, Int.natCast_nonneg _⟩)).symm)
theorem places_one (a b : Nat) : Builtin.Slice.slicePlaces (a : Int) (b : Int) 1 = b - a := by
  unfold Builtin.Slice.slicePlaces
  have h1 : (1 : Int) > 0 := by lia
  simp only [h1, if_true, Int.ediv_one]
  split
  · rw [Int.sub_add_cancel]; exact Int.toNat_sub b a
  · rename_i h; exact (Nat.sub_eq_zero_of_le (Nat.le_of_not_lt fun q => h (Int.ofNat_lt.mpr q))).symm
theorem sliceApplied_plain {sl : Addr} {n : Nat} {vl vu : Value} {lo hi : Option Int} {Q : Int × Int × Nat → Shared → Prop} (hs : s.heap.IsSliceOf sl vl vu .none) (pl : IsPart vl lo) (pu : IsPart vu hi)
    (h : Q (((lo.elim 0 (clipAt n) : Nat) : Int), 1, hi.elim n (clipAt n) - lo.elim 0 (clipAt n)) s) :
    wpAny (model prog w) A (Builtin.Slice.sliceApplied (.ref sl) (pure (n : Int))) Q E s := by
  obtain ⟨os, hos, hcs, hds⟩ := id hs
  unfold Builtin.Slice.sliceApplied Builtin.Slice.sliceFields
  refine wpAny_bind (wpAny_bind (wpAny_field hos hds (x := vl) rfl (wpAny_bind (wpAny_field hos hds (x := vu) rfl (wpAny_bind (wpAny_field hos hds (x := .none) rfl (wpAny_pure ?_)))))))
  refine wpAny_bind (slicePart_none ?_)
  show wpAny _ _ (if ((1 : Int) == 0) = true then _ else _) _ _ s
  rw [if_neg (by decide)]
  refine wpAny_bind (slicePart pl (wpAny_bind (slicePart pu (wpAny_bind (wpAny_pure ?_)))))
  show wpAny _ _ (match Builtin.Slice.sliceAdjust lo hi 1 (n : Int) with | (lo, hi) => pure (lo, (1 : Int), Builtin.Slice.slicePlaces lo hi 1)) _ _ s
  rw [adjust_clip]
  show wpAny _ _ (pure (_, (1 : Int), Builtin.Slice.slicePlaces _ _ 1)) _ _ s
  rw [places_one]
  exact wpAny_pure h
theorem pick_cut (xs : Array Value) (a k : Nat) : ((List.range k).filterMap fun (j : Nat) => xs[((a : Int) + (j : Int) * 1).toNat]?) = (xs.toList.drop a).take k := by
  have e : (fun (j : Nat) => xs[((a : Int) + (j : Int) * 1).toNat]?) = fun j => xs[a + j]? := by
    funext j
    have : ((a : Int) + (j : Int) * 1).toNat = a + j := by lia
    rw [this]
  rw [e]
  have := pick_run xs a k
  rw [List.filterMap_map] at this
  exact this

theorem getItem_tuple_slice {t sl : Addr} {items : Array Value} {n : Nat} {vl vu : Value} {lo hi : Option Int} {Q : Value → Shared → Prop} (ht : s.heap.get? t = some (tupO items n)) (hs : s.heap.IsSliceOf sl vl vu .none)
    (pl : IsPart vl lo) (pu : IsPart vu hi)
    (h1 : cutD items.toList lo hi = items.toList → Q (.ref t) s)
    (h : Q (.ref s.heap.objs.size) { s with heap := s.heap.push (tupO (cutD items.toList lo hi).toArray 0) })
    (hsz : items.size ≤ sizeLine) : wpAny (model prog w) A (getItem (.ref t) (.ref sl)) Q E s := by
  have hcut : sizeOk (.seq (cutD items.toList lo hi).toArray) := by
    show (cutD items.toList lo hi).toArray.size ≤ sizeLine
    have := cutD_length items.toList lo hi
    rw [Array.length_toList] at this
    exact Nat.le_trans this hsz
  have ht' : IsTup s.heap t items := ⟨_, ht, rfl, n, rfl⟩
  obtain ⟨os, hos, hcs, hds⟩ := id hs
  have hTs : s.TypeIs (.ref sl) "slice" := ⟨os, hos, hcs⟩
  unfold getItem
  try with_reducible refine wpAny_holding ?_
  first | refine wpAny_bind (wpAny_pure ?_) | skip
  refine wpAny_bind (wpAny_sequenceKey ht'.typeIs (by decide) ?_)
  refine wpAny_bind (wpAny_callSpecial?_slot (name := Str.ofString "__getitem__") ht'.typeIs slot_tuple_getitem
    (wpAny_call_entry slot_tuple_getitem ht'.typeIs entry_tuple_getitem ?_ (args_tuple_getitem _ _)))
  show wpAny _ _ (Builtin.Tuple.tupleItemsOf (.ref t) >>= _) _ _ s
  refine wpAny_bind (tupleItemsOf_ ht' ?_)
  refine wpAny_bind (wpAny_typeOf hTs ?_)
  rw [if_pos (by decide)]
  refine wpAny_bind (sliceApplied_plain hs pl pu ?_)
  have e : ∀ (a : Nat) (b : Nat), ((a : Int) == 0 && (1 : Int) == 1 && (b - a) == items.size) = (decide (a = 0) && decide (b - a = items.size)) := by
    intro a b
    have e1 : ((a : Int) == 0) = decide (a = 0) := by
      rw [Bool.eq_iff_iff]; simp
    rw [e1, show ((1 : Int) == 1) = true from rfl, Bool.and_true]
    rfl
  have mk : wpAny (model prog w) A.in1 (Builtin.Tuple.tupleExact ((List.range (hi.elim items.size (clipAt items.size) - lo.elim 0 (clipAt items.size))).filterMap fun (k : Nat) => items[(((lo.elim 0 (clipAt items.size) : Nat) : Int) + (k : Int) * 1).toNat]?).toArray >>= fun r => ret r)
      (fun fin s' => ∃ v, fin = .done (.ret v) ∧ Q v s') E s := by
    rw [pick_cut]
    have c : (items.toList.drop (lo.elim 0 (clipAt items.size))).take (hi.elim items.size (clipAt items.size) - lo.elim 0 (clipAt items.size)) = cutD items.toList lo hi := by
      unfold cutD; rw [Array.length_toList]
    rw [c]
    exact wpAny_bind (m := Builtin.Tuple.tupleExact _) (wpAny_newObj_type (wpAny_pure ⟨_, rfl, h⟩) hcut)
  show wpAny _ _ (if (((lo.elim 0 (clipAt items.size) : Nat) : Int) == 0 && (1 : Int) == 1 && (hi.elim items.size (clipAt items.size) - lo.elim 0 (clipAt items.size)) == items.size) = true then _ else _) _ _ s
  rw [e]
  refine wpAny_ite_split (fun hc => ?_) fun _ => wpAny_mono mk (fun fin s' hh1 => (by obtain ⟨v, e, q⟩ := hh1; exact ⟨v, e, wpAny_pure q⟩)) fun _ _ x => x
  rw [Bool.and_eq_true, decide_eq_true_eq, decide_eq_true_eq] at hc
  refine wpAny_bind (m := Builtin.Tuple.tupleIsExact _) ?_
  unfold Builtin.Tuple.tupleIsExact
  refine wpAny_bind (wpAny_typeOf ht'.typeIs (wpAny_pure ?_))
  rw [if_pos (by decide)]
  refine wpAny_bind (wpAny_rule (wpAny_pure ⟨_, rfl, wpAny_pure (h1 ?_)⟩))
  unfold cutD
  rw [Array.length_toList, hc.2, hc.1, List.drop_zero, List.take_of_length_le (by rw [Array.length_toList]; exact Nat.le_refl _)]
end

section
variable {prog : Program} {w : World} {W : Gd} {A : Around} {env : Env} {S : Sig} {X : Value → PH → Shared → Prop} {Q : D → Sig → Prop}
theorem Ev.sub {value slice : Expr} {pos : Pos} (h : Ev (model prog w) W A env value S X fun od S₁ => Ev (model prog w) W A env slice S₁ X fun id S₂ => Op2 (model prog w) W A (subscriptTail value slice) RepV od id S₂ X Q) :
    Ev (model prog w) W A env (.Subscript value slice pos) S X Q := fun s B y =>
  Subscript_ (h.use y (fun v₁ s₁ B₁ d₁ S₁ l₁ y₁ r₁ h₁ => h₁.use y₁ (fun v₂ s₂ B₂ d₂ S₂ l₂ y₂ r₂ h₂ =>
    wpAny_mono (h₂ s₂ B₂ v₁ v₂ y₂ (r₁.mono l₂) r₂) (fun _ _ p => (p.up l₂).up l₁) fun _ _ p => (p.up l₂).up l₁) fun _ _ p => p.up l₁) fun _ _ p => p)
theorem item_list {value slice : Expr} {s : Shared} {E : Value → Shared → Prop} {a : Addr} {xs : Array Value} {n : Nat} {i : Int} {t : Tok} {x : Value} {P : Value → Shared → Prop}
    (ha : s.heap.get? a = some (lstO xs n)) (h0 : 0 ≤ i) (hf : i < 2 ^ 63) (hx : xs.toList[i.toNat]? = some x) (h : P x s) : wpAny (model prog w) A (subscriptTail value slice (.ref a) (.int i t)) P E s := by
  obtain ⟨ops, hs⟩ := sub_ops slice (.ref a) (.int i t)
  have hl : s.heap.IsList a xs := ⟨_, ha, rfl, n, rfl⟩
  exact tail_any hl.typeIs slot_list_getitem.lookup (wpAny_getItem_list hl h0 hf (by rw [← Array.getElem?_toList]; exact hx) h) hs
theorem Op2.item_raw {value slice : Expr} {a : Addr} {l : List D} {i : Int} {d : D} (hm : (a, .list l) ∈ S) (h0 : 0 ≤ i) (hf : i < 2 ^ 63) (hx : l[i.toNat]? = some d) (q : Q d S) :
    Op2 (model prog w) W A (subscriptTail value slice) RepV (.raw (.ref a)) (.int i) S X Q := fun s B v u y r₁ r₂ => by
  obtain rfl := raw_inv r₁
  obtain ⟨t, rfl⟩ := int_inv r₂
  obtain ⟨xs, n, ha, hr⟩ := y.cells _ hm
  obtain ⟨x, hx, hr⟩ := hr.get hx
  exact Mine.item_list ha h0 hf hx ⟨B, d, S, .refl B, y, hr, q⟩
theorem Op2.item_lst {value slice : Expr} {l : List D} {i : Int} {d : D} (h0 : 0 ≤ i) (hf : i < 2 ^ 63) (hx : l[i.toNat]? = some d) (q : Q d S) :
    Op2 (model prog w) W A (subscriptTail value slice) RepV (.lst l) (.int i) S X Q := fun s B v u y r₁ r₂ => by
  obtain ⟨t, rfl⟩ := int_inv r₂
  dsimp only [Rep] at r₁
  obtain ⟨a, xs, n, rfl, ha, hr⟩ := r₁
  obtain ⟨x, hx, hr⟩ := hr.get hx
  exact Mine.item_list (y.le _ _ ha) h0 hf hx ⟨B, d, S, .refl B, y, hr, q⟩
theorem Op2.item_tup {value slice : Expr} {l : List D} {i : Int} {d : D} (h0 : 0 ≤ i) (hf : i < 2 ^ 63) (hx : l[i.toNat]? = some d) (q : Q d S) :
    Op2 (model prog w) W A (subscriptTail value slice) RepV (.tup l) (.int i) S X Q := fun s B v u y r₁ r₂ => by
  obtain ⟨t, rfl⟩ := int_inv r₂
  dsimp only [Rep] at r₁
  obtain ⟨a, xs, n, rfl, ha, hr⟩ := r₁
  obtain ⟨x, hx', hr'⟩ := hr.get hx
  have ha' := y.le _ _ ha
  obtain ⟨ops, hs⟩ := sub_ops slice (.ref a) (.int i t)
  have ht : IsTup s.heap a xs := ⟨_, ha', rfl, n, rfl⟩
  have hlt : i.toNat < xs.size := by
    have := (List.getElem?_eq_some_iff.mp hx').1
    rwa [Array.length_toList] at this
  refine tail_any ht.typeIs slot_tuple_getitem.lookup (PyProof.Rows.getItem_tuple (j := i.toNat) ht (by lia) hf ?_ (by rw [← Array.getElem?_toList]; exact hx') ⟨B, d, S, .refl B, y, hr', q⟩) hs
  exact seqIndex_of h0 (by lia)

noncomputable def OpS (M : Model) (W : Gd) (A : Around) (f : Value → Value → Sem Value) (d : D) (lo hi : Option Int) (S : Sig) (X : Value → PH → Shared → Prop) (Q : D → Sig → Prop) : Prop :=
  ∀ s B v sl vl vu, St W s B S → Rep B d v → s.heap.IsSliceOf sl vl vu .none → IsPart vl lo → IsPart vu hi → wpAny M A (f v (.ref sl)) (Post W B RepV Q) (ExcP B X) s
noncomputable def RepP : PH → Value → Option Int → Prop := fun _ v o => IsPart v o
noncomputable abbrev EvO (M : Model) (W : Gd) (A : Around) (env : Env) (x : Option Expr) (S : Sig) (X : Value → PH → Shared → Prop) (Q : Option Int → Sig → Prop) : Prop := TX M W A (evalPart x env) RepP S X Q
theorem EvO.none {Q : Option Int → Sig → Prop} (q : Q none S) : EvO (model prog w) W A env none S X Q := fun s B y => wpAny_pure ⟨B, _, S, .refl B, y, .none, q⟩
theorem EvO.some {e : Expr} {Q : Option Int → Sig → Prop} (h : Ev (model prog w) W A env e S X fun d S₁ => ∃ i, d = .int i ∧ Q (some i) S₁) : EvO (model prog w) W A env (some e) S X Q := fun s B y =>
  h.use y (fun v₁ s₁ B₁ d₁ S₁ l₁ y₁ r₁ hh2 => by
    obtain ⟨i, e, q⟩ := hh2
    subst e
    obtain ⟨t, rfl⟩ := int_inv r₁
    exact ⟨B₁, _, S₁, l₁, y₁, .int i t, q⟩) fun _ _ p => p
theorem Ev.slice {value : Expr} {lower upper : Option Expr} {p pos : Pos}
    (h : Ev (model prog w) W A env value S X fun od S₁ => EvO (model prog w) W A env lower S₁ X fun lo S₂ => EvO (model prog w) W A env upper S₂ X fun hi S₃ =>
      OpS (model prog w) W A (subscriptTail value (.Slice lower upper none p)) od lo hi S₃ X Q) : Ev (model prog w) W A env (.Subscript value (.Slice lower upper none p) pos) S X Q := fun s B y =>
  Subscript_ (h.use y (fun v₁ s₁ B₁ d₁ S₁ l₁ y₁ r₁ h₁ => wpAny_Slice (h₁.use y₁ (fun v₂ s₂ B₂ d₂ S₂ l₂ y₂ r₂ h₂ => h₂.use y₂ (fun v₃ s₃ B₃ d₃ S₃ l₃ y₃ r₃ h₃ => wpAny_pure (
    wpAny_mono (h₃ { s₃ with heap := s₃.heap.push { cls := .type "slice", data := .fields #[v₂, v₃, .none] } } B₃ v₁ _ v₂ v₃ (y₃.grow (tk := s₃.toks) fun _ _ e => Heap.get?_push_of_some _ e) ((r₁.mono l₂).mono l₃) (Heap.IsSliceOf.new ..) r₂ r₃)
      (fun _ _ p => ((p.up l₃).up l₂).up l₁) fun _ _ p => ((p.up l₃).up l₂).up l₁)) fun _ _ p => (p.up l₂).up l₁) fun _ _ p => p.up l₁)) fun _ _ p => p)
theorem OpS.lst {value slice : Expr} {l : List D} {lo hi : Option Int} (hl : l.length ≤ sizeLine) (q : Q (.lst (cutD l lo hi)) S) : OpS (model prog w) W A (subscriptTail value slice) (.lst l) lo hi S X Q := fun s B v sl vl vu y r hsl pl pu => by
  dsimp only [Rep] at r
  obtain ⟨a, xs, n, rfl, ha, hr⟩ := r
  have hl' : s.heap.IsList a xs := ⟨_, y.le _ _ ha, rfl, n, rfl⟩
  obtain ⟨ops, hs⟩ := sub_ops slice (.ref a) (.ref sl)
  refine tail_any hl'.typeIs list_getitem_lookup (wpAny_getItem_list_slice hl' hsl pl pu .none (by simp) ⟨_, _, S, St.add_le y.fresh, y.newP rfl s.toks, ?_, q⟩ (by rw [← hr.length] at hl; rw [← Array.length_toList]; exact hl)) hs
  dsimp only [RepV, Rep]
  refine ⟨_, _, 0, rfl, St.add_self, ?_⟩
  rw [slicePick_cut]
  exact (hr.cut lo hi).mono (St.add_le y.fresh)
theorem OpS.tup {value slice : Expr} {l : List D} {lo hi : Option Int} (hl : l.length ≤ sizeLine) (q : Q (.tup (cutD l lo hi)) S) : OpS (model prog w) W A (subscriptTail value slice) (.tup l) lo hi S X Q := fun s B v sl vl vu y r hsl pl pu => by
  dsimp only [Rep] at r
  obtain ⟨a, xs, n, rfl, ha, hr⟩ := r
  have hl' : IsTup s.heap a xs := ⟨_, y.le _ _ ha, rfl, n, rfl⟩
  obtain ⟨ops, hs⟩ := sub_ops slice (.ref a) (.ref sl)
  refine tail_any hl'.typeIs slot_tuple_getitem.lookup (getItem_tuple_slice (y.le _ _ ha) hsl pl pu (fun e => ⟨B, _, S, .refl B, y, ?_, q⟩) ⟨_, _, S, St.add_le y.fresh, y.newP rfl s.toks, ?_, q⟩ (by rw [← hr.length] at hl; rw [← Array.length_toList]; exact hl)) hs
  · dsimp only [RepV, Rep]
    refine ⟨_, _, n, rfl, ha, ?_⟩
    have := hr.cut lo hi
    rwa [e] at this
  · dsimp only [RepV, Rep]
    exact ⟨_, _, 0, rfl, St.add_self, (hr.cut lo hi).mono (St.add_le y.fresh)⟩
/-- l[::-1] -/
theorem Ev.rev {value : Expr} {k : Nat} {p p1 p2 pos : Pos} (h : Ev (model prog w) W A env value S X fun od S₁ => ∃ l, od = .lst l ∧ l.length ≤ sizeLine ∧ Q (.lst l.reverse) S₁) :
    Ev (model prog w) W A env (.Subscript value (.Slice none none (some (.UnaryOp .USub (.Constant (.int 1) k p1) p2)) p) pos) S X Q := fun s B y =>
  Subscript_ (h.use y (fun v₁ s₁ B₁ d₁ S₁ l₁ y₁ r₁ ⟨l, hd, hl, q⟩ => wpAny_Slice (wpAny_pure (wpAny_pure (by
    subst hd
    dsimp only [RepV, Rep] at r₁
    obtain ⟨a, xs, n, rfl, ha, hr⟩ := r₁
    refine wpAny_UnaryOp (wpAny_Constant_int (neg_int ?_))
    let s₂ : Shared := { s₁ with toks := s₁.toks + 1 + 1 }
    have hl' : Heap.IsList (s₁.heap.push { cls := .type "slice", data := .fields #[.none, .none, .int (-1) (s₁.toks + 1)] }) a xs := ⟨_, Heap.get?_push_of_some _ (y₁.le _ _ ha), rfl, n, rfl⟩
    obtain ⟨ops, hs⟩ := sub_ops (.Slice none none (some (.UnaryOp .USub (.Constant (.int 1) k p1) p2)) p) (.ref a) (.ref s₁.heap.objs.size)
    have y₂ := y₁.grow (h' := s₁.heap.push { cls := .type "slice", data := .fields #[.none, .none, .int (-1) (s₁.toks + 1)] }) (tk := s₁.toks + 1 + 1) fun _ _ e => Heap.get?_push_of_some _ e
    refine tail_any (Heap.IsList.typeIs (s := { s₁ with heap := _, toks := s₁.toks + 1 + 1 }) hl') list_getitem_lookup (wpAny_getItem_list_slice hl' (Heap.IsSliceOf.new ..) .none .none (.int _ _) (by decide) ⟨_, _, S₁, l₁.trans (St.add_le y₂.fresh), y₂.newP rfl (s₁.toks + 1 + 1), ?_, q⟩
      (by rw [← hr.length] at hl; rw [← Array.length_toList]; exact hl)) hs
    dsimp only [RepV, Rep]
    refine ⟨_, _, 0, rfl, St.add_self, ?_⟩
    rw [krv_pick]
    exact hr.reverse.mono (St.add_le y₂.fresh)))) ) fun _ _ p => p)

/-! tuple + tuple, list + list -/
theorem Op2.tadd {l m : List D} (hsz : l.length + m.length ≤ sizeLine) (q : Q (.tup (l ++ m)) S) : Op2 (model prog w) W A (binaryOp .Add) RepV (.tup l) (.tup m) S X Q := fun s B v u y r₁ r₂ => by
  dsimp only [Rep] at r₁ r₂
  obtain ⟨a, xs, n, rfl, ha, hr⟩ := r₁
  obtain ⟨b, ys, k, rfl, hb, hr'⟩ := r₂
  have ha' := y.le _ _ ha
  have hb' := y.le _ _ hb
  have e1 := hr.length
  have e2 := hr'.length
  rw [Array.length_toList] at e1 e2
  by_cases h1 : xs.isEmpty = true
  · refine concat_meets ⟨_, ha', rfl⟩ ⟨_, hb', rfl⟩ noFill_tuple_add seq_tuple_add F.slot_tuple_add F.entry_tuple_add (F.args_tuple_add_2 _ _) (AutoSeq1.tuple___add___tuple_tuple_0 a xs n b ys k h1) ⟨ha', hb', ⟨B, _, S, .refl B, y, ?_, q⟩⟩
    have : l = [] := List.eq_nil_of_length_eq_zero (by rw [← e1]; exact Array.isEmpty_iff_size_eq_zero.mp h1)
    subst this
    dsimp only [RepV, Rep]
    exact ⟨b, ys, k, rfl, hb, hr'⟩
  · by_cases h2 : ys.isEmpty = true
    · refine concat_meets ⟨_, ha', rfl⟩ ⟨_, hb', rfl⟩ noFill_tuple_add seq_tuple_add F.slot_tuple_add F.entry_tuple_add (F.args_tuple_add_2 _ _) (AutoSeq1.tuple___add___tuple_tuple_1 a xs n b ys k h1 h2) ⟨ha', hb', ⟨B, _, S, .refl B, y, ?_, q⟩⟩
      have : m = [] := List.eq_nil_of_length_eq_zero (by rw [← e2]; exact Array.isEmpty_iff_size_eq_zero.mp h2)
      subst this
      simp only [RepV, Rep, List.append_nil]
      exact ⟨a, xs, n, rfl, ha, hr⟩
    · refine P.add_tuple ha' hb' h1 h2 ⟨_, _, S, St.add_le y.fresh, y.newP rfl s.toks, ?_, q⟩ (by lia)
      dsimp only [RepV, Rep]
      exact ⟨_, _, 0, rfl, St.add_self, by rw [Array.toList_append]; exact (hr.append hr').mono (St.add_le y.fresh)⟩
theorem Op2.ladd {l m : List D} (hsz : l.length + m.length ≤ sizeLine) (q : Q (.lst (l ++ m)) S) : Op2 (model prog w) W A (binaryOp .Add) RepV (.lst l) (.lst m) S X Q := fun s B v u y r₁ r₂ => by
  dsimp only [Rep] at r₁ r₂
  obtain ⟨a, xs, n, rfl, ha, hr⟩ := r₁
  obtain ⟨b, ys, k, rfl, hb, hr'⟩ := r₂
  have e1 := hr.length
  have e2 := hr'.length
  rw [Array.length_toList] at e1 e2
  refine P.add_list (y.le _ _ ha) (y.le _ _ hb) ⟨_, _, S, St.add_le y.fresh, y.newP rfl s.toks, ?_, q⟩ (by lia)
  dsimp only [RepV, Rep]
  exact ⟨_, _, 0, rfl, St.add_self, by rw [Array.toList_append]; exact (hr.append hr').mono (St.add_le y.fresh)⟩
end
end
section
noncomputable abbrev EvArgs (M : Model) (W : Gd) (A : Around) (env : Env) (pos : Pos) (args : List Expr) (S : Sig) (X : Value → PH → Shared → Prop) (Q : List D → Sig → Prop) : Prop := TX M W A (spliced (backTo pos (starEach args env))) RepVs S X Q
noncomputable abbrev Cw (M : Model) (W : Gd) (A : Around) (env : Env) (pos : Pos) (f : Value) (first : List Value) (args : List Expr) (S : Sig) (X : Value → PH → Shared → Prop) (Q : D → Sig → Prop) : Prop :=
  TX M W A (callWith pos f first (backTo pos (starEach args env)) []) RepV S X Q

noncomputable def ins1 (c : Addr × Cell) : Sig → Sig
  | [] => [c]
  | p :: r => p :: c :: r
theorem ins1_perm (c : Addr × Cell) : ∀ S : Sig, (c :: S).Perm (ins1 c S)
  | [] => .refl _
  | _ :: _ => .swap ..

theorem vs0 {P : List Value → Prop} (h : P []) : ∀ vs : List Value, vs.length = 0 → P vs := fun vs e => by
  cases vs with
  | nil => exact h
  | cons a r => cases e
theorem vsS {P : List Value → Prop} {n : Nat} (h : ∀ a vs, vs.length = n → P (a :: vs)) : ∀ vs : List Value, vs.length = n + 1 → P vs := fun vs e => by
  cases vs with
  | nil => cases e
  | cons a r => exact h a r (Nat.succ.inj e)
theorem vs1 {P : List Value → Prop} (h : ∀ a, P [a]) : ∀ vs : List Value, vs.length = 1 → P vs := vsS fun a => vs0 (h a)
theorem vs2 {P : List Value → Prop} (h : ∀ a b, P [a, b]) : ∀ vs : List Value, vs.length = 2 → P vs := vsS fun a => vs1 (h a)
theorem vs3 {P : List Value → Prop} (h : ∀ a b c, P [a, b, c]) : ∀ vs : List Value, vs.length = 3 → P vs := vsS fun a => vs2 (h a)
theorem vs4 {P : List Value → Prop} (h : ∀ a b c d, P [a, b, c, d]) : ∀ vs : List Value, vs.length = 4 → P vs := vsS fun a => vs3 (h a)
section
variable {M : Model} {W : Gd} {A : Around} {env : Env} {pos : Pos} {S : Sig} {X : Value → PH → Shared → Prop}
theorem EvArgs.nil {Q : List D → Sig → Prop} (q : Q [] S) : EvArgs M W A env pos [] S X Q := fun s B y => spliced_nil ⟨B, [], S, .refl B, y, by dsimp only [RepVs]; exact .nil, q⟩
theorem EvArgs.cons {e : Expr} {rest : List Expr} {Q : List D → Sig → Prop} (h : Ev M W A env e S X fun d S₁ => EvArgs M W A env pos rest S₁ X fun ds => Q (d :: ds))
    (he : starEach (e :: rest) env = (false, eval e env) :: starEach rest env := by with_unfolding_all rfl) : EvArgs M W A env pos (e :: rest) S X Q := fun s B y => by
  rw [he]
  exact spliced_cons (h.use y (fun v₁ s₁ B₁ d₁ S₁ l₁ y₁ r₁ h₁ => h₁.use y₁ (fun v₂ s₂ B₂ d₂ S₂ l₂ y₂ r₂ q => ⟨B₂, _, S₂, l₁.trans l₂, y₂, RepL.cons (r₁.mono l₂) r₂, q⟩) fun _ _ p => p.up l₁) fun _ _ p => p)
theorem evalArgs_any {E : Value → Shared → Prop} {s : Shared} {f : Value} {l : List (Bool × Sem Value)} {Q : Args → Shared → Prop} (hp : l.any (·.1) = false) (h : wpAny M A (spliced l) (fun vs s' => Q ⟨vs, []⟩ s') E s) :
    wpAny M A (evalArgs f true l []) Q E s := by
  cases l with
  | nil =>
    unfold evalArgs
    show wpAny M A (spliced [] >>= _) Q E s
    refine wpAny_bind (wpAny_mono h (fun vs s' h' => ?_) fun _ _ x => x)
    refine wpAny_bind (wpAny_pure ?_)
    refine wpAny_holding ?_
    exact wpAny_bind (wpAny_pure (wpAny_bind (wpAny_pure (wpAny_pure h'))))
  | cons p l =>
    obtain ⟨b, x⟩ := p
    cases b with
    | true => simp at hp
    | false => exact evalArgs_plain h

theorem Ev.call {id : Str} {p : Pos} {args : List Expr} {Q : D → Sig → Prop} (h : Ev M W A env (.Name id p) S X fun d S₁ => ∃ f, d = .raw f ∧ Cw M W A env pos f [] args S₁ X Q) :
    Ev M W A env (.Call (.Name id p) args [] pos) S X Q := fun s B y =>
  wpAny_Call_NameR (h.use y (fun v₁ s₁ B₁ d₁ S₁ l₁ y₁ r₁ hh1 => by
    obtain ⟨f, hd, h₁⟩ := hh1
    subst hd
    obtain rfl := raw_inv r₁
    exact wpAny_mono (h₁ s₁ B₁ y₁) (fun _ _ p => p.up l₁) fun _ _ p => p.up l₁) fun _ _ p => p)
theorem Cw.type {T : String} {first : List Value} {args : List Expr} {Q : D → Sig → Prop} (h : EvArgs M W A env pos args S X fun ds S₁ => OpL M W A (fun vs => call (.type T) (first ++ vs)) RepV ds S₁ X Q)
    (hp : (backTo pos (starEach args env)).any (·.1) = false := by rfl) : Cw M W A env pos (.type T) first args S X Q := fun s B y =>
  PyProof.Rows.callWith_type hp (evalArgs_any hp (h.use y (fun v₁ s₁ B₁ d₁ S₁ l₁ y₁ r₁ h₁ => wpAny_mono (h₁ s₁ B₁ v₁ y₁ r₁) (fun _ _ p => p.up l₁) fun _ _ p => p.up l₁) fun _ _ p => p))
theorem Cw.builtin {id : String} {first : List Value} {args : List Expr} {Q : D → Sig → Prop} (h : EvArgs M W A env pos args S X fun ds S₁ => OpL M W A (fun vs => call (.builtin id) (first ++ vs)) RepV ds S₁ X Q)
    (hp : (backTo pos (starEach args env)).any (·.1) = false := by rfl) : Cw M W A env pos (.builtin id) first args S X Q := fun s B y =>
  callWith_builtin hp (evalArgs_any hp (h.use y (fun v₁ s₁ B₁ d₁ S₁ l₁ y₁ r₁ h₁ => wpAny_mono (h₁ s₁ B₁ v₁ y₁ r₁) (fun _ _ p => p.up l₁) fun _ _ p => p.up l₁) fun _ _ p => p))
theorem Cw.fn {f : Addr} {o : Obj} {fd : FuncData} {first : List Value} {args : List Expr} {Q : D → Sig → Prop} (ho : W.G.get? f = some o) (hd : o.data = .func fd)
    (h : EvArgs M W A env pos args S X fun ds S₁ => OpL M W A (fun vs => call (.ref f) (first ++ vs)) RepV ds S₁ X Q)
    (hp : (backTo pos (starEach args env)).any (·.1) = false := by rfl) : Cw M W A env pos (.ref f) first args S X Q := fun s B y =>
  callWith_function (o := o) (fd := fd) (evalArgs_any hp (h.use y (fun v₁ s₁ B₁ d₁ S₁ l₁ y₁ r₁ h₁ => ⟨⟨y₁.ground _ _ ho, hd⟩, wpAny_mono (h₁ s₁ B₁ v₁ y₁ r₁) (fun _ _ p => p.up l₁) fun _ _ p => p.up l₁⟩) fun _ _ p => p))
end

/-! a function of the text -/
structure FnAt (W : Gd) (f : Addr) (params : Arguments) (body : List Stmt) (scope : Scope) : Prop where
  ex : ∃ oc od osl name qual doc pm an cdv ct, W.G.get? f = some ⟨oc, od, .func (fnOf name qual params body scope .none .none doc pm an cdv ct), osl⟩ ∧ W.G.CodeRec cdv qual

theorem frame0 {B : PH} : ∀ {ps : List Str} {ds : List D} {vs : List Value}, RepL B ds vs → FrameIs B (fun x => (ps.zip ds).reverse.lookup x) fun x => (ps.zip vs).reverse.lookup x := by
  have key : ∀ (l : List (Str × D)) (m : List (Str × Value)), l.length = m.length → (∀ (i : Nat) (d : Str × D), l[i]? = some d → ∃ v, m[i]? = some (d.1, v) ∧ Rep B d.2 v) → ∀ x d, l.lookup x = some d → ∃ v, m.lookup x = some v ∧ Rep B d v := by
    intro l
    induction l with
    | nil => intro m _ _ x d e; simp at e
    | cons p l ih =>
      intro m hlen h x d e
      cases m with
      | nil => simp at hlen
      | cons q m =>
        obtain ⟨v, h1, h2⟩ := h 0 p rfl
        simp only [List.getElem?_cons_zero, Option.some.injEq] at h1
        subst h1
        obtain ⟨k, d'⟩ := p
        rw [List.lookup_cons] at e ⊢
        by_cases z : x == k
        · simp only [z] at e ⊢
          cases e
          exact ⟨v, rfl, h2⟩
        · simp only [Bool.not_eq_true] at z
          simp only [z] at e ⊢
          exact ih m (by simpa using hlen) (fun i d hd => h (i + 1) d hd) x d e
  intro ps ds vs r x d e
  refine key _ _ ?_ ?_ x d e
  · simp [r.length]
  · intro i d hd
    have hlen : (ps.zip ds).length = (ps.zip vs).length := by simp [r.length]
    have hi0 : i < (ps.zip ds).length := by
      have := (List.getElem?_eq_some_iff.mp hd).1
      rwa [List.length_reverse] at this
    rw [List.getElem?_reverse hi0] at hd
    have hi : i < (ps.zip vs).length := by
      rw [← hlen]
      exact hi0
    rw [List.getElem?_reverse hi, ← hlen]
    generalize (ps.zip ds).length - 1 - i = j at hd ⊢
    rw [List.getElem?_zip_eq_some] at hd
    obtain ⟨h1, h2⟩ := hd
    obtain ⟨v, h3, h4⟩ := r.get h2
    exact ⟨v, by rw [List.getElem?_zip_eq_some]; exact ⟨h1, h3⟩, h4⟩

/-- a function's end -/
noncomputable abbrev FnQ (Q : D → Sig → Prop) : Fl → Sig → Prop := fun fl S' => ∃ S'', S''.Sublist S' ∧ match fl with | .ret d => Q d S'' | .next => Q .none S'' | _ => False
section
variable {prog : Program} {w : World} {W : Gd} {A : Around} {S : Sig} {X : Value → PH → Shared → Prop} {Q : D → Sig → Prop}
theorem Op.fnX {f : Addr} {params : Arguments} {body : List Stmt} {scope : Scope} {ds : List D} (hf : FnAt W f params body scope) (hroom : A.depth < recursionLimit) (ps : List Str)
    (hb : ∀ name qual doc pm an cdv ct vs, vs.length = ps.length → bindArgs (fnOf name qual params body scope .none .none doc pm an cdv ct) ⟨vs, []⟩ = pure (ps.zip vs))
    (hl : ds.length = ps.length) (hloc : ∀ x ∈ ps, scope.names.lookup x = some .local) (hcell : ∀ x ∈ scope.names, x.2 ≠ .cell) (XB : Addr → Value → PH → Shared → Prop)
    (h : ∀ L qual cd, Exs (model prog w) W (A.deeper (envOf qual scope L f cd)) (envOf qual scope L f cd) body ((L, .frame (fun x => (ps.zip ds).reverse.lookup x)) :: S) (XB L) (FnQ Q))
    (hX : ∀ L qual cd B e s', S.all (fun p => p.1 != L) → XB L e B s' → wpAny (model prog w) (A.deeper (envOf qual scope L f cd)) (leaving (envOf qual scope L f cd) e) (fun _ s'' => ExcP B X e s'') (fun e' s'' => ExcP B X e' s'') s')
    (hk : scope.kind = .function := by rfl) (hco : scope.isCoroutine = false := by rfl) (hgen : scope.isGenerator = false := by rfl) :
    OpL (model prog w) W A (fun vs => call (.ref f) vs) RepV ds S X Q := fun s B vs y r => by
  obtain ⟨oc, od, osl, name, qual, doc, pm, an, cdv, ct, ho, hcd⟩ := hf.ex
  have hlen : vs.length = ps.length := r.length.trans hl
  refine wpAny_call (codeAny_call_def (fd := fnOf name qual params body scope .none .none doc pm an cdv ct) (body := body) (binds := ps.zip vs) hroom (y.ground _ _ ho) rfl (W.hlim.keeps y.ground) (hcd.keeps y.ground) rfl
    (.of_eq (hb _ _ _ _ _ _ _ _ hlen)) hcell (fun x hx => hloc x.1 (List.of_mem_zip hx).1) (fun h₁ hns hk₁ => ?_) hco hgen hk)
  have y₁ := y.grow (h' := h₁) (tk := s.toks + (ps.zip vs).length) hk₁
  have hs : s.heap.objs.size = s.heap.objs.size := rfl
  have y₂ : St W { s with heap := h₁, toks := s.toks + (ps.zip vs).length } B ((s.heap.objs.size, .frame (fun x => (ps.zip ds).reverse.lookup x)) :: S) := by
    refine ⟨y₁.gens, y₁.drawn, y₁.os, y₁.base, y₁.le, fun p hp => ?_, fun p hp => ?_, ?_⟩
    · rcases List.mem_cons.mp hp with rfl | hp
      · exact ⟨_, hns, frame0 r⟩
      · exact y₁.cells p hp
    · rcases List.mem_cons.mp hp with rfl | hp
      · exact y.fresh
      · exact y₁.apart p hp
    · rw [List.map_cons, List.nodup_cons]
      refine ⟨fun hm => ?_, y.nodup⟩
      obtain ⟨p, hp, e⟩ := List.mem_map.mp hm
      exact absurd (y.ne p hp) (by rw [e]; exact Nat.lt_irrefl _)
  refine (h s.heap.objs.size qual cdv).use y₂ (fun fl s' B' fl' S' l' y' r' ⟨S'', hsub, q⟩ => ?_) fun e s' ⟨B', l', x'⟩ => ?_
  · cases fl <;> cases fl' <;> dsimp only [RepF] at r' <;> dsimp only at q <;> first
      | exact False.elim q
      | exact ⟨B', .none, S'', l', y'.sub hsub, rep_none, q⟩
      | exact ⟨B', _, S'', l', y'.sub hsub, r', q⟩
  · refine wpAny_mono (hX s.heap.objs.size qual cdv B' e s' ?_ x') (fun _ s'' p => p.up l') fun e' s'' p => p.up l'
    rw [List.all_eq_true]
    intro p hp
    exact bne_iff_ne.mpr (Nat.ne_of_lt (y.ne p hp))
theorem Op.fn {f : Addr} {params : Arguments} {body : List Stmt} {scope : Scope} {ds : List D} (hf : FnAt W f params body scope) (hroom : A.depth < recursionLimit) (ps : List Str)
    (hb : ∀ name qual doc pm an cdv ct vs, vs.length = ps.length → bindArgs (fnOf name qual params body scope .none .none doc pm an cdv ct) ⟨vs, []⟩ = pure (ps.zip vs))
    (hl : ds.length = ps.length) (hloc : ∀ x ∈ ps, scope.names.lookup x = some .local) (hcell : ∀ x ∈ scope.names, x.2 ≠ .cell)
    (h : ∀ L qual cd, Exs (model prog w) W (A.deeper (envOf qual scope L f cd)) (envOf qual scope L f cd) body ((L, .frame (fun x => (ps.zip ds).reverse.lookup x)) :: S) XF (FnQ Q))
    (hk : scope.kind = .function := by rfl) (hco : scope.isCoroutine = false := by rfl) (hgen : scope.isGenerator = false := by rfl) :
    OpL (model prog w) W A (fun vs => call (.ref f) vs) RepV ds S X Q :=
  Op.fnX hf hroom ps hb hl hloc hcell (fun _ => XF) h (fun _ _ _ _ _ _ _ x => x.elim) hk hco hgen

/-! displays -/
variable {env : Env} {pos : Pos}
theorem Ev.tup {elts : List Expr} {k : Nat} (h : EvArgs (model prog w) W A env pos elts S X fun ds S₁ => ds.length ≤ sizeLine ∧ Q (.tup ds) S₁) : Ev (model prog w) W A env (.Tuple elts k pos) S X Q := fun s B y =>
  wpAny_Tuple (h.use y (fun vs s₁ B₁ ds S₁ l₁ y₁ r₁ hh4 => (by obtain ⟨hl, q⟩ := hh4; exact ⟨by rw [r₁.length]; exact hl, _, _, S₁, l₁.trans (St.add_le y₁.fresh), y₁.newP rfl s₁.toks, by dsimp only [RepV, Rep]; exact ⟨_, _, 0, rfl, St.add_self, r₁.mono (St.add_le y₁.fresh)⟩, q⟩)) fun _ _ p => p)
theorem Ev.lst {elts : List Expr} (h : EvArgs (model prog w) W A env pos elts S X fun ds S₁ => ds.length ≤ sizeLine ∧ Q (.lst ds) S₁) : Ev (model prog w) W A env (.List elts pos) S X Q := fun s B y =>
  wpAny_List (h.use y (fun vs s₁ B₁ ds S₁ l₁ y₁ r₁ hh5 => (by obtain ⟨hl, q⟩ := hh5; exact ⟨by rw [r₁.length]; exact hl, _, _, S₁, l₁.trans (St.add_le y₁.fresh), y₁.newP rfl s₁.toks, by dsimp only [RepV, Rep]; exact ⟨_, _, 0, rfl, St.add_self, r₁.mono (St.add_le y₁.fresh)⟩, q⟩)) fun _ _ p => p)
/-- a list that will turn -/
theorem Ev.lstM {elts : List Expr} (h : EvArgs (model prog w) W A env pos elts S X fun ds S₁ => ds.length ≤ sizeLine ∧ ∀ a, Q (.raw (.ref a)) (ins1 (a, .list ds) S₁)) : Ev (model prog w) W A env (.List elts pos) S X Q := fun s B y =>
  wpAny_List (h.use y (fun vs s₁ B₁ ds S₁ l₁ y₁ r₁ ⟨hl, q⟩ => ⟨by rw [r₁.length]; exact hl, _, _, _, l₁, (y₁.newC (c := .list ds) s₁.toks ⟨_, 0, Heap.get?_push_size _ rfl, r₁⟩).perm (ins1_perm _ _), rep_raw _, q _⟩) fun _ _ p => p)

/-! builtins -/
theorem Op.len_tup {l : List D} (hl : l.length ≤ sizeLine) (q : Q (.int l.length) S) : OpL (model prog w) W A (fun vs => call (.builtin "len") ([] ++ vs)) RepV [.tup l] S X Q := fun s B vs y r => by
  dsimp only [RepL] at r
  obtain ⟨v, us, rfl, r, rfl⟩ := r
  dsimp only [Rep] at r
  obtain ⟨a, xs, n, rfl, ha, hr⟩ := r
  have e := hr.length
  rw [Array.length_toList] at e
  refine PyProof.Rows.len_tuple (items := xs) ⟨_, y.le _ _ ha, rfl, n, rfl⟩ (by unfold sizeLine at hl; lia) ⟨B, _, S, .refl B, y.tok _, ?_, q⟩
  rw [e]
  exact rep_int _ _
theorem Op.len_lst {l : List D} (hl : l.length ≤ sizeLine) (q : Q (.int l.length) S) : OpL (model prog w) W A (fun vs => call (.builtin "len") ([] ++ vs)) RepV [.lst l] S X Q := fun s B vs y r => by
  dsimp only [RepL] at r
  obtain ⟨v, us, rfl, r, rfl⟩ := r
  dsimp only [Rep] at r
  obtain ⟨a, xs, n, rfl, ha, hr⟩ := r
  have e := hr.length
  rw [Array.length_toList] at e
  refine call_len_list (items := xs) ⟨_, y.le _ _ ha, rfl, n, rfl⟩ (by unfold sizeLine at hl; lia) ⟨B, _, S, .refl B, y.tok _, ?_, q⟩
  rw [e]
  exact rep_int _ _
theorem Op.len_raw {l : List D} {a : Addr} (hm : (a, .list l) ∈ S) (hl : l.length ≤ sizeLine) (q : Q (.int l.length) S) : OpL (model prog w) W A (fun vs => call (.builtin "len") ([] ++ vs)) RepV [.raw (.ref a)] S X Q := fun s B vs y r => by
  dsimp only [RepL] at r
  obtain ⟨v, us, rfl, r, rfl⟩ := r
  obtain rfl := raw_inv r
  obtain ⟨xs, n, ha, hr⟩ := y.cells _ hm
  have e := hr.length
  rw [Array.length_toList] at e
  refine call_len_list (items := xs) ⟨_, ha, rfl, n, rfl⟩ (by unfold sizeLine at hl; lia) ⟨B, _, S, .refl B, y.tok _, ?_, q⟩
  rw [e]
  exact rep_int _ _
theorem Op.range1 {n : Int} (q : Q (.rng 0 n 1) S) : OpL (model prog w) W A (fun vs => call (.type "range") ([] ++ vs)) RepV [.int n] S X Q := fun s B vs y r => by
  dsimp only [RepL] at r
  obtain ⟨v, us, rfl, r, rfl⟩ := r
  obtain ⟨t, rfl⟩ := int_inv r
  refine call_range_1 ⟨_, _, S, St.add_le y.fresh, y.newP rfl _, ?_, q⟩
  dsimp only [RepV, Rep]
  exact ⟨_, _, _, _, rfl, St.add_self⟩
theorem Op.range3 {a b c : Int} (hc : c ≠ 0) (hp : Builtin.divisionGoesByPylong (b - a) c = false) (q : Q (.rng a b c) S) : OpL (model prog w) W A (fun vs => call (.type "range") ([] ++ vs)) RepV [.int a, .int b, .int c] S X Q := fun s B vs y r => by
  dsimp only [RepL] at r
  obtain ⟨v, us, rfl, r, v2, us2, rfl, r2, v3, us3, rfl, r3, rfl⟩ := r
  obtain ⟨t, rfl⟩ := int_inv r
  obtain ⟨t2, rfl⟩ := int_inv r2
  obtain ⟨t3, rfl⟩ := int_inv r3
  refine call_range_3 hc ⟨_, _, S, St.add_le y.fresh, y.newP rfl _, ?_, q⟩ (.inl hp)
  dsimp only [RepV, Rep]
  exact ⟨_, _, _, _, rfl, St.add_self⟩
theorem Op.tuple_lst {l : List D} (hl : l.length ≤ sizeLine) (q : Q (.tup l) S) : OpL (model prog w) W A (fun vs => call (.type "tuple") ([] ++ vs)) RepV [.lst l] S X Q := fun s B vs y r => by
  dsimp only [RepL] at r
  obtain ⟨v, us, rfl, r, rfl⟩ := r
  dsimp only [Rep] at r
  obtain ⟨a, xs, n, rfl, ha, hr⟩ := r
  have e := hr.length
  rw [Array.length_toList] at e
  refine call_tuple_list (items := xs) ⟨_, y.le _ _ ha, rfl, n, rfl⟩ (fun h' hk => ?_) (by lia)
  have y₁ := y.grow (h' := h') (tk := s.toks) hk
  refine ⟨_, _, S, St.add_le y₁.fresh, y₁.newP rfl s.toks, ?_, q⟩
  dsimp only [RepV, Rep]
  exact ⟨_, _, 0, rfl, St.add_self, hr.mono (St.add_le y₁.fresh)⟩
theorem Op.tuple_tup {l : List D} (q : Q (.tup l) S) : OpL (model prog w) W A (fun vs => call (.type "tuple") ([] ++ vs)) RepV [.tup l] S X Q := fun s B vs y r => by
  dsimp only [RepL] at r
  obtain ⟨v, us, rfl, r, rfl⟩ := r
  have r' := r
  dsimp only [Rep] at r
  obtain ⟨a, xs, n, rfl, ha, hr⟩ := r
  exact call_tuple_same (items := xs) ⟨_, y.le _ _ ha, rfl, n, rfl⟩ ⟨B, _, S, .refl B, y, r', q⟩
end
end
section
theorem iteB {p A B : Prop} [Decidable p] (h : p → A) (h' : ¬p → B) : if decide p = true then A else B := by
  by_cases q : p
  · rw [decide_eq_true q, if_pos rfl]; exact h q
  · rw [decide_eq_false q, if_neg Bool.false_ne_true]; exact h' q
theorem iteN {p A B : Prop} [Decidable p] (h : p → B) (h' : ¬p → A) : if (!decide p) = true then A else B := by
  by_cases q : p
  · rw [decide_eq_true q, if_neg (by decide)]; exact h q
  · rw [decide_eq_false q, if_pos (by decide)]; exact h' q
theorem iteT {A B : Prop} (h : A) : if true = true then A else B := by rw [if_pos rfl]; exact h
theorem iteF {A B : Prop} (h : B) : if false = true then A else B := by rw [if_neg Bool.false_ne_true]; exact h
/-! ranges -/
noncomputable def upN (i : Nat) : Nat → List D
  | 0 => []
  | m + 1 => .int i :: upN (i + 1) m
theorem intsD_up : ∀ (m i : Nat), intsD (i : Int) 1 m = upN i m
  | 0, i => rfl
  | m + 1, i => by dsimp only [intsD, upN]; rw [← intsD_up m (i + 1)]; rfl
noncomputable def downN : Nat → List D
  | 0 => []
  | m + 1 => .int m :: downN m
theorem intsD_down : ∀ m : Nat, intsD ((m : Int) - 1) (-1) m = downN m
  | 0 => rfl
  | m + 1 => by
    simp only [intsD, downN, List.cons.injEq]
    refine ⟨congrArg _ (by lia), ?_⟩
    rw [← intsD_down m]
    congr 1
    lia
theorem upN_cons {i m : Nat} {d : D} {rest : List D} (h : d :: rest = upN i m) : ∃ k, m = k + 1 ∧ d = .int i ∧ rest = upN (i + 1) k := by
  cases m with
  | zero => cases h
  | succ k => simp only [upN, List.cons.injEq] at h; exact ⟨k, rfl, h.1, h.2⟩
theorem upN_nil {i m : Nat} (h : [] = upN i m) : m = 0 := by
  cases m with
  | zero => rfl
  | succ k => cases h
theorem downN_cons {m : Nat} {d : D} {rest : List D} (h : d :: rest = downN m) : ∃ k, m = k + 1 ∧ d = .int k ∧ rest = downN k := by
  cases m with
  | zero => cases h
  | succ k => simp only [downN, List.cons.injEq] at h; exact ⟨k, rfl, h.1, h.2⟩
theorem downN_nil {m : Nat} (h : [] = downN m) : m = 0 := by
  cases m with
  | zero => rfl
  | succ k => cases h

section
variable {prog : Program} {w : World} {W : Gd} {A : Around} {env : Env} {S : Sig} {X : Value → PH → Shared → Prop} {Q : D → Sig → Prop}
theorem ItW.up (hh : A.handled = none) {target : Expr} {n : Nat} {Q : List D → Sig → Prop} (hn : n ≤ sizeLine) (q : Q (upN 0 n) S) : ItW (model prog w) W A target (.rng 0 (n : Int) 1) S X Q := by
  have hb : (n : Int) < 2 ^ 62 := by unfold sizeLine at hn; lia
  refine ItW.rng hh (small_one (by decide) (by decide) (by lia) hb) ?_ ?_
  · rw [rangeSize_one]; split <;> lia
  · have e : (Builtin.Range.rangeSize 0 (n : Int) 1).toNat = n := by rw [rangeSize_one]; split <;> lia
    rw [e]
    have := intsD_up n 0
    rw [show (((0 : Nat) : Int)) = 0 from rfl] at this
    rw [this]
    exact q
theorem rangeSize_down (n : Nat) : Builtin.Range.rangeSize ((n : Int) - 1) (-1) (-1) = n := by
  unfold Builtin.Range.rangeSize
  simp
  intro h
  lia
theorem ItW.down (hh : A.handled = none) {target : Expr} {n : Nat} {Q : List D → Sig → Prop} (hn : n ≤ sizeLine) (q : Q (downN n) S) : ItW (model prog w) W A target (.rng ((n : Int) - 1) (-1) (-1)) S X Q := by
  have hb : (n : Int) < 2 ^ 62 := by unfold sizeLine at hn; lia
  refine ItW.rng hh ?_ ?_ ?_
  · unfold Builtin.Range.small
    rw [rangeSize_down]
    unfold sizeLine at hn
    simp [Builtin.Range.rangeFitsLong]
    lia
  · rw [rangeSize_down]; lia
  · rw [rangeSize_down, Int.toNat_natCast, intsD_down]
    exact q

theorem Ev.neg {i : Int} {k : Nat} {p1 p2 : Pos} (q : Q (.int (-i)) S) : Ev (model prog w) W A env (.UnaryOp .USub (.Constant (.int i) k p1) p2) S X Q := fun s B y =>
  wpAny_UnaryOp (wpAny_Constant_int (neg_int ⟨B, _, S, .refl B, (y.tok _), rep_int _ _, q⟩))

/-! a list turned at a place -/
theorem setItem_list {s : Shared} {E : Value → Shared → Prop} {l : Addr} {xs : Array Value} {n : Nat} {k : Int} {t : Tok} {v : Value} {P : Unit → Shared → Prop} (ha : s.heap.get? l = some (lstO xs n)) (h0 : 0 ≤ k) (hf : k < 2 ^ 63) (hn : k < xs.size)
    (h : P () { s with heap := s.heap.update l (Obj.mapSeq (·.setIfInBounds k.toNat v)) }) : wpAny (model prog w) A (setItem (.ref l) (.int k t) v) P E s := by
  have hl : s.heap.IsList l xs := ⟨_, ha, rfl, n, rfl⟩
  unfold setItem
  try with_reducible refine wpAny_holding ?_
  first | refine wpAny_bind (wpAny_pure ?_) | skip
  refine wpAny_bind (wpAny_sequenceKey hl.typeIs (by decide) ?_)
  refine wpAny_bind (wpAny_callSpecial?_slot (name := Str.ofString "__setitem__") hl.typeIs slot_list_setitem
    (wpAny_call_entry slot_list_setitem hl.typeIs entry_list_setitem ?_ (args_list_setitem _ _ _)))
  show wpAny _ _ (Builtin.List.listSubscript? (.int k t) >>= _) _ _ s
  refine wpAny_bind (wpAny_listSubscript_int (fitsIndex_of h0 hf) ?_)
  clear hf
  obtain ⟨j, rfl⟩ := Int.eq_ofNat_of_zero_le h0
  have hx : xs[j]? = some xs[j] := Array.getElem?_eq_getElem (by lia)
  show wpAny _ _ ((seqItemAt l j >>= fun r => pure (r.map (j, ·))) >>= _) _ _ s
  refine wpAny_bind (wpAny_bind (wpAny_seqItemAt ha rfl (wpAny_pure ?_)))
  rw [hx]
  show wpAny _ _ (setSeqItemAt l j v >>= _) _ _ s
  refine wpAny_bind (wpAny_setSeqItemAt ha rfl ?_)
  first
    | exact wpAny_bind (wpAny_pure (wpAny_pure ⟨.none, rfl, wpAny_pure h⟩))
    | exact wpAny_pure ⟨.none, rfl, wpAny_pure h⟩
theorem CellAt.upd {B : PH} {h : Heap} {a : Addr} {l : List D} (f : List D → List D) (g : Array Value → Array Value) (hfg : ∀ xs : Array Value, RepL B l xs.toList → RepL B (f l) (g xs).toList) (x : CellAt B h a (.list l)) :
    CellAt B (h.update a (Obj.mapSeq g)) a (.list (f l)) := by
  obtain ⟨xs, n, ha, hr⟩ := x
  exact ⟨g xs, _, IsL.update ha g, hfg xs hr⟩
theorem Op3.setitem_raw {a : Addr} {l : List D} {i : Int} {d : D} {j : Nat} {Q : Sig → Prop} (hj : S[j]? = some (a, .list l)) (h0 : 0 ≤ i) (hi : i < l.length) (hl : l.length ≤ sizeLine) (q : Q (S.set j (a, .list (l.set i.toNat d)))) :
    Op3 (model prog w) W A setItem (.raw (.ref a)) (.int i) d S X Q := fun s B v u x y r₁ r₂ r₃ => by
  obtain rfl := raw_inv r₁
  obtain ⟨t, rfl⟩ := int_inv r₂
  have c := y.get hj
  obtain ⟨xs, n, ha, hr⟩ := id c
  have e := hr.length
  rw [Array.length_toList] at e
  refine setItem_list ha h0 (by unfold sizeLine at hl; lia) (by lia) ⟨B, (), _, .refl B, y.turn hj (tk := s.toks) (Heap.SameBut.update ..).extBut (CellAt.upd (·.set i.toNat d) _ (fun xs hr => ?_) c), trivial, q⟩
  rw [Array.toList_setIfInBounds]
  exact hr.set r₃ _

theorem flat_replicate (xs : Array Value) : ∀ (k : Nat) (acc : Array Value), (List.foldl (fun x1 x2 => x1 ++ x2) acc (List.replicate k xs)).toList = acc.toList ++ (List.replicate k xs.toList).flatten
  | 0, acc => by simp
  | k + 1, acc => by
    rw [List.replicate_succ, List.foldl_cons, flat_replicate xs k]
    simp [List.replicate_succ]
theorem rep_flat {α : Type} (v : α) : ∀ n : Nat, (List.replicate n [v]).flatten = List.replicate n v
  | 0 => rfl
  | n + 1 => by rw [List.replicate_succ, List.flatten_cons, rep_flat v n, List.replicate_succ]; rfl
/-- [x] * n, a list that will turn -/
theorem Op2.lmul {d : D} {n : Nat} {i : Int} (hi : i = (n : Int)) (hn : n ≤ sizeLine) (q : ∀ a, Q (.raw (.ref a)) (ins1 (a, .list (List.replicate n d)) S)) : Op2 (model prog w) W A (binaryOp .Mult) RepV (.lst [d]) (.int i) S X Q := fun s B v u y r₁ r₂ => by
  obtain ⟨t, rfl⟩ := int_inv r₂
  dsimp only [Rep, RepL] at r₁
  obtain ⟨a, xs, m, rfl, ha, v, us, hxs, hr, rfl⟩ := r₁
  have ha' := y.le _ _ ha
  have hf1 : ¬ (!Builtin.List.listFitsIndex i) = true := by
    unfold sizeLine at hn
    unfold Builtin.List.listFitsIndex
    rw [Bool.not_eq_true', Bool.not_eq_false, Bool.and_eq_true]
    exact ⟨decide_eq_true (by lia), decide_eq_true (by lia)⟩
  have hx1 : xs.size = 1 := by rw [← Array.length_toList, hxs]; rfl
  have hsz : xs.size * i.toNat = n := by rw [hx1, hi, Int.toNat_natCast]; exact Nat.one_mul n
  have hf2 : ¬ xs.size * i.toNat > (2 ^ 63 - 1) / 8 := by
    rw [hsz]; unfold sizeLine at hn; lia
  have hf3 : ¬ Builtin.List.listTooLong (xs.size * i.toNat) = true := by
    rw [hsz]; unfold Builtin.List.listTooLong; rw [decide_eq_true_eq]; lia
  have hne : xs.isEmpty = false := by unfold Array.isEmpty; rw [hx1]; rfl
  refine wpAny_binaryOp_repeat_ref (T := "list") (U := "int") (by decide) ⟨_, ha', rfl⟩ (fun s' => typeIs_int s' _ t) noFill_list_mul F.fills_int_mul F.slot_int_rmul repeat_list F.slot_int_index.lookup
    (call_meets F.slot_int_rmul (typeIs_int s _ t) F.entry_int_rmul (F.args_int_rmul_2 _ _) (int___rmul___int_list i t a xs m)
      ⟨ha', rfl, ⟨_, ha', rfl⟩, call_meets F.slot_list_mul ⟨_, ha', rfl⟩ F.entry_list_mul (F.args_list_mul_2 _ _)
        (AutoListH.list___mul___list_int_3 a xs m i t hf1 hf2 hf3)
        ⟨ha', ⟨B, _, _, .refl B, (y.newC (c := .list (List.replicate n d)) s.toks ⟨_, 0, Heap.get?_push_size _ rfl, ?_⟩).perm (ins1_perm _ _), rep_raw _, q _⟩⟩⟩)
  rw [flat_replicate, hne, hxs]
  simp only [Bool.false_eq_true, if_false, hi, Int.toNat_natCast]
  show RepL B _ (List.replicate n [v]).flatten
  rw [rep_flat]
  exact RepL.replicate hr n

/-! a list that turns no more -/
theorem Post.frz {B : PH} {a : Addr} {l : List D} {v : Value} {S' : Sig} {s' : Shared} (y : St W s' B S') (r : Rep B (.raw (.ref a)) v) {S₂ : Sig} (hp : S'.Perm ((a, .list l) :: S₂)) (q : Q (.lst l) S₂) : Post W B RepV Q v s' := by
  obtain rfl := raw_inv r
  have y' := y.perm hp
  obtain ⟨xs, n, ha, hr⟩ := y'.cells _ (.head _)
  have hn : B a = none := y'.apart (a, .list l) (.head _)
  refine ⟨_, .lst l, S₂, St.add_le hn, y'.freeze0 ha, ?_, q⟩
  dsimp only [RepV, Rep]
  exact ⟨a, xs, n, rfl, St.add_self, hr.mono (St.add_le hn)⟩
theorem Ev.frz {e : Expr} (h : Ev (model prog w) W A env e S X fun d S₁ => ∃ a l S₂, d = .raw (.ref a) ∧ S₁.Perm ((a, .list l) :: S₂) ∧ Q (.lst l) S₂) : Ev (model prog w) W A env e S X Q := fun s B y =>
  h.use y (fun v s₁ B₁ d S₁ l₁ y₁ r₁ hh1 => by obtain ⟨a, l, S₂, hd, hp, q⟩ := hh1; subst hd; exact (Post.frz y₁ r₁ hp q).up l₁) fun _ _ p => p
end
end
section
/-! a function with cells -/
noncomputable def bindLD (k : Str → Option NameKind) : List (Str × D) → (Str → Option D) → Str → Option D
  | [], m => m
  | (n, v) :: r, m => bindLD k r (if k n = some .local then upd m n v else m)
noncomputable def bindCD (k : Str → Option NameKind) : List (Str × D) → (Str → Option D) → Str → Option D
  | [], m => m
  | (n, v) :: r, m => bindCD k r (if k n = some .local then m else upd m n v)
theorem bindL_is {B : PH} {k : Str → Option NameKind} : ∀ {ps : List Str} {ds : List D} {vs : List Value} {m : Str → Option D} {m' : Str → Option Value}, RepL B ds vs → FrameIs B m m' → FrameIs B (bindLD k (ps.zip ds) m) (bindL k (ps.zip vs) m')
  | [], _, _, _, _, _, h => by simpa [bindLD, bindL] using h
  | _ :: _, [], vs, _, _, r, h => by
    dsimp only [RepL] at r
    subst r
    simpa [bindLD, bindL] using h
  | n :: ps, d :: ds, vs, m, m', r, h => by
    dsimp only [RepL] at r
    obtain ⟨v, us, rfl, r1, r2⟩ := r
    dsimp only [List.zip_cons_cons, bindLD, bindL]
    refine bindL_is r2 ?_
    split
    · exact h.upd r1 n
    · exact h
theorem bindC_is {B : PH} {k : Str → Option NameKind} : ∀ {ps : List Str} {ds : List D} {vs : List Value} {m : Str → Option D} {m' : Str → Option Value}, RepL B ds vs → FrameIs B m m' → FrameIs B (bindCD k (ps.zip ds) m) (bindC k (ps.zip vs) m')
  | [], _, _, _, _, _, h => by simpa [bindCD, bindC] using h
  | _ :: _, [], vs, _, _, r, h => by
    dsimp only [RepL] at r
    subst r
    simpa [bindCD, bindC] using h
  | n :: ps, d :: ds, vs, m, m', r, h => by
    dsimp only [RepL] at r
    obtain ⟨v, us, rfl, r1, r2⟩ := r
    dsimp only [List.zip_cons_cons, bindCD, bindC]
    refine bindC_is r2 ?_
    split
    · exact h
    · exact h.upd r1 n
theorem FrameIs.none {B : PH} {m : Str → Option Value} : FrameIs B (fun _ => .none) m := fun _ _ e => by cases e
noncomputable def cellSig (cs : List (Str × Addr)) (cm : Str → Option D) : Sig := cs.map fun p => (p.2, .cell (cm p.1))
theorem cells_names : ∀ (names : List (Str × NameKind)) (n : Nat) (acc : List (Str × Addr)), (names.map (·.1) ++ acc.map (·.1)).Nodup → ((cellsFrom n names acc).map (·.1)).Nodup
  | [], n, acc, h => by simpa [cellsFrom] using h
  | (x, k) :: r, n, acc, h => by
    dsimp only [cellsFrom]
    split
    · refine cells_names r _ _ ?_
      rw [List.map_cons]
      rw [List.map_cons, List.cons_append] at h
      have : ((r.map (·.1)) ++ x :: acc.map (·.1)).Perm (x :: ((r.map (·.1)) ++ acc.map (·.1))) := List.perm_middle
      exact this.nodup_iff.mpr h
    · refine cells_names r _ _ ?_
      rw [List.map_cons, List.cons_append, List.nodup_cons] at h
      exact h.2
theorem lookup_nodup {β : Type} : ∀ {l : List (Str × β)} {x : Str} {c : β}, (l.map (·.1)).Nodup → (x, c) ∈ l → l.lookup x = some c
  | (y, d) :: r, x, c, h, hm => by
    rw [List.map_cons, List.nodup_cons] at h
    rw [List.lookup_cons]
    rcases List.mem_cons.mp hm with e | hm
    · cases e; simp
    · have : x ≠ y := fun q => h.1 (List.mem_map.mpr ⟨(x, c), hm, q⟩)
      rw [beq_eq_false_iff_ne.mpr this]
      exact lookup_nodup h.2 hm

section
variable {prog : Program} {w : World} {W : Gd} {A : Around} {S : Sig} {X : Value → PH → Shared → Prop} {Q : D → Sig → Prop}
noncomputable abbrev kindS (scope : Scope) : Str → Option NameKind := fun x => scope.names.lookup x
theorem Op.fnCX {f : Addr} {params : Arguments} {body : List Stmt} {scope : Scope} {ds : List D} (hf : FnAt W f params body scope) (hroom : A.depth < recursionLimit) (ps : List Str)
    (hb : ∀ name qual doc pm an cdv ct vs, vs.length = ps.length → bindArgs (fnOf name qual params body scope .none .none doc pm an cdv ct) ⟨vs, []⟩ = pure (ps.zip vs))
    (hl : ds.length = ps.length) (hnd : (scope.names.map (·.1)).Nodup) (hkind : ∀ x ∈ ps, scope.names.lookup x = some .local ∨ (scope.names.lookup x = some .cell ∧ ∀ n, ((cellsFrom n scope.names []).lookup x).isSome = true)) (XB : Addr → Value → PH → Shared → Prop)
    (h : ∀ L qual cd, Exs (model prog w) W (A.deeper (envOfC qual scope L f cd)) (envOfC qual scope L f cd) body
      ((L, .frame (bindLD (kindS scope) (ps.zip ds) fun _ => none)) :: (cellSig (cellsFrom (L + 1) scope.names []) (bindCD (kindS scope) (ps.zip ds) fun _ => none) ++ S)) (XB L)
      (FnQ Q))
    (hX : ∀ L qual cd B e s', S.all (fun p => p.1 != L) → XB L e B s' → wpAny (model prog w) (A.deeper (envOfC qual scope L f cd)) (leaving (envOfC qual scope L f cd) e) (fun _ s'' => ExcP B X e s'') (fun e' s'' => ExcP B X e' s'') s')
    (hk : scope.kind = .function := by rfl) (hco : scope.isCoroutine = false := by rfl) (hgen : scope.isGenerator = false := by rfl) :
    OpL (model prog w) W A (fun vs => call (.ref f) vs) RepV ds S X Q := fun s B vs y r => by
  obtain ⟨oc, od, osl, name, qual, doc, pm, an, cdv, ct, ho, hcd⟩ := hf.ex
  have hlen : vs.length = ps.length := r.length.trans hl
  refine wpAny_call (codeAny_call_cells (fd := fnOf name qual params body scope .none .none doc pm an cdv ct) (body := body) (binds := ps.zip vs) hroom (y.ground _ _ ho) rfl (W.hlim.keeps y.ground) (hcd.keeps y.ground) rfl
    (hb _ _ _ _ _ _ _ _ hlen) rfl (fun x hx => (hkind x.1 (List.of_mem_zip hx).1).imp id fun z => ⟨z.1, z.2 _⟩) (fun s₁ x => ?_) hco hgen hk)
  have he : callEnvC (fnOf name qual params body scope .none .none doc pm an cdv ct) s.heap.objs.size f = envOfC qual scope s.heap.objs.size f cdv := rfl
  rw [he] at x ⊢
  obtain ⟨h₁, tk₁, rfl⟩ := x.toInCall.same
  have y₁ := y.grow (h' := h₁) (tk := tk₁) x.toInCall.keep
  have hcs : ((cellsFrom (s.heap.objs.size + 1) scope.names []).map (·.1)).Nodup := cells_names scope.names _ [] (by simpa using hnd)
  have y₂ : St W { s with heap := h₁, toks := tk₁ } B ((s.heap.objs.size, .frame (bindLD (kindS scope) (ps.zip ds) fun _ => none)) ::
      (cellSig (cellsFrom (s.heap.objs.size + 1) scope.names []) (bindCD (kindS scope) (ps.zip ds) fun _ => none) ++ S)) := by
    have bn : ∀ a, s.heap.objs.size ≤ a → B a = none := fun a ha => by
      cases q : B a with
      | none => rfl
      | some o => exact absurd (Heap.lt_size (y.le _ _ q)) (Nat.not_lt.mpr ha)
    have mem : ∀ p ∈ cellSig (cellsFrom (s.heap.objs.size + 1) scope.names []) (bindCD (kindS scope) (ps.zip ds) fun _ => none), s.heap.objs.size < p.1 ∧ CellAt B h₁ p.1 p.2 := fun p hp => by
      obtain ⟨⟨n, c⟩, hm, rfl⟩ := List.mem_map.mp hp
      refine ⟨x.above n c hm, ?_⟩
      refine ⟨_, x.cell n c (lookup_nodup hcs hm), fun e he => ?_⟩
      obtain ⟨v, h1, h2⟩ := bindC_is (k := kindS scope) r (FrameIs.none (m := fun _ => none)) n e he
      exact ⟨v, h1, h2⟩
    refine ⟨y₁.gens, y₁.drawn, y₁.os, y₁.base, y₁.le, fun p hp => ?_, fun p hp => ?_, ?_⟩
    · rcases List.mem_cons.mp hp with rfl | hp
      · exact ⟨_, x.toInCall.ns, bindL_is r FrameIs.none⟩
      · rcases List.mem_append.mp hp with hp | hp
        · exact (mem p hp).2
        · exact y₁.cells p hp
    · rcases List.mem_cons.mp hp with rfl | hp
      · exact bn _ (Nat.le_refl _)
      · rcases List.mem_append.mp hp with hp | hp
        · exact bn _ (Nat.le_of_lt (mem p hp).1)
        · exact y.apart p hp
    · rw [List.map_cons, List.nodup_cons, List.map_append, List.nodup_append]
      refine ⟨fun hm => ?_, ?_, y.nodup, ?_⟩
      · rcases List.mem_append.mp hm with hm | hm
        · obtain ⟨p, hp, e⟩ := List.mem_map.mp hm
          exact absurd (mem p hp).1 (by rw [e]; exact Nat.lt_irrefl _)
        · obtain ⟨p, hp, e⟩ := List.mem_map.mp hm
          exact absurd (y.ne p hp) (by rw [e]; exact Nat.lt_irrefl _)
      · unfold cellSig
        rw [List.map_map]
        rw [List.nodup_iff_pairwise_ne, List.pairwise_map]
        exact x.apart
      · rintro a ha b hb rfl
        obtain ⟨p, hp, rfl⟩ := List.mem_map.mp ha
        obtain ⟨q, hq, e⟩ := List.mem_map.mp hb
        have h1 := (mem p hp).1
        have h2 := y.ne q hq
        rw [e] at h2
        exact absurd (Nat.lt_trans h1 h2) (Nat.lt_irrefl _)
  refine (h s.heap.objs.size qual cdv).use y₂ (fun fl s' B' fl' S' l' y' r' ⟨S'', hsub, q⟩ => ?_) fun e s' ⟨B', l', x'⟩ => ?_
  · cases fl <;> cases fl' <;> dsimp only [RepF] at r' <;> dsimp only at q <;> first
      | exact False.elim q
      | exact ⟨B', .none, S'', l', y'.sub hsub, rep_none, q⟩
      | exact ⟨B', _, S'', l', y'.sub hsub, r', q⟩
  · refine wpAny_mono (hX s.heap.objs.size qual cdv B' e s' ?_ x') (fun _ s'' p => p.up l') fun e' s'' p => p.up l'
    rw [List.all_eq_true]
    intro p hp
    exact bne_iff_ne.mpr (Nat.ne_of_lt (y.ne p hp))
theorem Op.fnC {f : Addr} {params : Arguments} {body : List Stmt} {scope : Scope} {ds : List D} (hf : FnAt W f params body scope) (hroom : A.depth < recursionLimit) (ps : List Str)
    (hb : ∀ name qual doc pm an cdv ct vs, vs.length = ps.length → bindArgs (fnOf name qual params body scope .none .none doc pm an cdv ct) ⟨vs, []⟩ = pure (ps.zip vs))
    (hl : ds.length = ps.length) (hnd : (scope.names.map (·.1)).Nodup) (hkind : ∀ x ∈ ps, scope.names.lookup x = some .local ∨ (scope.names.lookup x = some .cell ∧ ∀ n, ((cellsFrom n scope.names []).lookup x).isSome = true))
    (h : ∀ L qual cd, Exs (model prog w) W (A.deeper (envOfC qual scope L f cd)) (envOfC qual scope L f cd) body
      ((L, .frame (bindLD (kindS scope) (ps.zip ds) fun _ => none)) :: (cellSig (cellsFrom (L + 1) scope.names []) (bindCD (kindS scope) (ps.zip ds) fun _ => none) ++ S)) XF
      (FnQ Q))
    (hk : scope.kind = .function := by rfl) (hco : scope.isCoroutine = false := by rfl) (hgen : scope.isGenerator = false := by rfl) :
    OpL (model prog w) W A (fun vs => call (.ref f) vs) RepV ds S X Q :=
  Op.fnCX hf hroom ps hb hl hnd hkind (fun _ => XF) h (fun _ _ _ _ _ _ _ x => x.elim) hk hco hgen

/-! a tuple taken apart -/
variable {env : Env}
theorem Sto.tup2 (hh : A.handled = none) {x1 x2 : Str} {p1 p2 : Pos} {k : Nat} {pos : Pos} {d1 d2 : D} {Q : Unit → Sig → Prop}
    (h : Sto (model prog w) W A env (.Name x1 p1) d1 S X fun _ S₁ => Sto (model prog w) W A env (.Name x2 p2) d2 S₁ X Q) : Sto (model prog w) W A env (.Tuple [.Name x1 p1, .Name x2 p2] k pos) (.tup [d1, d2]) S X Q := fun s B v y r => by
  dsimp only [Rep] at r
  obtain ⟨a, xs, n, rfl, ha, hr⟩ := r
  dsimp only [RepL] at hr
  obtain ⟨v1, us, hx, r1, v2, us2, rfl, r2, rfl⟩ := hr
  have hsz : xs.size = 2 := by rw [← Array.length_toList, hx]; rfl
  refine wpAny_assign_Tuple hh ⟨_, y.le _ _ ha, rfl, n, rfl⟩ (by rw [hsz]; rfl) rfl fun h' hx' => ?_
  rw [hx]
  show wpAny _ A (do holding [v2] (assign (.Name x1 p1) env v1); do holding [] (assign (.Name x2 p2) env v2); pure ()) _ _ _
  have y' := y.grow (h' := h') (tk := s.toks) fun b o e => hx' b o (Nat.ne_of_lt (Heap.lt_size e)) e
  refine wpAny_bind (wpAny_holding (wpAny_mono (h _ B v1 y' r1) (fun _ s₁ hh3 => ?_) fun _ _ p => p))
  obtain ⟨B₁, _, S₁, l₁, y₁, _, h₁⟩ := hh3
  exact wpAny_bind (wpAny_holding (wpAny_mono (h₁ s₁ B₁ v2 y₁ (r2.mono l₁)) (fun _ s₂ p => wpAny_pure (p.up l₁)) fun _ _ p => p.up l₁))

/-! a list that is comprehended -/
theorem compLoop_own {elt target iter : Expr} {ifs : List Expr} {scope : Scope} {pos : Pos} {it acc : Value} {R : Result → Shared → Prop} {s : Shared} (I : Nat → Shared → Prop)
    (turn : ∀ n s, I n s → wpAny (model prog w) A (pyNext it) (fun r s₁ => match r with
      | none => R (.ok .next) s₁
      | some v => wpAny (model prog w) A (letOwnedTupleGo target it v) (fun _ s₂ => wpAny (model prog w) A (assign target env v) (fun _ s₃ =>
          wpAny (model prog w) A (forIn ifs true fun c r => if r = true then do let ok ← isTrue c env (eval c env); pure (ForInStep.yield ok) else pure (ForInStep.yield r)) (fun ok s₄ =>
            if ok = true then wpAny (model prog w) A (eval elt env) (fun x s₅ =>
              wpAny (model prog w) A (call (.builtin "list.append") [acc, x]) (fun _ s₆ => ∃ m, m < n ∧ I m s₆) (fun _ _ => False) s₅) (fun _ _ => False) s₄
            else ∃ m, m < n ∧ I m s₄) (fun _ _ => False) s₃) (fun _ _ => False) s₂) (fun _ _ => False) s₁) (fun _ _ => False) s)
    (n : Nat) (h : I n s) : codeAny (model prog w) A (.compLoop (.ListComp elt [⟨target, iter, ifs, 0⟩] scope pos) 0 it acc env) R s := by
  refine codeAny_loop rfl I (fun n s hI => ?_) n h
  show wpAny _ A ((compTurn (.ListComp elt [⟨target, iter, ifs, 0⟩] scope pos) 0 it acc env).onRaise (fun x => do noteFrame x env; theTreesLotGoes x)) _ _ s
  refine wpAny_noted ?_
  rw [compTurn_list]
  refine wpAny_bind (wpAny_standAt (wpAny_bind (wpAny_mono (turn n s hI) (fun r s₁ h₁ => ?_) fun _ _ h' => h'.elim)))
  cases r with
  | none => exact wpAny_pure h₁
  | some v =>
    refine wpAny_bind (wpAny_mono h₁ (fun _ s₁ h₁ => wpAny_bind (wpAny_mono h₁ (fun _ s₂ h₂ => wpAny_bind (wpAny_mono h₂ (fun ok s₃ h₃ => ?_) fun _ _ h' => h'.elim)) fun _ _ h' => h'.elim)) fun _ _ h' => h'.elim)
    cases ok with
    | false => exact wpAny_pure ⟨rfl, h₃⟩
    | true =>
      exact wpAny_bind (wpAny_bind (wpAny_mono h₃ (fun x s₄ h₄ => wpAny_bind (wpAny_mono h₄ (fun _ s₅ h₅ => wpAny_pure (wpAny_pure ⟨rfl, h₅⟩)) fun _ _ h' => h'.elim)) fun _ _ h' => h'.elim))

/-- the tests of a comprehension -/
noncomputable abbrev Tests (M : Model) (W : Gd) (A : Around) (env : Env) (ifs : List Expr) (S : Sig) (Q : Bool → Sig → Prop) : Prop :=
  TX M W A (forIn ifs true fun c r => if r = true then do let ok ← isTrue c env (eval c env); pure (ForInStep.yield ok) else pure (ForInStep.yield r)) RepB S XF Q
theorem Tests.nil {Q : Bool → Sig → Prop} (q : Q true S) : Tests (model prog w) W A env [] S Q := fun s B y => wpAny_tests_nil ⟨B, true, S, .refl B, y, rfl, q⟩
theorem Tests.one {c : Expr} {Q : Bool → Sig → Prop} (h : Te (model prog w) W A env c S XF Q) : Tests (model prog w) W A env [c] S Q := fun s B y => wpAny_tests_one (h s B y)

end
end
section
section
variable {prog : Program} {w : World} {W : Gd} {A : Around} {env : Env} {S : Sig} {X : Value → PH → Shared → Prop} {Q : D → Sig → Prop}

theorem St.addFrame {s : Shared} {B : PH} (y : St W s B S) {h₁ : Heap} {tk : Nat} {ρ : Str → Option D} {m : Str → Option Value} (hns : h₁.Ns s.heap.objs.size m) (hf : FrameIs B ρ m) (hk : ∀ b o, s.heap.get? b = some o → h₁.get? b = some o) :
    St W { s with heap := h₁, toks := tk } B ((s.heap.objs.size, .frame ρ) :: S) := by
  have y₁ := y.grow (h' := h₁) (tk := tk) hk
  refine ⟨y₁.gens, y₁.drawn, y₁.os, y₁.base, y₁.le, fun p hp => ?_, fun p hp => ?_, ?_⟩
  · rcases List.mem_cons.mp hp with rfl | hp
    · exact ⟨_, hns, hf⟩
    · exact y₁.cells p hp
  · rcases List.mem_cons.mp hp with rfl | hp
    · exact y.fresh
    · exact y₁.apart p hp
  · rw [List.map_cons, List.nodup_cons]
    refine ⟨fun hm => ?_, y.nodup⟩
    obtain ⟨p, hp, e⟩ := List.mem_map.mp hm
    exact absurd (y.ne p hp) (by rw [e]; exact Nat.lt_irrefl _)

theorem append_raw {s : Shared} {E : Value → Shared → Prop} {l : Addr} {items : Array Value} {n : Nat} {x : Value} {P : Value → Shared → Prop} (hl : s.heap.get? l = some (lstO items n)) (hsz : items.size ≤ sizeLine)
    (h : P .none { s with heap := s.heap.update l (Obj.mapSeq fun xs => xs.push x) }) : wpAny (model prog w) A (call (.builtin "list.append") [.ref l, x]) P E s :=
  call_meets F.slot_list_append ⟨_, hl, rfl⟩ F.entry_list_append (F.args_list_append_2 _ _) (list_append l items n x hsz) ⟨hl, h⟩

/-- a comprehension's turn done -/
noncomputable abbrev CompQ (C : Addr) (F₀ : Sig) (J : Sig → Prop) : Sig → Prop := fun S₃ => ∃ ρ' S₄, S₃ = (C, .frame ρ') :: (S₄ ++ F₀) ∧ J S₄
theorem Ev.comp {elt target iter : Expr} {ifs : List Expr} {scope : Scope} {pos : Pos} {cl : List (Str × Addr)} (I : List D → List D → Sig → Prop)
    (h : Ev (model prog w) W A env iter S X fun d S₁ => ItW (model prog w) W A target d S₁ X fun items S₂ => items.length ≤ sizeLine ∧ I items [] S₂)
    (turn : ∀ C d rest acc S' ρ F₀, I (d :: rest) acc S' → Sto (model prog w) W A (compEnvC scope cl C env) target d ((C, .frame ρ) :: (S' ++ F₀)) XF fun _ S₁ =>
      Tests (model prog w) W A (compEnvC scope cl C env) ifs S₁ fun b S₂ =>
        if b then Ev (model prog w) W A (compEnvC scope cl C env) elt S₂ XF fun y => CompQ C F₀ (I rest (acc ++ [y]))
        else CompQ C F₀ (I rest acc) S₂)
    (fin : ∀ acc S', I [] acc S' → Q (.lst acc) S')
    (hclos : closureFor scope env = pure cl := by rfl) (hcell : ∀ x ∈ scope.names, x.2 ≠ .cell := by decide) (hnames : ∀ x ∈ scope.names, x.2 = .local → scope.names.lookup x.1 = some .local := by decide)
    (hkind : scope.kind = .function := by rfl) (hs : ∀ x, foldedSetIterable iter env x = pure x := by intro _; rfl) :
    Ev (model prog w) W A env (.ListComp elt [⟨target, iter, ifs, 0⟩] scope pos) S X Q := fun s B y => by
  rw [eval_ListComp]
  refine wpAny_comprehension_free (use := none) rfl hs hclos hkind hnames (h.use y (fun v s₁ B₁ d S₁ l₁ y₁ r₁ h₁ => wpAny_mono (h₁ s₁ B₁ v y₁ r₁) (fun it s₂ hh1 => ?_) fun _ _ p => p.up l₁) fun _ _ p => p)
  obtain ⟨B₂, F, items, S₂, l₂, hit, y₂, hlen, hI⟩ := hh1
  refine wpAny_newObj_type ?_ (by show (0 : Nat) ≤ sizeLine; exact Nat.zero_le _)
  have y₃ := y₂.newC (c := .list []) (o := { cls := .type "list", dict := none, data := .seq ([] : List Value).toArray }) s₂.toks ⟨_, 0, Heap.get?_push_size _ rfl, by simpa using RepL.nil⟩
  refine wpAny_newFunctionEnv hcell (by intro z hz; simp at hz) (fun h₁ hns hsb => ?_) hkind
  have y₄ := y₃.addFrame (tk := s₂.toks + ([] : List (Str × Value)).length) (ρ := fun _ => none) hns FrameIs.none fun b o e => hsb.extBut b o (Nat.ne_of_lt (Heap.lt_size e)) (Heap.get?_push_of_some _ e)
  clear hns hsb y₃
  revert y₄
  dsimp only
  generalize hC : (s₂.heap.push { cls := .type "list", dict := none, data := .seq ([] : List Value).toArray }).objs.size = C
  generalize hD : s₂.heap.objs.size = Dl
  intro y₄
  have y₅ : St W { s₂ with heap := h₁, toks := s₂.toks + ([] : List (Str × Value)).length } B₂ (((C, .frame fun _ => none) :: S₂ ++ [(Dl, .list [])]) ++ F items) := y₄.perm (by
    rw [List.append_assoc]
    exact List.Perm.cons _ List.perm_middle.symm)
  have loop : codeAny (model prog w) A (.compLoop (.ListComp elt [⟨target, iter, ifs, 0⟩] scope pos) 0 it (.ref Dl) (compEnvC scope cl C env))
      (compPost (model prog w) A (ExcP B X) none (Post W B RepV Q) (.ref Dl) C) { s₂ with heap := h₁, toks := s₂.toks + ([] : List (Str × Value)).length } := by
    refine compLoop_own (fun n s' => ∃ rest acc S' B' ρ, n = rest.length ∧ acc.length + rest.length ≤ sizeLine ∧ I rest acc S' ∧ PH.le B B' ∧ St W s' B' (((C, .frame ρ) :: S' ++ [(Dl, .list acc)]) ++ F rest)) ?_ items.length
      ⟨items, [], S₂, B₂, fun _ => none, rfl, by simpa using hlen, hI, l₁.trans l₂, y₅⟩
    · rintro n s' ⟨rest, acc, S', B', ρ, rfl, hsz, hI, l, y⟩
      cases rest with
      | nil =>
        refine wpAny_mono (hit.done y) (fun r s₁ hh2 => ?_) fun _ _ p => p.elim
        obtain ⟨hr, B₁', l', y'⟩ := hh2
        subst hr
        show compPost _ _ _ _ _ _ _ _ _
        obtain ⟨m, hns, hf⟩ := y'.cells (C, .frame ρ) (by simp)
        refine ⟨m, hns, fun h' hs' => ?_⟩
        have y'' : St W s₁ B₁' ((C, .frame ρ) :: (Dl, .list acc) :: S') := y'.perm (by
          rw [List.cons_append]
          exact (List.perm_append_singleton (Dl, Cell.list acc) S').cons _)
        have y3 := y''.gone (tk := s₁.toks) hs'.extBut
        exact (Post.frz y3 (rep_raw _) (List.Perm.refl _) (fin acc S' hI)).up (l.trans l')
      | cons d rest =>
        refine wpAny_mono (hit.item y) (fun r s₁ hh3 => ?_) fun _ _ p => p.elim
        obtain ⟨v, hr, hg⟩ := hh3
        subst hr
        refine wpAny_mono hg (fun _ s₁ hh4 => ?_) fun _ _ p => p.elim
        obtain ⟨B₁', l', y', r'⟩ := hh4
        have e1 : ∀ (ρ : Str → Option D) (S' : Sig) (acc : List D), (((C, Cell.frame ρ) :: S' ++ [(Dl, Cell.list acc)]) ++ F rest) = (C, .frame ρ) :: (S' ++ ((Dl, .list acc) :: F rest)) := fun ρ S' acc => by simp
        rw [e1] at y'
        refine wpAny_mono (turn C d rest acc S' ρ _ hI s₁ B₁' v y' r') (fun _ s₂ hh5 => ?_) fun _ _ p => p.false.elim
        obtain ⟨B₂', _, S₂, l₂', y₂, _, ht⟩ := hh5
        refine ht.use y₂ (fun ok s₃ B₃ ok' S₃ l₃ y₃ r₃ hb => ?_) fun _ _ p => p.false.elim
        cases r₃
        cases ok with
        | false =>
          obtain ⟨ρ', S₄, rfl, hI'⟩ := hb
          rw [← e1] at y₃
          exact ⟨rest.length, Nat.lt_succ_self _, rest, acc, S₄, B₃, ρ', rfl, by dsimp only [List.length_cons] at hsz; lia, hI', (((l.trans l').trans l₂').trans l₃), y₃⟩
        | true =>
          refine TX.use (t := eval elt (compEnvC scope cl C env)) hb y₃ (fun x s₄ B₄ x' S₄ l₄ y₄ r₄ hh6 => ?_) fun _ _ p => p.false.elim
          obtain ⟨ρ', S₅, hS, hI'⟩ := hh6
          subst hS
          have y₅ : St W s₄ B₄ ((Dl, .list acc) :: (C, .frame ρ') :: (S₅ ++ F rest)) := y₄.perm (by
            refine (List.Perm.cons _ List.perm_middle).trans (List.Perm.swap ..))
          have c := y₅.cells _ (.head _)
          obtain ⟨xs, k, hl, hr⟩ := id c
          have hxs : xs.size ≤ sizeLine := by
            have := hr.length
            rw [Array.length_toList] at this
            dsimp only [List.length_cons] at hsz
            lia
          refine append_raw hl hxs ⟨rest.length, Nat.lt_succ_self _, rest, acc ++ [x'], S₅, B₄, ρ', rfl, by simp only [List.length_cons, List.length_append, List.length_nil] at hsz ⊢; lia, hI', (((l.trans l').trans l₂').trans l₃).trans l₄, ?_⟩
          have y₆ := y₅.turn0 (tk := s₄.toks) (c' := .list (acc ++ [x'])) (Heap.SameBut.update ..).extBut (CellAt.upd (l := acc) (· ++ [x']) (fun xs => xs.push x) (fun xs hr => by
            rw [Array.toList_push]; exact hr.append (RepL.one r₄)) c)
          refine y₆.perm ?_
          rw [e1]
          exact ((List.Perm.swap ..).trans (List.Perm.cons _ List.perm_middle.symm))
  exact codeAny_compStart_list loop (wpAny_mono (hit.self y₅) (fun r s' hh7 => by obtain ⟨hr, hs'⟩ := hh7; subst hr hs'; exact loop) fun _ _ p => p.elim)
end
end
section
open AutoSeq1 (wpAny_loadPart')

/-! enumerate of a tuple -/
section
variable {prog : Program} {w : World} {A : Around} {E : Value → Shared → Prop} {s : Shared}
theorem nextOf_tuple_item {it t : Addr} {i : Nat} {items : Array Value} {x : Value} {P : Value → Shared → Prop} (hit : s.heap.IsTupleIter it t i) (ht : s.heap.IsTuple t items) (hx : items[i]? = some x)
    (hQ : ∀ h', h'.IsTupleIter it t (i + 1) → Heap.SameBut it s.heap h' → P x { s with heap := h' }) : wpAny (model prog w) A (Builtin.SmallTypes.nextOf (.ref it)) P E s := by
  obtain ⟨o, ho, hc, hd⟩ := id hit
  obtain ⟨ol, hol, _, nl, hdl⟩ := ht
  unfold Builtin.SmallTypes.nextOf
  refine wpAny_bind (wpAny_callSpecial?_slot (name := Str.ofString "__next__") hit.typeIs F.slot_tuple_iterator_next
    (wpAny_call_entry F.slot_tuple_iterator_next hit.typeIs F.entry_tuple_iterator_next ?_ (F.args_tuple_iterator_next_1 _)))
  show wpAny _ _ (field (.ref it) 0 >>= _) _ _ s
  refine wpAny_bind (wpAny_field ho hd (x := .ref t) rfl ?_)
  show wpAny _ _ (if (Value.ref t == Value.none) = true then _ else _) _ _ s
  rw [if_neg (show ¬ ((Value.ref t == Value.none) = true) from Bool.false_ne_true)]
  show wpAny _ _ (field (.ref it) 1 >>= _) _ _ s
  refine wpAny_bind (wpAny_field ho hd (x := .int i 0) rfl ?_)
  show wpAny _ _ (seqItems? (.ref t) >>= _) _ _ s
  refine wpAny_bind (wpAny_seqItems hol hdl ?_)
  simp only [Int.toNat_natCast, hx]
  refine wpAny_bind (wpAny_setField ho hd (by simp) (wpAny_pure ⟨x, rfl, wpAny_pure (hQ _ ?_ (Heap.SameBut.update ..))⟩))
  exact ⟨_, Heap.get?_update_self _ ho (Obj.isFreed_of_fields (Obj.data_mapFields hd _)), (Obj.cls_mapFields ..).trans hc, by
    rw [Obj.data_mapFields hd]; simp [rawInt]⟩
theorem nextOf_tuple_end {it t : Addr} {i : Nat} {items : Array Value} {P : Value → Shared → Prop} (hh : A.handled = none) (hit : s.heap.IsTupleIter it t i) (ht : s.heap.IsTuple t items) (hx : items[i]? = none)
    (hE : ∀ h' e, Heap.ExtBut it s.heap h' → (∃ o, h'.get? e = some o ∧ o.cls = .type "StopIteration") → E (.ref e) { s with heap := h' }) : wpAny (model prog w) A (Builtin.SmallTypes.nextOf (.ref it)) P E s := by
  obtain ⟨o, ho, hc, hd⟩ := id hit
  obtain ⟨ol, hol, _, nl, hdl⟩ := ht
  unfold Builtin.SmallTypes.nextOf
  refine wpAny_bind (wpAny_callSpecial?_slot (name := Str.ofString "__next__") hit.typeIs F.slot_tuple_iterator_next
    (wpAny_call_entry F.slot_tuple_iterator_next hit.typeIs F.entry_tuple_iterator_next ?_ (F.args_tuple_iterator_next_1 _)))
  show wpAny _ _ (field (.ref it) 0 >>= _) _ _ s
  refine wpAny_bind (wpAny_field ho hd (x := .ref t) rfl ?_)
  show wpAny _ _ (if (Value.ref t == Value.none) = true then _ else _) _ _ s
  rw [if_neg (show ¬ ((Value.ref t == Value.none) = true) from Bool.false_ne_true)]
  show wpAny _ _ (field (.ref it) 1 >>= _) _ _ s
  refine wpAny_bind (wpAny_field ho hd (x := .int i 0) rfl ?_)
  show wpAny _ _ (seqItems? (.ref t) >>= _) _ _ s
  refine wpAny_bind (wpAny_seqItems hol hdl ?_)
  simp only [Int.toNat_natCast, hx]
  refine wpAny_bind (wpAny_rule (wpAny_bind (wpAny_setField ho hd (by simp) ?_)))
  show wpAny _ _ (newExc (.type "StopIteration") [] >>= _) _ _ _
  refine wpAny_bind ?_
  dsimp only [newExc, newTuple]
  refine wpAny_bind (wpAny_newObj_type ?_ (by size_fits))
  refine wpAny_bind (m := firstArgMember _ _) (wpAny_of_eq (a := Value.none) (by first | rfl | (dsimp only [firstArgMember]; rfl)) ?_)
  refine wpAny_newObj_type ?_ (by size_fits)
  dsimp only [raiseNew]
  refine wpAny_bind (wpAny_handled ?_)
  first | rw [show A.in1.handled = none from hh] | rw [hh]
  refine wpAny_bind (wpAny_pure (wpAny_throw ?_))
  exact hE _ _ (((Heap.SameBut.update ..).extBut.push _).push _) ⟨_, Heap.get?_push_size _ rfl, rfl⟩

theorem enum_tup_item {e it l : Addr} {i : Nat} {k : Int} {items : Array Value} {x old : Value} {P : Option Value → Shared → Prop}
    (he : IsEnum s.heap e it k old) (hit : s.heap.IsTupleIter it l i) (hl : s.heap.IsTuple l items) (hx : items[i]? = some x) (hne : e ≠ it)
    (hQ : ∀ h', IsEnumOut h' e it (k + 1) x s.heap.objs.size → h'.IsTupleIter it l (i + 1) →
      h'.get? s.heap.objs.size = some { cls := .type "tuple", data := .seq #[.int k s.toks, x] } →
      (∀ b o, b ≠ e → b ≠ it → s.heap.get? b = some o → h'.get? b = some o) → P (some (.ref s.heap.objs.size)) { s with heap := h', toks := s.toks + 1 }) :
    wpAny (model prog w) A (pyNext (.ref e)) P E s := by
  have hT : s.TypeIs (.ref e) "enumerate" := ⟨_, he, rfl⟩
  unfold pyNext
  refine wpAny_bind (wpAny_attempt (wpAny_callSpecial?_slot (name := Str.ofString "__next__") hT F.slot_enumerate_next
    (wpAny_call_entry F.slot_enumerate_next hT F.entry_enumerate_next ?_ (F.args_enumerate_next_1 _))))
  obtain ⟨hp, g, d, tk, os⟩ := s
  show wpAny _ _ (field (.ref e) 2 >>= _) _ _ _
  refine wpAny_bind (wpAny_field he rfl (x := .ref it) rfl ?_)
  refine wpAny_bind (nextOf_tuple_item hit hl hx fun h₁ hit₁ hs₁ => ?_)
  replace hs₁ : Heap.SameBut it hp h₁ := hs₁
  have he₁ : IsEnum h₁ e it k old := (hs₁.2 e hne).trans he
  show wpAny _ _ (field (.ref e) 3 >>= _) _ _ ⟨h₁, g, d, tk, os⟩
  refine wpAny_bind (wpAny_field he₁ rfl (x := rawInt k) rfl ?_)
  show wpAny _ _ (field (.ref e) 4 >>= _) _ _ ⟨h₁, g, d, tk, os⟩
  refine wpAny_bind (wpAny_field he₁ rfl (x := .none) rfl ?_)
  show wpAny _ _ (mkInt k >>= _) _ _ ⟨h₁, g, d, tk, os⟩
  refine wpAny_bind (wpAny_mkInt ?_)
  show wpAny _ _ (setField (.ref e) 3 (rawInt (k + 1)) >>= _) _ _ ⟨h₁, g, d, tk + 1, os⟩
  refine wpAny_bind (wpAny_setField_rec he₁ (by simp) fun h₂ he₂ hs₂ => ?_)
  replace hs₂ : Heap.SameBut e h₁ h₂ := hs₂
  replace he₂ : IsEnum h₂ e it (k + 1) old := he₂
  show wpAny _ _ (setField (.ref e) 4 .none >>= _) _ _ ⟨h₂, g, d, tk + 1, os⟩
  refine wpAny_bind (wpAny_setField_rec he₂ (by simp) fun h₃ he₃ hs₃ => ?_)
  replace hs₃ : Heap.SameBut e h₂ h₃ := hs₃
  replace he₃ : IsEnum h₃ e it (k + 1) old := he₃
  show wpAny _ _ (newTuple [.int k tk, x] >>= _) _ _ ⟨h₃, g, d, tk + 1, os⟩
  refine wpAny_bind (wpAny_newTuple ?_)
  have he₄ : IsEnum (h₃.push { cls := .type "tuple", data := .seq #[.int k tk, x] }) e it (k + 1) old := Heap.get?_push_of_some _ he₃
  generalize hh₄ : h₃.push { cls := .type "tuple", data := .seq #[.int k tk, x] } = h₄ at he₄
  have hsz : h₃.objs.size = hp.objs.size := by rw [hs₃.1, hs₂.1, hs₁.1]
  have hel : e < hp.objs.size := Heap.lt_size he
  have ht₄ : h₄.get? hp.objs.size = some { cls := .type "tuple", data := .seq #[.int k tk, x] } := by rw [← hh₄, ← hsz]; exact Heap.get?_push_size _ rfl
  have hk₄ : ∀ b o, b ≠ e → b ≠ it → hp.get? b = some o → h₄.get? b = some o := fun b o hbe hbi hb => by
    rw [← hh₄]; exact Heap.get?_push_of_some _ (hs₃.extBut b o hbe (hs₂.extBut b o hbe (hs₁.extBut b o hbi hb)))
  have hit₄ : h₄.IsTupleIter it l (i + 1) := by
    rw [← hh₄]; obtain ⟨o, ho, r⟩ := hit₁
    exact ⟨o, Heap.get?_push_of_some _ (hs₃.extBut _ _ (Ne.symm hne) (hs₂.extBut _ _ (Ne.symm hne) ho)), r⟩
  show wpAny _ _ (Builtin.SmallTypes.ownedTupleIsFree (.ref e) >>= _) _ _ ⟨h₄, g, d, tk + 1, os⟩
  rw [hsz]
  clear hh₄ he₃ hs₃ he₂ hs₂ he₁ hs₁ hit₁ hsz h₃ h₂ h₁
  refine wpAny_bind ?_
  unfold Builtin.SmallTypes.ownedTupleIsFree
  refine wpAny_bind (wpAny_field he₄ rfl (x := .none) rfl (wpAny_pure ?_))
  dsimp only [if_true]
  refine wpAny_bind (wpAny_rule ?_)
  refine wpAny_bind (wpAny_field he₄ rfl (x := old) rfl ?_)
  refine wpAny_bind (wpAny_setField_rec he₄ (by simp) fun h₅ he₅ hs₅ => ?_)
  replace hs₅ : Heap.SameBut e h₄ h₅ := hs₅
  replace he₅ : IsEnum h₅ e it (k + 1) x := he₅
  show wpAny _ _ (Builtin.SmallTypes.ownedTupleHandOut (.ref e) (.ref hp.objs.size) >>= _) _ _ ⟨h₅, g, d, tk + 1, os⟩
  refine wpAny_bind ?_
  unfold Builtin.SmallTypes.ownedTupleHandOut
  refine wpAny_bind (wpAny_setField_rec he₅ (by simp) fun h₆ he₆ hs₆ => ?_)
  replace hs₆ : Heap.SameBut e h₅ h₆ := hs₆
  replace he₆ : IsEnumOut h₆ e it (k + 1) x hp.objs.size := he₆
  refine wpAny_setField_rec he₆ (by simp) fun h₇ he₇ hs₇ => ?_
  replace hs₇ : Heap.SameBut e h₆ h₇ := hs₇
  replace he₇ : IsEnumOut h₇ e it (k + 1) x hp.objs.size := he₇
  have k7 : ∀ b o, b ≠ e → h₄.get? b = some o → h₇.get? b = some o := fun b o hb x => hs₇.extBut b o hb (hs₆.extBut b o hb (hs₅.extBut b o hb x))
  refine wpAny_bind (wpAny_letGo (wpAny_pure ⟨_, rfl, wpAny_pure (hQ h₇ he₇ ?_ ?_ ?_)⟩))
  · obtain ⟨o, ho, r⟩ := hit₄
    exact ⟨o, k7 _ _ (Ne.symm hne) ho, r⟩
  · exact k7 _ _ (Nat.ne_of_gt hel) ht₄
  · exact fun b o hbe hbi hb => k7 b o hbe (hk₄ b o hbe hbi hb)
theorem enum_tup_end {e it l : Addr} {i : Nat} {k : Int} {items : Array Value} {old : Value} {P : Option Value → Shared → Prop} (hh : A.handled = none)
    (he : IsEnum s.heap e it k old) (hit : s.heap.IsTupleIter it l i) (hl : s.heap.IsTuple l items) (hx : items[i]? = none)
    (hQ : ∀ h', Heap.ExtBut it s.heap h' → P none { s with heap := h' }) : wpAny (model prog w) A (pyNext (.ref e)) P E s := by
  have hT : s.TypeIs (.ref e) "enumerate" := ⟨_, he, rfl⟩
  unfold pyNext
  refine wpAny_bind (wpAny_attempt (wpAny_callSpecial?_slot (name := Str.ofString "__next__") hT F.slot_enumerate_next
    (wpAny_call_entry F.slot_enumerate_next hT F.entry_enumerate_next ?_ (F.args_enumerate_next_1 _))))
  show wpAny _ _ (field (.ref e) 2 >>= _) _ _ _
  refine wpAny_bind (wpAny_field he rfl (x := .ref it) rfl ?_)
  refine wpAny_bind (nextOf_tuple_end hh hit hl hx fun h' x he' hx' => ?_)
  obtain ⟨o, ho, hc⟩ := hx'
  refine wpAny_bind (wpAny_isInstance (T := "StopIteration") (b := true) ⟨o, ho, hc⟩ isSubtype_stop ?_)
  exact wpAny_pure (hQ _ he')
theorem pure_any {α : Type} {M : Model} {A : Around} {v : α} {P : α → Shared → Prop} {E : Value → Shared → Prop} {s : Shared} (h : ∀ b, P b s) : wpAny M A (pure v) P E s := wpAny_pure (h v)
theorem enum_new (l : Addr) (items : Array Value) (n : Nat) :
    Meets (Builtin.«enumerate.__new__» ⟨[.type "enumerate", .ref l], []⟩) (fun _ R s => s.heap.get? l = some (tupO items n) ∧
      R (.ok (.ret (.ref (s.heap.push { cls := .type "tuple_iterator", data := .fields #[.ref l, .int 0 0] }).objs.size)))
        { s with heap := (s.heap.push { cls := .type "tuple_iterator", data := .fields #[.ref l, .int 0 0] }).push { cls := .type "enumerate", data := .fields #[.none, .bool false, .ref s.heap.objs.size, rawInt 0, .none, .none] } }) :=
  .of_wp fun prog w A R s h => by
    obtain ⟨hp, g, d, tk, os⟩ := s; obtain ⟨hl, h⟩ := h
    have hsub := sub_enumerate
    have hL : Heap.IsTuple (Shared.heap ⟨hp, g, d, tk, os⟩) l items := ⟨_, hl, rfl, n, rfl⟩
    wp_walk using wpAny_loadPart' hl
    refine wpAny_stack_any fun st => pure_any fun b => ?_
    cases b
    · wp_walk using wpAny_loadPart' hl, wpAny_pyIter_tuple hL
      exact ⟨_, rfl, h⟩
    · wp_walk using wpAny_loadPart' hl, wpAny_pyIter_tuple hL
      exact ⟨_, rfl, h⟩
theorem call_enum {l : Addr} {items : Array Value} {n : Nat} {P : Value → Shared → Prop} (hl : s.heap.get? l = some (tupO items n))
    (h : P (.ref (s.heap.objs.size + 1)) { s with heap := (s.heap.push { cls := .type "tuple_iterator", data := .fields #[.ref l, .int 0 0] }).push { cls := .type "enumerate", data := .fields #[.none, .bool false, .ref s.heap.objs.size, rawInt 0, .none, .none] } }) :
    wpAny (model prog w) A (call (.type "enumerate") [.ref l]) P E s := by
  refine callType_new F.called_enumerate (by decide) (F.typeCall_enumerate_1 _) (F.newCall_enumerate_1 _) (fun obj => F.args_object_init_2 obj _) F.entry_enumerate_new
    (enum_new l items n) ⟨hl, ?_⟩
  have hz : (s.heap.push { cls := .type "tuple_iterator", data := .fields #[.ref l, .int 0 0] }).objs.size = s.heap.objs.size + 1 := Heap.size_push ..
  show _ ∧ _
  rw [hz]
  have := Heap.get?_push_size (s.heap.push { cls := .type "tuple_iterator", data := .fields #[.ref l, .int 0 0] })
    (o := { cls := .type "enumerate", data := .fields #[.none, .bool false, .ref s.heap.objs.size, rawInt 0, .none, .none] }) rfl
  rw [hz] at this
  exact ⟨⟨_, this, rfl⟩, h⟩
end

noncomputable def enumD : Nat → List D → List D
  | _, [] => []
  | i, x :: r => .tup [.int i, x] :: enumD (i + 1) r
noncomputable def snd2 : D → D
  | .tup [_, x] => x
  | d => d
theorem enumD_snd : ∀ (l : List D) (i : Nat), (enumD i l).map snd2 = l
  | [], _ => rfl
  | x :: r, i => congrArg (x :: ·) (enumD_snd r (i + 1))
theorem enumD_cons {i : Nat} {l : List D} {d : D} {rest : List D} (h : d :: rest = enumD i l) : ∃ x r, l = x :: r ∧ d = .tup [.int i, x] ∧ rest = enumD (i + 1) r := by
  cases l with
  | nil => cases h
  | cons x r => cases h; exact ⟨x, r, rfl, rfl, rfl⟩
theorem enumD_nil {i : Nat} {l : List D} (h : [] = enumD i l) : l = [] := by
  cases l with
  | nil => rfl
  | cons x r => cases h
noncomputable def enumO (it : Addr) (i : Nat) (old : Value) : Obj := { cls := .type "enumerate", dict := none, data := .fields #[.none, .bool false, .ref it, rawInt i, .none, old], slots := #[] }
noncomputable def EnumP (it : Addr) (rest : List D) (o : Obj) : Prop := ∃ (i : Nat) (old : Value), o = enumO it i old ∧ rest = enumD i (rest.map snd2)
noncomputable def enumF (e it : Addr) (rest : List D) : Sig := [(e, .other (EnumP it rest)), (it, .titer (rest.map snd2))]

section
variable {prog : Program} {w : World} {W : Gd} {A : Around} {env : Env} {S : Sig} {X : Value → PH → Shared → Prop} {Q : D → Sig → Prop}
theorem St.turn2 {s : Shared} {B : PH} {a b : Addr} {c d c' d' : Cell} (y : St W s B ((a, c) :: (b, d) :: S)) {h' : Heap} {tk : Nat} (k : ∀ x o, x ≠ a → x ≠ b → s.heap.get? x = some o → h'.get? x = some o) (hc : CellAt B h' a c') (hd : CellAt B h' b d') :
    St W { s with heap := h', toks := tk } B ((a, c') :: (b, d') :: S) := by
  have hnd := y.nodup
  rw [List.map_cons, List.map_cons, List.nodup_cons, List.nodup_cons] at hnd
  have na : ∀ p ∈ S, p.1 ≠ a := fun p hp q => hnd.1 (.tail _ (List.mem_map.mpr ⟨p, hp, q⟩))
  have nb : ∀ p ∈ S, p.1 ≠ b := fun p hp q => hnd.2.1 (List.mem_map.mpr ⟨p, hp, q⟩)
  have pa : ∀ x o, B x = some o → x ≠ a := fun x o e q => by
    have := y.apart (a, c) (.head _)
    rw [← q, e] at this; cases this
  have pb : ∀ x o, B x = some o → x ≠ b := fun x o e q => by
    have := y.apart (b, d) (.tail _ (.head _))
    rw [← q, e] at this; cases this
  refine ⟨y.gens, y.drawn, y.os, y.base, fun x o e => k x o (pa x o e) (pb x o e) (y.le x o e), fun p hp => ?_, fun p hp => ?_, ?_⟩
  · rcases List.mem_cons.mp hp with rfl | hp
    · exact hc
    · rcases List.mem_cons.mp hp with rfl | hp
      · exact hd
      · exact (y.cells p (.tail _ (.tail _ hp))).at fun o e => k p.1 o (na p hp) (nb p hp) e
  · rcases List.mem_cons.mp hp with rfl | hp
    · exact y.apart (a, c) (.head _)
    · rcases List.mem_cons.mp hp with rfl | hp
      · exact y.apart (b, d) (.tail _ (.head _))
      · exact y.apart p (.tail _ (.tail _ hp))
  · rw [List.map_cons, List.map_cons, List.nodup_cons, List.nodup_cons]; exact hnd
/-- an object that stands, taken into the store -/
theorem St.addP {s : Shared} {B : PH} {a : Addr} {o : Obj} (y : St W s B S) (ho : s.heap.get? a = some o) (hB : B a = none) (hS : ∀ p ∈ S, p.1 ≠ a) : St W s (St.add B a o) S := by
  refine ⟨y.gens, y.drawn, y.os, fun b p e => St.add_le hB b p (y.base b p e), fun b p e => ?_, fun p hp => (y.cells p hp).mono (St.add_le hB), fun p hp => ?_, y.nodup⟩
  · unfold St.add at e
    by_cases q : b = a
    · rw [if_pos q] at e; cases e; rw [q]; exact ho
    · rw [if_neg q] at e; exact y.le b p e
  · unfold St.add
    rw [if_neg (hS p hp)]
    exact y.apart p hp
theorem enum_perm {e it : Addr} {rest : List D} : (S ++ enumF e it rest).Perm ((e, .other (EnumP it rest)) :: (it, .titer (rest.map snd2)) :: S) := List.perm_append_comm
theorem iter_enum (hh : A.handled = none) {elts : List Expr} {k : Nat} {pos : Pos} (e it : Addr) : Iter (model prog w) W A (.Tuple elts k pos) (.ref e) (enumF e it) where
  self := fun {s B S rest} y => by
    obtain ⟨o, ho, i, old, rfl, _⟩ := (y.perm enum_perm).cells _ (.head _)
    exact wpAny_pyIter_enum (i := (i : Int)) ho ⟨rfl, rfl⟩
  item := fun {s B S d rest} y => by
    have y' := y.perm enum_perm
    obtain ⟨o, ho, i, old, rfl, hr⟩ := y'.cells _ (.head _)
    obtain ⟨la, j, xs, n, l, hi, hB, hrl, hl⟩ := y'.cells _ (.tail _ (.head _))
    have hne : e ≠ it := by
      have := y'.nodup
      rw [List.map_cons, List.map_cons, List.nodup_cons] at this
      exact fun q => this.1 (by rw [q]; exact .head _)
    rw [List.map_cons] at hr hl
    obtain ⟨x, r, hx1, rfl, hr2⟩ := enumD_cons hr
    obtain ⟨h1, h2⟩ := drop_cons hl
    obtain ⟨v, hv, rv⟩ := hrl.get h1
    have rv' : Rep B x v := rv
    refine enum_tup_item (k := (i : Int)) ho hi ⟨_, y.le _ _ hB, rfl, n, rfl⟩ (x := v) (by rw [← Array.getElem?_toList]; exact hv) hne fun h' heo hit' htup hk => ⟨_, rfl, ?_⟩
    refine wpAny_letOwnedTupleGo_enum heo fun h₂ he₂ hs₂ => ?_
    replace hs₂ : Heap.SameBut e h' h₂ := hs₂
    have hel : e < s.heap.objs.size := Heap.lt_size ho
    have k2 : ∀ b o, b ≠ e → b ≠ it → s.heap.get? b = some o → h₂.get? b = some o := fun b o hb hb' q => hs₂.extBut b o hb (hk b o hb hb' q)
    have ht2 : h₂.get? s.heap.objs.size = some (tupO #[.int i s.toks, v] 0) := hs₂.extBut _ _ (Nat.ne_of_gt hel) htup
    have hit2 : h₂.IsTupleIter it la (j + 1) := by
      obtain ⟨oi, hoi, rr⟩ := hit'
      exact ⟨oi, hs₂.extBut _ _ (Ne.symm hne) hoi, rr⟩
    have y2 := y'.turn2 (h' := h₂) (tk := s.toks + 1) (c' := .other (EnumP it rest)) (d' := .titer (rest.map snd2)) k2 ⟨_, he₂, i + 1, v, by unfold enumO; congr 1, by
        rw [show rest.map snd2 = r by
          cases hx1; rfl]
        exact hr2⟩ ⟨la, j + 1, xs, n, l, hit2, hB, hrl, h2⟩
    have hfr := y.fresh
    have y3 := y2.addP ht2 hfr fun p hp => by
      refine Nat.ne_of_lt ?_
      rcases List.mem_cons.mp hp with rfl | hp
      · exact hel
      · rcases List.mem_cons.mp hp with rfl | hp
        · obtain ⟨oi, hoi, _⟩ := hi
          exact Heap.lt_size hoi
        · exact y'.ne p (.tail _ (.tail _ hp))
    refine ⟨_, St.add_le hfr, y3.perm enum_perm.symm, ?_⟩
    dsimp only [Rep]
    refine ⟨_, _, 0, rfl, St.add_self, ?_⟩
    exact RepL.cons (rep_int _ _) (RepL.one (rv'.mono (St.add_le hfr)))
  done := fun {s B S} y => by
    have y' := y.perm enum_perm
    obtain ⟨o, ho, i, old, rfl, hr⟩ := y'.cells _ (.head _)
    obtain ⟨la, j, xs, n, l, hi, hB, hrl, hl⟩ := y'.cells _ (.tail _ (.head _))
    have hz := drop_nil hl
    rw [List.getElem?_eq_none_iff] at hz
    refine enum_tup_end hh (k := (i : Int)) ho hi ⟨_, y.le _ _ hB, rfl, n, rfl⟩ ?_ fun h' hs' => ⟨rfl, B, .refl B, ?_⟩
    · rw [← Array.getElem?_toList, List.getElem?_eq_none_iff, hrl.length]
      exact hz
    · have y2 := (y'.perm (List.Perm.swap ..)).gone (tk := s.toks) hs'
      exact y2.sub (List.sublist_cons_self _ _)
theorem ItW.enum (hh : A.handled = none) {elts : List Expr} {k : Nat} {pos : Pos} {e it : Addr} {items : List D} {Q : List D → Sig → Prop} (q : Q items S) :
    ItW (model prog w) W A (.Tuple elts k pos) (.raw (.ref e)) (S ++ enumF e it items) X Q := fun s B v y r => by
  obtain rfl := raw_inv r
  obtain ⟨o, ho, i, old, rfl, _⟩ := (y.perm enum_perm).cells _ (.head _)
  exact wpAny_pyIter_enum (i := (i : Int)) ho ⟨B, enumF e it, items, S, .refl B, iter_enum hh e it, y, q⟩
theorem Op.enum {l : List D} (q : ∀ e it, Q (.raw (.ref e)) (S ++ enumF e it (enumD 0 l))) : OpL (model prog w) W A (fun vs => call (.type "enumerate") ([] ++ vs)) RepV [.tup l] S X Q := fun s B vs y r => by
  dsimp only [RepL] at r
  obtain ⟨v, us, rfl, r, rfl⟩ := r
  dsimp only [Rep] at r
  obtain ⟨a, xs, n, rfl, ha, hr⟩ := r
  have y1 := y.newC (o := { cls := .type "tuple_iterator", data := .fields #[.ref a, .int 0 0] }) (c := .titer l) s.toks ⟨a, 0, xs, n, l, ⟨_, Heap.get?_push_size _ rfl, rfl, rfl⟩, ha, hr, by simp⟩
  have y2 := y1.newC (o := enumO s.heap.objs.size 0 .none) (c := .other (EnumP s.heap.objs.size (enumD 0 l))) s.toks ⟨_, Heap.get?_push_size _ rfl, 0, .none, rfl, by rw [enumD_snd]⟩
  have hz : (s.heap.push { cls := .type "tuple_iterator", data := .fields #[.ref a, .int 0 0] }).objs.size = s.heap.objs.size + 1 := Heap.size_push ..
  refine call_enum (y.le _ _ ha) ⟨B, _, _, .refl B, y2.perm ?_, ?_, q (s.heap.objs.size + 1) s.heap.objs.size⟩
  · have := (enum_perm (S := S) (e := s.heap.objs.size + 1) (it := s.heap.objs.size) (rest := enumD 0 l)).symm
    rw [enumD_snd] at this
    show List.Perm (((s.heap.push { cls := .type "tuple_iterator", data := .fields #[.ref a, .int 0 0] }).objs.size, _) :: _) _
    rw [hz]
    exact this
  · exact rep_raw _
end
end
section
section
variable {prog : Program} {w : World} {W : Gd} {A : Around} {env : Env} {S : Sig} {X : Value → PH → Shared → Prop} {Q : D → Sig → Prop}

/-! methods of the built-in types -/
noncomputable def Me (prog : Program) (w : World) (W : Gd) (A : Around) (name : Str) (pos : Pos) (trees : List (Bool × Sem Value)) (d : D) (S : Sig) (X : Value → PH → Shared → Prop) (Q : D → Sig → Prop) : Prop :=
  ∀ s B v, St W s B S → Rep B d v → MethodOnS prog w A (ExcP B X) name v pos trees (Post W B RepV Q) s
theorem Ev.meth {o : Expr} {name : Str} {apos pos : Pos} {args : List Expr} (h : Ev (model prog w) W A env o S X fun d S₁ => Me prog w W A name pos (backTo pos (starEach args env)) d S₁ X Q)
    (hbase : attributeBase o name env (eval o env) = eval o env := by with_unfolding_all rfl)
    (hfew : ((backTo pos (starEach args env)).all (fun x => !x.1) && (backToKw pos (keywordEach [] env)).all (fun x => x.1.isSome)
      && decide (args.length + ([] : List Keyword).length + (if ([] : List Keyword).isEmpty then 0 else 1) < 30)) = true := by with_unfolding_all rfl)
    (hline : (apos.endLine == pos.line) = true := by with_unfolding_all rfl) : Ev (model prog w) W A env (.Call (.Attribute o name apos) args [] pos) S X Q := fun s B y =>
  wpAny_Call_method_lateS hbase hfew hline (h.use y (fun v s₁ B₁ d S₁ l₁ y₁ r₁ h₁ => by
    obtain ⟨T, id, a, b, c, e, f, g⟩ := h₁ s₁ B₁ v y₁ r₁
    exact ⟨T, id, a, b, c, e, f, wpAny_mono g (fun _ _ p => p.up l₁) fun _ _ p => p.up l₁⟩) fun _ _ p => p)
theorem Me.isspace {x : Str} {pos : Pos} (q : Q (.bool (Txt.isspace x)) S) : Me prog w W A "isspace" pos [] (.str x) S X Q := fun s B v y r => by
  obtain ⟨t, rfl⟩ := str_inv r
  exact SB.isspace ⟨B, _, S, .refl B, y, rep_bool _, q⟩
theorem Me.list {a : Addr} {l : List D} {name : Str} {id : String} {pos : Pos} {trees : List (Bool × Sem Value)} (hm : (a, .list l) ∈ S) (slot : Slot "list" name id) (hty : typeOf (.builtin id) = pure (.type "method_descriptor"))
    (h : TX (model prog w) W A (callWith pos (.builtin id) [.ref a] trees []) RepV S X Q) : Me prog w W A name pos trees (.raw (.ref a)) S X Q := fun s B v y r => by
  obtain rfl := raw_inv r
  obtain ⟨xs, n, ha, _⟩ := y.cells _ hm
  exact ⟨"list", id, F.plainAttrs_list, slot, hty, ⟨_, ha, rfl⟩, fun b e => by cases e; exact ⟨_, ha, rfl⟩, h s B y⟩
theorem Me.append {a : Addr} {l : List D} {pos : Pos} {e : Expr} (hm : (a, .list l) ∈ S)
    (h : Ev (model prog w) W A env e S X fun d S₁ => ∃ i l, S₁[i]? = some (a, .list l) ∧ l.length ≤ sizeLine ∧ Q .none (S₁.set i (a, .list (l ++ [d]))))
    (he : backTo pos (starEach [e] env) = [(false, eval e env)] := by rfl) : Me prog w W A "append" pos (backTo pos (starEach [e] env)) (.raw (.ref a)) S X Q := by
  rw [he]
  refine Me.list hm F.slot_list_append type_list_append fun s B y => ?_
  refine P.append_list (h.use y (fun v s₁ B₁ d S₁ l₁ y₁ r₁ hh1 => ?_) fun _ _ p => p)
  obtain ⟨i, l, hi, hl, q⟩ := hh1
  have c := y₁.get hi
  obtain ⟨xs, n, ha, hr⟩ := id c
  have e1 := hr.length
  rw [Array.length_toList] at e1
  refine ⟨xs, n, by lia, ha, B₁, _, _, l₁, y₁.turn hi (tk := s₁.toks) (Heap.SameBut.update ..).extBut (CellAt.upd (· ++ [d]) (fun xs => xs.push v) (fun xs hr => by rw [Array.toList_push]; exact hr.append (RepL.one r₁)) c), rep_none, q⟩
theorem Me.pop {a : Addr} {l : List D} {d : D} {i : Nat} {pos : Pos} (hi : S[i]? = some (a, .list (l ++ [d]))) (hl : l.length + 1 ≤ sizeLine) (q : Q d (S.set i (a, .list l))) : Me prog w W A "pop" pos [] (.raw (.ref a)) S X Q := by
  refine Me.list (List.mem_of_getElem? hi) F.slot_list_pop F.type_list_pop fun s B y => ?_
  have c := y.get hi
  obtain ⟨xs, n, ha, hr⟩ := id c
  have e1 := hr.length
  rw [Array.length_toList, List.length_append, List.length_cons, List.length_nil] at e1
  obtain ⟨v, hv, rv⟩ := hr.get (i := l.length) (d := d) (by simp)
  have hv' : xs[xs.size - 1]? = some v := by rw [← Array.getElem?_toList, e1]; exact hv
  refine P.pop_list ha hv' ⟨B, d, _, .refl B, y.turn hi (tk := s.toks) (Heap.SameBut.update ..).extBut ?_, rv, q⟩ (by lia)
  refine CellAt.upd (B := B) (l := l ++ [d]) (fun _ => l) (fun xs' => xs'.eraseIdxIfInBounds (xs.size - 1)) (fun ys hr' => ?_) c
  have e2 := hr'.length
  rw [Array.length_toList, List.length_append, List.length_cons, List.length_nil] at e2
  have e3 : (ys.eraseIdxIfInBounds (xs.size - 1)).toList = ys.toList.take l.length := by
    unfold Array.eraseIdxIfInBounds
    rw [dif_pos (by lia)]
    rw [Array.toList_eraseIdx, e1, Nat.add_sub_cancel]
    rw [List.eraseIdx_eq_take_drop_succ, List.drop_of_length_le (by rw [Array.length_toList]; lia), List.append_nil]
  rw [e3]
  have := hr'.take l.length
  rwa [List.take_left'] at this
  rfl
theorem Me.extend {a : Addr} {l : List D} {pos : Pos} {e : Expr} (hm : (a, .list l) ∈ S)
    (h : Ev (model prog w) W A env e S X fun d S₁ => ∃ i l m, d = .lst m ∧ S₁[i]? = some (a, .list l) ∧ l.length + m.length ≤ sizeLine ∧ Q .none (S₁.set i (a, .list (l ++ m))))
    (he : backTo pos (starEach [e] env) = [(false, eval e env)] := by rfl) : Me prog w W A "extend" pos (backTo pos (starEach [e] env)) (.raw (.ref a)) S X Q := by
  rw [he]
  refine Me.list hm F.slot_list_extend F.type_list_extend fun s B y => ?_
  refine P.extend_list (h.use y (fun v s₁ B₁ d S₁ l₁ y₁ r₁ hh2 => ?_) fun _ _ p => p)
  obtain ⟨i, l, m, hd, hi, hl, q⟩ := hh2
  subst hd
  have c := y₁.get hi
  obtain ⟨xs, n, ha, hr⟩ := id c
  dsimp only [RepV, Rep] at r₁
  obtain ⟨b, ys, k, rfl, hb, hr'⟩ := r₁
  have e1 := hr.length
  have e2 := hr'.length
  rw [Array.length_toList] at e1 e2
  refine ⟨b, xs, ys, n, k, by lia, by lia, ?_, rfl, ha, y₁.le _ _ hb, B₁, _, _, l₁, y₁.turn hi (tk := s₁.toks) (Heap.SameBut.update ..).extBut (CellAt.upd (· ++ m) (fun xs => xs ++ ys) (fun xs hr => by rw [Array.toList_append]; exact hr.append hr') c), rep_none, q⟩
  rw [Bool.and_eq_true, not_and]
  intro _
  unfold Builtin.List.listTooLong
  rw [decide_eq_true_eq]
  lia

/-! texts -/
theorem Op2.in_str {x y : Str} (q : Q (.bool !(Builtin.Str.occurrences x y 0 x.length 1).isEmpty) S) : Op2 (model prog w) W A (compareOp .In) RepV (.str y) (.str x) S X Q := fun s B v u z r₁ r₂ => by
  obtain ⟨t, rfl⟩ := str_inv r₁
  obtain ⟨t', rfl⟩ := str_inv r₂
  exact P.in_str ⟨B, _, S, .refl B, z, rep_bool _, q⟩
theorem Op2.item_str {value slice : Expr} {x : Str} {c : Nat} (hc : x.cps[0]? = some c) (q : Q (.str ⟨#[c]⟩) S) : Op2 (model prog w) W A (subscriptTail value slice) RepV (.str x) (.int 0) S X Q := fun s B v u y r₁ r₂ => by
  obtain ⟨t, rfl⟩ := str_inv r₁
  obtain ⟨t', rfl⟩ := int_inv r₂
  obtain ⟨ops, hs⟩ := sub_ops slice (.str x t) (.int 0 t')
  have hlt : 0 < x.length := (Array.getElem?_eq_some_iff.mp hc).1
  refine tail_any (T := "str") (typeIs_str s x t) F.slot_str_getitem.lookup (P.getItem_str (c := c) rfl ?_ ⟨B, _, S, .refl B, y.tok _, ?_, q⟩) hs
  · rw [seqIndex?_zero hlt]; exact hc
  · dsimp only [RepV, Rep]; exact ⟨_, rfl⟩
theorem Ev.and2 {e₁ e₂ : Expr} {pos : Pos} (h : Ev (model prog w) W A env e₁ S X fun d S₁ => ∃ b, d = .bool b ∧ if b then Ev (model prog w) W A env e₂ S₁ X Q else Q (.bool false) S₁) :
    Ev (model prog w) W A env (.BoolOp .And [e₁, e₂] pos) S X Q := fun s B y =>
  BoolOp_and (h.use y (fun v s₁ B₁ d S₁ l₁ y₁ r₁ hh3 => by
    obtain ⟨b, hd, q⟩ := hh3
    subst hd
    dsimp only [RepV, Rep] at r₁
    subst r₁
    refine wpAny_truthy_bool ?_
    cases b with
    | true => exact BoolOp_one (TX.use (P := Post W B RepV Q) q y₁ (fun _ _ B₂ d S₂ l₂ y₂ r₂ q => ⟨B₂, d, S₂, l₁.trans l₂, y₂, r₂, q⟩) fun _ _ p => p.up l₁)
    | false => exact ⟨B₁, _, S₁, l₁, y₁, rep_bool _, q⟩) fun _ _ p => p)

/-! alike or not -/
theorem Op2.eqT {d : D} {n : Nat} (hd : plain n d = true) (hn : n ≤ 64) (hu : A.units + 64 < cLine) (q : Q (.bool true) S) : Op2 (model prog w) W A (compareOp .Eq) RepV d d S X Q := by
  refine Op2.eqd hd hd hn hn hu ?_
  rw [@decide_eq_true _ (Classical.propDecidable _) rfl]; exact q
theorem Op2.eqF {d e : D} {n k : Nat} (h : d ≠ e) (hd : plain n d = true) (he : plain k e = true) (hn : n ≤ 64) (hk : k ≤ 64) (hu : A.units + 64 < cLine) (q : Q (.bool false) S) : Op2 (model prog w) W A (compareOp .Eq) RepV d e S X Q := by
  refine Op2.eqd hd he hn hk hu ?_
  rw [@decide_eq_false _ (Classical.propDecidable _) h]; exact q
theorem Op2.neF {d : D} {n : Nat} (hd : plain n d = true) (hn : n ≤ 64) (hu : A.units + 64 < cLine) (q : Q (.bool false) S) : Op2 (model prog w) W A (compareOp .NotEq) RepV d d S X Q := by
  refine Op2.ned hd hd hn hn hu ?_
  rw [@decide_eq_true _ (Classical.propDecidable _) rfl]; exact q
theorem Op2.neT {d e : D} {n k : Nat} (h : d ≠ e) (hd : plain n d = true) (he : plain k e = true) (hn : n ≤ 64) (hk : k ≤ 64) (hu : A.units + 64 < cLine) (q : Q (.bool true) S) : Op2 (model prog w) W A (compareOp .NotEq) RepV d e S X Q := by
  refine Op2.ned hd he hn hk hu ?_
  rw [@decide_eq_false _ (Classical.propDecidable _) h]; exact q

/-! calls by name -/
theorem Ev.callB {id : Str} {b : String} {p pos : Pos} {args : List Expr} (hm : W.mg id = none) (hv : bootBuiltins id = some (Value.builtin b))
    (h : EvArgs (model prog w) W A env pos args S X fun ds S₁ => OpL (model prog w) W A (fun vs => PySem.call (Value.builtin b) ([] ++ vs)) RepV ds S₁ X Q)
    (hg : env.globals = mainGlobals := by with_unfolding_all rfl) (hb : env.builtins = builtinsNs := by with_unfolding_all rfl) (hk : env.scope.kind = .function := by with_unfolding_all rfl) (hl : env.kindOf id = some .globalImplicit := by with_unfolding_all rfl) (hd : (id == ("__debug__" : Str)) = false := by decide) (hn : id ≠ "__name__" := by decide)
    (hp : (backTo pos (starEach args env)).any (·.1) = false := by with_unfolding_all rfl) : Ev (model prog w) W A env (.Call (.Name id p) args [] pos) S X Q :=
  Ev.call (Ev.nameB (v := Value.builtin b) hm hv ⟨Value.builtin b, rfl, Cw.builtin h hp⟩ hg hb hk hl hd hn)
theorem Ev.callT {id : Str} {b : String} {p pos : Pos} {args : List Expr} (hm : W.mg id = none) (hv : bootBuiltins id = some (Value.type b))
    (h : EvArgs (model prog w) W A env pos args S X fun ds S₁ => OpL (model prog w) W A (fun vs => PySem.call (Value.type b) ([] ++ vs)) RepV ds S₁ X Q)
    (hg : env.globals = mainGlobals := by with_unfolding_all rfl) (hb : env.builtins = builtinsNs := by with_unfolding_all rfl) (hk : env.scope.kind = .function := by with_unfolding_all rfl) (hl : env.kindOf id = some .globalImplicit := by with_unfolding_all rfl) (hd : (id == ("__debug__" : Str)) = false := by decide) (hn : id ≠ "__name__" := by decide)
    (hp : (backTo pos (starEach args env)).any (·.1) = false := by with_unfolding_all rfl) : Ev (model prog w) W A env (.Call (.Name id p) args [] pos) S X Q :=
  Ev.call (Ev.nameB (v := Value.type b) hm hv ⟨Value.type b, rfl, Cw.type h hp⟩ hg hb hk hl hd hn)
theorem Ev.callG {id : Str} {f : Addr} {params : Arguments} {body : List Stmt} {scope : Scope} {p pos : Pos} {args : List Expr} (hv : W.mg id = some (.ref f)) (hf : FnAt W f params body scope)
    (h : EvArgs (model prog w) W A env pos args S X fun ds S₁ => OpL (model prog w) W A (fun vs => PySem.call (.ref f) vs) RepV ds S₁ X Q)
    (hg : env.globals = mainGlobals := by rfl) (hk : env.scope.kind = .function := by rfl) (hl : env.kindOf id = some .globalImplicit := by rfl) (hd : (id == ("__debug__" : Str)) = false := by decide)
    (hp : (backTo pos (starEach args env)).any (·.1) = false := by rfl) : Ev (model prog w) W A env (.Call (.Name id p) args [] pos) S X Q := by
  obtain ⟨oc, od, osl, name, qual, doc, pm, an, cdv, ct, ho, hcd⟩ := hf.ex
  exact Ev.call (Ev.nameG hv (rep_raw _) ⟨_, rfl, Cw.fn ho rfl h hp⟩ hg hk hl hd)
end
end
section
/-! tables -/
section
variable {K : Type} [DecidableEq K] {B B' : PH}
noncomputable def lk (l : List (K × D)) (k : K) : Option D := (l.find? fun p => decide (p.1 = k)).map (·.2)
noncomputable def sto (l : List (K × D)) (k : K) (d : D) : List (K × D) := if l.any (fun p => decide (p.1 = k)) then l.map (fun p => if p.1 = k then (p.1, d) else p) else l ++ [(k, d)]
inductive KV (B : PH) : List (K × D) → List (K × Value) → Prop
  | nil : KV B [] []
  | cons {k : K} {d : D} {v : Value} {l : List (K × D)} {r : List (K × Value)} : Rep B d v → KV B l r → KV B ((k, d) :: l) ((k, v) :: r)
theorem KV.mono (h : PH.le B B') {l : List (K × D)} {r : List (K × Value)} (x : KV B l r) : KV B' l r := by
  induction x with
  | nil => exact .nil
  | cons a _ ih => exact .cons (a.mono h) ih
theorem KV.length {l : List (K × D)} {r : List (K × Value)} (x : KV B l r) : r.length = l.length := by
  induction x with
  | nil => rfl
  | cons _ _ ih => simp [ih]
theorem KV.keys {l : List (K × D)} {r : List (K × Value)} (x : KV B l r) : r.map (·.1) = l.map (·.1) := by
  induction x with
  | nil => rfl
  | cons _ _ ih => simp [ih]
theorem KV.lk {l : List (K × D)} {r : List (K × Value)} (x : KV B l r) (k : K) : (lk l k = none ∧ valueAt r k = none) ∨ ∃ d v, Mine.lk l k = some d ∧ valueAt r k = some v ∧ Rep B d v := by
  induction x with
  | nil => exact .inl ⟨rfl, rfl⟩
  | @cons k' d v l r a _ ih =>
    by_cases h : k' = k
    · exact .inr ⟨d, v, by simp [Mine.lk, h], by simp [valueAt, h], a⟩
    · simpa [Mine.lk, valueAt, h] using ih
theorem KV.any {l : List (K × D)} {r : List (K × Value)} (x : KV B l r) (k : K) : (r.any fun p => decide (p.1 = k)) = l.any fun p => decide (p.1 = k) := by
  induction x with
  | nil => rfl
  | cons _ _ ih => simp [ih]
theorem KV.map {l : List (K × D)} {r : List (K × Value)} (x : KV B l r) {k : K} {d : D} {v : Value} (hv : Rep B d v) : KV B (l.map fun p => if p.1 = k then (p.1, d) else p) (r.map fun p => if p.1 = k then (p.1, v) else p) := by
  induction x with
  | nil => exact .nil
  | @cons k' d' v' l r a _ ih =>
    simp only [List.map_cons]
    by_cases h : k' = k
    · rw [if_pos h, if_pos h]; exact .cons hv ih
    · rw [if_neg h, if_neg h]; exact .cons a ih
theorem KV.snoc {l : List (K × D)} {r : List (K × Value)} (x : KV B l r) {k : K} {d : D} {v : Value} (hv : Rep B d v) : KV B (l ++ [(k, d)]) (r ++ [(k, v)]) := by
  induction x with
  | nil => exact .cons hv .nil
  | cons a _ ih => exact .cons a ih
theorem KV.sto {l : List (K × D)} {r : List (K × Value)} (x : KV B l r) {k : K} {d : D} {v : Value} (hv : Rep B d v) : KV B (sto l k d) (stored r k v) := by
  unfold Mine.sto stored
  rw [x.any]
  split
  · exact x.map hv
  · exact x.snoc hv
theorem lk_sto {l : List (K × D)} {k k' : K} {d : D} : lk (sto l k d) k' = if k = k' then some d else lk l k' := by
  have hm : ∀ l : List (K × D), lk (l.map fun p => if p.1 = k then (p.1, d) else p) k' = if k = k' then (if l.any (fun p => decide (p.1 = k)) then some d else lk l k') else lk l k' := by
    intro l
    induction l with
    | nil => simp [lk]
    | cons p l ih =>
      obtain ⟨a, b⟩ := p
      simp only [lk, List.map_cons, List.find?_cons, List.any_cons] at ih ⊢
      by_cases h : a = k
      · subst h
        by_cases h' : a = k'
        · subst h'; simp
        · simp only [h', if_true, decide_false, if_false] at ih ⊢
          exact ih
      · by_cases h' : a = k'
        · subst h'
          have : ¬ k = a := fun e => h e.symm
          simp [h, this]
        · simp only [h, h', if_false, decide_false, Bool.false_or] at ih ⊢
          exact ih
  unfold sto
  split
  · rename_i h
    rw [hm l]
    by_cases h' : k = k'
    · rw [if_pos h', if_pos h', if_pos h]
    · rw [if_neg h', if_neg h']
  · rename_i h
    have hn : ∀ p ∈ l, ¬ p.1 = k := fun p hp e => h (List.any_eq_true.mpr ⟨p, hp, decide_eq_true e⟩)
    simp only [lk, List.find?_append]
    by_cases h' : k = k'
    · subst h'
      have : l.find? (fun p => decide (p.1 = k)) = none := List.find?_eq_none.mpr fun p hp e => hn p hp (of_decide_eq_true e)
      rw [this, if_pos rfl]
      simp
    · rw [if_neg h']
      cases hf : l.find? (fun p => decide (p.1 = k')) with
      | some p => rfl
      | none => simp [h']
theorem sto_length_le (l : List (K × D)) (k : K) (d : D) : (sto l k d).length ≤ l.length + 1 := by
  unfold sto
  split
  · rw [List.length_map]; lia
  · simp
theorem sto_new {l : List (K × D)} {k : K} (h : lk l k = none) (d : D) : sto l k d = l ++ [(k, d)] := by
  unfold sto
  rw [if_neg]
  intro ha
  obtain ⟨p, hp, e⟩ := List.any_eq_true.mp ha
  unfold lk at h
  rw [Option.map_eq_none_iff, List.find?_eq_none] at h
  exact h p hp e
end

section
variable {prog : Program} {w : World} {K : Type} [DecidableEq K]
noncomputable def DKV (knd : KeyKind prog w K) (l : List (K × D)) : PH → Obj → Prop := fun B o =>
  ∃ es ep kvs, o.ExactDict ∧ o.data = .dict es ep ∧ KeysOf knd es ∧ Pairs knd es.toList kvs ∧ (kvs.map (·.1)).Nodup ∧ KV B l kvs
theorem CellAt.dic {knd : KeyKind prog w K} {B : PH} {h : Heap} {a : Addr} {l : List (K × D)} (x : CellAt B h a (.any (DKV knd l))) : ∃ kvs, h.DictOf knd a kvs ∧ KV B l kvs := by
  obtain ⟨o, ho, _, hb, es, ep, kvs, h1, h2, h3, h4, h5, h6⟩ := x; exact ⟨kvs, ⟨o, es, ep, ho, h1, h2, h3, h4, h5⟩, h6.mono hb⟩
theorem CellAt.ofDic {knd : KeyKind prog w K} {B : PH} {h : Heap} {a : Addr} {l : List (K × D)} {kvs : List (K × Value)} (x : h.DictOf knd a kvs) (y : KV B l kvs) : CellAt B h a (.any (DKV knd l)) := by
  obtain ⟨o, es, ep, ho, h1, h2, h3, h4, h5⟩ := x; exact ⟨o, ho, B, .refl B, es, ep, kvs, h1, h2, h3, h4, h5, y⟩

/-- a key told -/
noncomputable def IsK (knd : KeyKind prog w K) (d : D) (k : K) : Prop := ∀ B v, Rep B d v → knd.is k v = true
theorem isK_str (x : Str) : IsK (strKind prog w) (.str x) x := fun B v r => by
  obtain ⟨t, rfl⟩ := str_inv r
  show Value.isStrOf x (.str x t) = true
  simp [Value.isStrOf]
theorem isK_int (i : Int) : IsK (intKind prog w) (.int i) i := fun B v r => by
  obtain ⟨t, rfl⟩ := int_inv r
  show Value.isInt i (.int i t) = true
  simp [Value.isInt]

variable {W : Gd} {A : Around} {env : Env} {S : Sig} {X : Value → PH → Shared → Prop} {Q : D → Sig → Prop} {knd : KeyKind prog w K}

theorem Op2.item_dic {value slice : Expr} {a : Addr} {l : List (K × D)} {d e : D} {k : K} (hm : (a, .any (DKV knd l)) ∈ S) (hk : IsK knd d k) (hl : lk l k = some e) (q : Q e S) :
    Op2 (model prog w) W A (subscriptTail value slice) RepV (.raw (.ref a)) d S X Q := fun s B v u y r₁ r₂ => by
  obtain rfl := raw_inv r₁
  obtain ⟨ops, hs⟩ := sub_ops slice (.ref a) u
  obtain ⟨kvs, hd, hkv⟩ := (y.cells _ hm).dic
  rcases hkv.lk k with ⟨h1, _⟩ | ⟨e', v', h1, h2, h3⟩
  · rw [hl] at h1; cases h1
  · rw [hl] at h1; cases h1
    refine tail_any (T := "dict") hd.typeIs slot_dict_getitem.lookup ?_ hs
    exact wpAny_getItem_of (hk B u r₂) hd.mapOf h2 ⟨B, e, S, .refl B, y.tok _, h3, q⟩
theorem Op3.setitem_dic {a : Addr} {l : List (K × D)} {d e : D} {k : K} {j : Nat} {Q : Sig → Prop} (hj : S[j]? = some (a, .any (DKV knd l))) (hk : IsK knd d k) (hz : l.length ≤ sizeLine) (q : Q (S.set j (a, .any (DKV knd (sto l k e))))) :
    Op3 (model prog w) W A setItem (.raw (.ref a)) d e S X Q := fun s B v u x y r₁ r₂ r₃ => by
  obtain rfl := raw_inv r₁
  obtain ⟨kvs, hd, hkv⟩ := (y.get hj).dic
  refine wpAny_setItem_pairs (hk B u r₂) hd (fun h' hd' hs' => ?_) (by rw [hkv.length]; exact hz)
  exact ⟨B, (), _, .refl B, y.turn hj (tk := s.toks + 1) hs'.extBut (.ofDic hd' (hkv.sto r₃)), trivial, q⟩

noncomputable def SMod (W : Gd) : Prop := ∃ o, W.G.get? sysModules = some o
theorem SMod.ne (h : SMod W) {s : Shared} {B : PH} (y : St W s B S) {p : Addr × Cell} (hp : p ∈ S) : (p.1 == sysModules) = false := by
  obtain ⟨o, ho⟩ := h
  refine beq_eq_false_iff_ne.mpr fun e => ?_
  have := y.apart p hp
  rw [e, y.base _ _ ho] at this
  cases this
theorem Op2.in_dic (sm : SMod W) {a : Addr} {l : List (K × D)} {d : D} {k : K} (hm : (a, .any (DKV knd l)) ∈ S) (hk : IsK knd d k) (q : Q (.bool (lk l k).isSome) S) :
    Op2 (model prog w) W A (compareOp .In) RepV d (.raw (.ref a)) S X Q := fun s B v u y r₁ r₂ => by
  obtain rfl := raw_inv r₂
  obtain ⟨kvs, hd, hkv⟩ := (y.cells _ hm).dic
  refine wpAny_in_of (hk B v r₁) (sm.ne y hm) hd.mapOf ?_
  rcases hkv.lk k with ⟨h1, h2⟩ | ⟨e', v', h1, h2, h3⟩
  · rw [h2]; rw [h1] at q; exact ⟨B, _, S, .refl B, y.tok _, rep_bool _, q⟩
  · rw [h2]; rw [h1] at q; exact ⟨B, _, S, .refl B, y.tok _, rep_bool _, q⟩

/-! a table display -/
noncomputable def RepPr : PH → List (Value × Value) → List (D × D) → Prop := fun B vs ds => RepL B (ds.map (·.1)) (vs.map (·.1)) ∧ RepL B (ds.map (·.2)) (vs.map (·.2))
noncomputable abbrev Prs (M : Model) (W : Gd) (A : Around) (ps : List (Sem Value × Sem Value)) (S : Sig) (X : Value → PH → Shared → Prop) (Q : List (D × D) → Sig → Prop) : Prop := TX M W A (evalPairs ps) RepPr S X Q
theorem Prs.nil {Q : List (D × D) → Sig → Prop} (q : Q [] S) : Prs (model prog w) W A [] S X Q := fun s B y =>
  evalPairs_nil ⟨B, [], S, .refl B, y, ⟨by simp [RepL], by simp [RepL]⟩, q⟩
theorem Prs.cons {ek ev : Expr} {pos : Pos} {ps : List (Sem Value × Sem Value)} {Q : List (D × D) → Sig → Prop}
    (h : Ev (model prog w) W A env ek S X fun dk S₁ => Ev (model prog w) W A env ev S₁ X fun dv S₂ => Prs (model prog w) W A ps S₂ X fun ds S₃ => Q ((dk, dv) :: ds) S₃) :
    Prs (model prog w) W A ((eval ek env, (do let x ← eval ev env; standAt pos; pure x)) :: ps) S X Q := fun s B y =>
  evalPairs_cons (h.use y (fun vk s₁ B₁ dk S₁ l₁ y₁ r₁ h₁ => wpAny_bind (h₁.use y₁ (fun vv s₂ B₂ dv S₂ l₂ y₂ r₂ h₂ => wpAny_bind (wpAny_standAt (wpAny_pure
    (h₂.use y₂ (fun vs s₃ B₃ ds S₃ l₃ y₃ r₃ q => ⟨B₃, (dk, dv) :: ds, S₃, (l₁.trans l₂).trans l₃, y₃, ⟨RepL.cons ((r₁.mono l₂).mono l₃) r₃.1, RepL.cons (r₂.mono l₃) r₃.2⟩, q⟩) fun _ _ p => (p.up l₂).up l₁))))
    fun _ _ p => p.up l₁)) fun _ _ p => p)
noncomputable def stoAll (l : List (K × D)) (m : List (K × D)) : List (K × D) := m.foldl (fun l p => sto l p.1 p.2) l
theorem KV.stoAll {B : PH} {m : List (K × D)} {r' : List (K × Value)} (y : KV B m r') : ∀ {l : List (K × D)} {r : List (K × Value)}, KV B l r → KV B (stoAll l m) (merged r r') := by
  induction y with
  | nil => exact fun x => x
  | cons a _ ih => exact fun x => ih (KV.sto x a)
theorem carries_of {B : PH} {toD : K → D} (hk : ∀ k, IsK knd (toD k) k) : ∀ (m : List (K × D)) (vs : List (Value × Value)), RepPr B vs (m.map fun p => (toD p.1, p.2)) → ∃ kvs, Carries knd vs kvs ∧ KV B m kvs
  | [], vs, h => by
    have := h.1
    simp only [List.map_nil, RepL] at this
    rw [List.map_eq_nil_iff] at this
    subst this
    exact ⟨[], trivial, .nil⟩
  | (k, d) :: m, vs, h => by
    obtain ⟨h1, h2⟩ := h
    cases vs with
    | nil => simp [RepL] at h1
    | cons v vs =>
      simp only [List.map_cons, RepL, List.cons.injEq] at h1 h2
      obtain ⟨a, b, ⟨rfl, rfl⟩, h3, h4⟩ := h1
      obtain ⟨a, b, ⟨rfl, rfl⟩, h5, h6⟩ := h2
      obtain ⟨kvs, h7, h8⟩ := carries_of hk m vs ⟨by simpa using h4, by simpa using h6⟩
      exact ⟨(k, v.2) :: kvs, ⟨hk k B _ h3, rfl, h7⟩, .cons h5 h8⟩
theorem Ev.dic (knd : KeyKind prog w K) {toD : K → D} (hk : ∀ k, IsK knd (toD k) k) {keys : List (Option Expr)} {values : List Expr} {pos : Pos} {pairs : List (Sem Value × Sem Value)}
    (hshape : (evalEachOpt keys env).zip ((evalEach values env).map fun v => do let x ← v; standAt pos; pure x) = pairs.map fun p => (some p.1, p.2)) (h0 : pairs ≠ []) (hlen : pairs.length ≤ 15)
    (h : ∀ a, Prs (model prog w) W A pairs ((a, .any (DKV knd [])) :: S) X fun ds S₁ => ∃ i m, S₁[i]? = some (a, .any (DKV knd [])) ∧ ds = m.map (fun p => (toD p.1, p.2)) ∧ Q (.raw (.ref a)) (S₁.set i (a, .any (DKV knd (stoAll [] m))))) :
    Ev (model prog w) W A env (.Dict keys values pos) S X Q := fun s B y => by
  have y₀ := y.newC (o := { cls := .type "dict", data := .dict #[] }) (c := .any (DKV knd [])) s.toks (.ofDic (Heap.DictOf.new _) .nil)
  refine wpAny_Dict_pairs (knd := knd) hshape h0 hlen ((h _).use y₀ (fun vs s₁ B₁ ds S₁ l₁ y₁ r₁ hh1 => ?_) fun _ _ p => p)
  obtain ⟨i, m, hi, hd, q⟩ := hh1
  subst hd
  obtain ⟨kvs, hc, hkv⟩ := carries_of hk m vs r₁
  obtain ⟨k0, hd0, hk0⟩ := (y₁.get hi).dic
  cases hk0
  refine ⟨kvs, hc, hd0, fun h' hd' hs' => ⟨B₁, _, _, l₁, y₁.turn hi hs'.extBut (.ofDic hd' (KV.stoAll hkv .nil)), rep_raw _, q⟩⟩
theorem Ev.dic0 (P : PH → Obj → Prop) (hP : ∀ B, P B { cls := .type "dict", data := .dict #[] }) {pos : Pos} (q : ∀ a, Q (.raw (.ref a)) (ins1 (a, .any P) S)) : Ev (model prog w) W A env (.Dict [] [] pos) S X Q := fun s B y => by
  refine wpAny_Dict_empty ⟨B, _, _, .refl B, ?_, rep_raw _, q _⟩
  have := y.newC (o := { cls := .type "dict", data := .dict #[] }) (c := .any P) s.toks ⟨_, Heap.get?_push_size _ rfl, B, .refl B, hP B⟩
  exact this.perm (ins1_perm _ _)
theorem dkv_new (knd : KeyKind prog w K) (B : PH) : DKV knd [] B { cls := .type "dict", data := .dict #[] } :=
  ⟨#[], 0, [], ⟨rfl, rfl, rfl⟩, rfl, fun _ he => by simp at he, .nil, List.nodup_nil, .nil⟩
end
end
section
set_option genInjectivity false
set_option genSizeOf false

noncomputable def InsO (C x dx : Addr) (o : Obj) : Prop := o.cls = .ref C ∧ o.dict = some dx ∧ dx ≠ x ∧ ∀ c, o.data ≠ .cls c
noncomputable abbrev insC (C x dx : Addr) : Cell := .other (InsO C x dx)
noncomputable def NsO (m : Str → Option Value) (o : Obj) : Prop := ∃ es ep, o.data = .dict es ep ∧ StrKeys es ∧ UniqKeys es ∧ ∀ name, nsFind es name = m name
noncomputable abbrev nsC (m : Str → Option Value) : Cell := .other (NsO m)
/-- an own class with nothing special -/
structure Own (W : Gd) (name : Str) where
  C : Addr
  N : Addr
  mN : Str → Option Value
  cls : ∃ nm q bs sn sub col dd k0 k1 k2 k3 k5, W.G.get? C = some (excClassObj nm q C N bs [.type "object"] true sn sub false col dd k0 k1 k2 k3 k5 "object.__new__")
  ns : W.G.Ns N mN
  noGa : mN "__getattribute__" = none
  noG : mN "__getattr__" = none
  noS : mN "__setattr__" = none
  gC : W.mg name = some (.ref C)

section
variable {prog : Program} {w : World} {W : Gd} {A : Around} {env : Env} {S : Sig} {X : Value → PH → Shared → Prop} {Q : D → Sig → Prop} {nm : Str}

theorem instOf {s : Shared} {B : PH} {C x dx : Addr} {mA : Str → Option Value} (y : St W s B S) (h1 : (x, insC C x dx) ∈ S) (h2 : (dx, nsC mA) ∈ S) : s.heap.Inst x C mA := by
  obtain ⟨a, ha, a1, a2, e, a3⟩ := y.cells _ h1
  obtain ⟨o, ho, es, ep, h3, h4, h5, h6⟩ := y.cells _ h2
  have ha : s.heap.get? x = some a := ha
  have ho : s.heap.get? dx = some o := ho
  exact ⟨a, ha, a1, a3, .inr ⟨dx, a2, e, o, es, ep, ho, h3, h4, h5, h6⟩⟩

theorem St.addC {s : Shared} {B : PH} {a : Addr} {c : Cell} (y : St W s B S) (hB : B a = none) (hS : ∀ p ∈ S, p.1 ≠ a) (hc : CellAt B s.heap a c) : St W s B ((a, c) :: S) := by
  refine ⟨y.gens, y.drawn, y.os, y.base, y.le, fun p hp => ?_, fun p hp => ?_, ?_⟩
  · rcases List.mem_cons.mp hp with rfl | hp
    · exact hc
    · exact y.cells p hp
  · rcases List.mem_cons.mp hp with rfl | hp
    · exact hB
    · exact y.apart p hp
  · rw [List.map_cons, List.nodup_cons]
    refine ⟨fun hm => ?_, y.nodup⟩
    obtain ⟨p, hp, e⟩ := List.mem_map.mp hm
    exact hS p hp e
theorem St.newAt {s : Shared} {B : PH} {a : Addr} (y : St W s B S) (hn : s.heap.get? a = none) : B a = none ∧ ∀ p ∈ S, p.1 ≠ a := by
  refine ⟨?_, fun p hp e => ?_⟩
  · cases q : B a with
    | none => rfl
    | some o => have := y.le _ _ q; rw [hn] at this; cases this
  · obtain ⟨o, ho⟩ := (y.cells p hp).some
    rw [e, hn] at ho
    cases ho
theorem Ev.attr (K : Own W nm) {o : Expr} {name : Str} {pos : Pos} (h : Ev (model prog w) W A env o S X fun d S₁ => ∃ x dx mA v, d = .raw (.ref x) ∧ (x, insC K.C x dx) ∈ S₁ ∧ (dx, nsC mA) ∈ S₁ ∧ mA name = some v ∧ handedOut v = pure v ∧ Q (.raw v) S₁)
    (hN : K.mN name = none) (hB : typeLookup (.type "object") name = pure none := by rw [typeLookup_type, builtinLookup_eq_fast]; kernel_rfl)
    (hbase : attributeBase o name env (eval o env) = eval o env := by rfl) (ht : ∀ v r, letTemporaryGo o v r = pure () := by intro _ _; rfl) : Ev (model prog w) W A env (.Attribute o name pos) S X Q := fun s B y => by
  rw [arm_eval_Attribute, hbase]
  obtain ⟨nm, q, bs, sn, sub, col, dd, k0, k1, k2, k3, k5, hC⟩ := K.cls
  refine wpAny_bind (h.use y (fun v s₁ B₁ d S₁ l₁ y₁ r₁ hh1 => ?_) fun _ _ p => p)
  obtain ⟨x, dx, mA, u, hd, hx, hdx, hm, hho, q⟩ := hh1
  subst hd
  obtain rfl := raw_inv r₁
  have I := instOf y₁ hx hdx
  obtain ⟨h1, g1, d1, t1, o1⟩ := s₁
  have gr := y₁.ground
  refine wpAny_bind (wpAny_standAt (wpAny_bind (wpAny_holding (load_attr (gr _ _ hC) (K.ns.keeps gr) K.noGa hN hB I hm hho ?_))))
  refine wpAny_bind (wpAny_of_eq (ht _ _) (wpAny_pure ⟨B₁, _, S₁, l₁, y₁.tok _, rep_raw _, q⟩))

theorem Ex.setattr (K : Own W nm) {o value : Expr} {name : Str} {p pos : Pos} {Q : Fl → Sig → Prop}
    (h : Ev (model prog w) W A env value S X fun dv S₁ => Ev (model prog w) W A env o S₁ X fun d S₂ => ∃ x dx mA v i, dv = .raw v ∧ d = .raw (.ref x) ∧ (x, insC K.C x dx) ∈ S₂ ∧ S₂[i]? = some (dx, nsC mA) ∧ (∃ ns, Within mA ns ∧ ns.length ≤ 100) ∧
      Q .next (S₂.set i (dx, nsC fun y => if y = name then some v else mA y)))
    (hN : K.mN name = none) (hB : typeLookup (.type "object") name = pure none := by rw [typeLookup_type, builtinLookup_eq_fast]; kernel_rfl)
    (hs : swapsWith value (some (.Attribute o name p)) pos.line env = pure false := by rfl) : Ex (model prog w) W A env (.Assign [.Attribute o name p] value pos) S X Q := fun s B y => by
  obtain ⟨nm, q, bs, sn, sub, col, dd, k0, k1, k2, k3, k5, hC⟩ := K.cls
  refine plainObj_wpAny_Assign_Attribute (h.use y (fun u s₁ B₁ dv S₁ l₁ y₁ r₁ h₁ => h₁.use y₁ (fun v s₂ B₂ d S₂ l₂ y₂ r₂ hh2 => ?_) fun _ _ p => p.up l₁) fun _ _ p => p) hs
  obtain ⟨x, dx, mA, v', i, hv, hd, hx, hdx, ⟨ns, hw, hl⟩, q⟩ := hh2
  subst hd hv
  obtain rfl := raw_inv r₂
  have e9 := raw_inv (Rep.mono l₂ r₁)
  subst e9
  have I := instOf y₂ hx (List.mem_of_getElem? hdx)
  obtain ⟨ox, hxo, b1, b2, b3, b4⟩ := y₂.cells _ hx
  have hxo : s₂.heap.get? x = some ox := hxo
  obtain ⟨h2, g2, d2, t2, o2⟩ := s₂
  have gr := y₂.ground
  refine store_attr F.store_object (gr _ _ hC) (K.ns.keeps gr) K.noS hN hB ?_ I (fun h' tk' I' hk hsame => ?_) hw (by unfold sizeLine; lia)
  · intro e
    have hxo : Heap.get? h2 x = _ := hxo
    rw [e, gr _ _ hC] at hxo
    cases hxo
    exact b4 _ rfl
  · obtain ⟨o₁, ho₁, e1, e2, e3, e4⟩ := hsame _ hxo
    have hoo : o₁ = ox := by
      have e5 := e4 dx b2
      obtain ⟨a, b, c, e⟩ := o₁
      obtain ⟨a', b', c', e'⟩ := ox
      simp only at e1 e2 e3 e5 b2
      rw [e1, e2, e3, e5, b2]
    subst hoo
    have hext : Heap.ExtBut dx h2 h' := fun b ob hb he => by
      by_cases hbx : b = x
      · subst hbx
        have hxo : Heap.get? h2 b = _ := hxo
        rw [hxo] at he
        cases he
        exact ho₁
      · refine hk b ob hbx (fun o₀ dx' h0 h1 => ?_) he
        have hxo : Heap.get? h2 x = _ := hxo
        rw [hxo] at h0
        cases h0
        rw [b2] at h1
        cases h1
        exact hb
    obtain ⟨oi, hoi, hci, _, hdi⟩ := I'
    rw [ho₁] at hoi
    cases hoi
    rcases hdi with ⟨hdn, _⟩ | ⟨dx', hdx', _, od, es, ep, h3, h4, h5, h6, h7⟩
    · rw [b2] at hdn
      cases hdn
    · rw [b2] at hdx'
      cases hdx'
      exact ⟨B₂, .next, _, l₁.trans l₂, y₂.turn (c' := nsC fun y => if y = name then some _ else mA y) hdx (tk := tk') hext ⟨od, h3, es, ep, h4, h5, h6, h7⟩, trivial, q⟩

/-- a method of an own class -/
theorem Ev.methI (K : Own W nm) {o : Expr} {name : Str} {apos pos : Pos} {args : List Expr} {f : Addr} {params : Arguments} {body : List Stmt} {scope : Scope} (hf : K.mN name = some (.ref f)) (hfn : FnAt W f params body scope) (hfc : ∃ of, W.G.get? f = some of ∧ of.cls = .type "function")
    (h : Ev (model prog w) W A env o S X fun d S₁ => ∃ x dx mA, d = .raw (.ref x) ∧ (x, insC K.C x dx) ∈ S₁ ∧ (dx, nsC mA) ∈ S₁ ∧ mA name = none ∧
      EvArgs (model prog w) W A env pos args S₁ X fun ds S₂ => OpL (model prog w) W A (fun vs => PySem.call (.ref f) vs) RepV (.raw (.ref x) :: ds) S₂ X Q)
    (hB : typeLookup (.type "object") name = pure none := by rw [typeLookup_type, builtinLookup_eq_fast]; kernel_rfl)
    (hbase : attributeBase o name env (eval o env) = eval o env := by rfl)
    (hfew : ((backTo pos (starEach args env)).all (fun x => !x.1) && (backToKw pos (keywordEach [] env)).all (fun x => x.1.isSome)
      && decide (args.length + ([] : List Keyword).length + (if ([] : List Keyword).isEmpty then 0 else 1) < 30)) = true := by rfl)
    (hline : (apos.endLine == pos.line) = true := by rfl) (hp : (backTo pos (starEach args env)).any (·.1) = false := by rfl) : Ev (model prog w) W A env (.Call (.Attribute o name apos) args [] pos) S X Q := fun s B y => by
  rw [arm_eval_Call, hbase]
  obtain ⟨nm, q, bs, sn, sub, col, dd, k0, k1, k2, k3, k5, hC⟩ := K.cls
  obtain ⟨oc, od, osl, name', qual, doc, pm, an, cdv, ct, ho, hcd⟩ := hfn.ex
  obtain ⟨of, hof, hofc⟩ := hfc
  refine wpAny_bind (h.use y (fun v s₁ B₁ d S₁ l₁ y₁ r₁ hh3 => ?_) fun _ _ p => p)
  obtain ⟨x, dx, mA, hd, hx, hdx, hm, hcw⟩ := hh3
  subst hd
  obtain rfl := raw_inv r₁
  have I := instOf y₁ hx hdx
  refine wpAny_bind (wpAny_standAt ?_)
  have hform : methodCallForm (args.length + ([] : List Keyword).length) (backTo pos (starEach args env)) (backToKw pos (keywordEach [] env)) = true := hfew
  have hpos : methodCallPos true o env apos pos = pure pos := by unfold methodCallPos; simp [hline]
  unfold methodCall
  rw [hform]
  have gr := y₁.ground
  have fin : wpAny (model prog w) A (callWith pos (.ref f) [.ref x] (backTo pos (starEach args env)) []) (Post W B RepV Q) (ExcP B X) s₁ := by
    refine callWith_function (o := ⟨oc, od, .func (fnOf name' qual params body scope .none .none doc pm an cdv ct), osl⟩) (fd := fnOf name' qual params body scope .none .none doc pm an cdv ct) (evalArgs_any hp (hcw.use y₁ (fun vs s₂ B₂ ds S₂ l₂ y₂ r₂ h₂ => ⟨⟨y₂.ground _ _ ho, rfl⟩, ?_⟩) fun _ _ p => p.up l₁))
    exact wpAny_mono (h₂ s₂ B₂ (.ref x :: vs) y₂ (RepL.cons (rep_raw _) r₂)) (fun _ _ p => (p.up l₂).up l₁) fun _ _ p => (p.up l₂).up l₁
  obtain ⟨h1, g1, d1, t1, o1⟩ := s₁
  refine wpAny_bind (wpAny_holding (method_of (gr _ _ hC) (K.ns.keeps gr) K.noGa K.noG hf (gr _ _ hof) hofc hB I hm ?_))
  exact wpAny_bind (wpAny_of_eq hpos fin)

/-- the class is called -/
theorem Cw.own (K : Own W nm) {pos : Pos} {f : Addr} (hf : K.mN "__init__" = some (.ref f)) (hfc : ∃ of, W.G.get? f = some of ∧ of.cls = .type "function")
    (h : ∀ x dx, OpL (model prog w) W (A.under (.builtin "type.__call__" ⟨[.ref K.C], []⟩)) (fun vs => PySem.call (.ref f) vs) RepV [.raw (.ref x)] ((dx, nsC fun _ => none) :: (x, insC K.C x dx) :: S) X fun d S₁ => d = .none ∧ Q (.raw (.ref x)) S₁) :
    Cw (model prog w) W A env pos (.ref K.C) [] [] S X Q := fun s B y => by
  obtain ⟨nm, q, bs, sn, sub, col, dd, k0, k1, k2, k3, k5, hC⟩ := K.cls
  obtain ⟨of, hof, hofc⟩ := hfc
  refine callWith_of (P := fun h => h.get? K.C = some (excClassObj nm q K.C K.N bs [.type "object"] true sn sub false col dd k0 k1 k2 k3 k5 "object.__new__")) rfl (fun h hp => ⟨.machine, .inr (.inl rfl), fun A Q E s k q => ?_⟩) (evalArgs_any rfl (spliced_nil ?_))
  · obtain ⟨hp1, g1, d1, t1, o1⟩ := s
    exact wpAny_keeperOf_exc (k _ _ hp) q
  have gr := y.ground
  obtain ⟨h0, g0, d0, t0, o0⟩ := s
  refine ⟨gr _ _ hC, wpAny_call_obj_init F.objNew (gr _ _ hC) (K.ns.keeps gr) hf (gr _ _ hof) hofc fun h' x dx hm => ?_⟩
  obtain ⟨ox, hxo, b1, b4, hdi⟩ := hm.inst
  rcases hdi with ⟨hdn, _⟩ | ⟨dx', hdx', hne, od, es, ep, h3, h4, h5, h6, h7⟩
  · rw [hm.dict _ hxo] at hdn
    cases hdn
  · rw [hm.dict _ hxo] at hdx'
    cases hdx'
    obtain ⟨n1, n2⟩ := y.newAt hm.newX
    obtain ⟨n3, n4⟩ := y.newAt hm.newD
    have y₁ := ((y.grow (h' := h') (tk := t0) hm.keeps).addC (c := insC K.C x dx) n1 n2 ⟨ox, hxo, b1, hm.dict _ hxo, hne, b4⟩).addC (a := dx) (c := nsC fun _ => none) n3 (fun p hp => by
      rcases List.mem_cons.mp hp with rfl | hp
      · exact fun e => hne e.symm
      · exact n4 p hp) ⟨od, h3, es, ep, h4, h5, h6, h7⟩
    exact wpAny_mono (h x dx _ B [.ref x] y₁ (RepL.one (rep_raw _))) (fun r s' hh4 => by
      obtain ⟨B', d, S', l', y', r', hd, q⟩ := hh4
      subst hd
      dsimp only [RepV, Rep] at r'
      exact ⟨r', B', _, S', l', y', rep_raw _, q⟩) fun _ _ p => p
end
end
section
noncomputable abbrev Atom := Str ⊕ Int
noncomputable def Atom.is (w : World) : Atom → Value → Bool
  | .inl x, v => Value.isStrOf x v
  | .inr i, v => Value.isInt i v
noncomputable def Atom.hash (w : World) : Atom → Int
  | .inl x => hashStr w x
  | .inr i => hashInt i
noncomputable def Atom.toD : Atom → D
  | .inl x => .str x
  | .inr i => .int i
noncomputable def atomKind (prog : Program) (w : World) : KeyKind prog w Atom where
  is := Atom.is w
  hash := Atom.hash w
  inj := fun v a b ha hb => by
    cases a <;> cases b <;> dsimp only [Atom.is] at ha hb
    · rw [Value.isStrOf_inj v _ _ ha hb]
    · obtain ⟨t, rfl⟩ := Value.isStrOf_shape ha; simp [Value.isInt] at hb
    · obtain ⟨t, rfl⟩ := Value.isStrOf_shape hb; simp [Value.isInt] at ha
    · rw [Value.isInt_inj v _ _ ha hb]
  byValue := fun k v h => by
    cases k <;> dsimp only [Atom.is] at h
    · obtain ⟨t, rfl⟩ := Value.isStrOf_shape h; rfl
    · obtain ⟨t, rfl⟩ := Value.isInt_shape h; rfl
  pyHash := fun {A E s k v Q} hv h => by
    cases k <;> dsimp only [Atom.is] at hv
    · obtain ⟨t, rfl⟩ := Value.isStrOf_shape hv; exact wpAny_pyHash_str h
    · obtain ⟨t, rfl⟩ := Value.isInt_shape hv; exact wpAny_pyHash_int h
  eqBool := fun {A E s a b u v Q} hu hv h => by
    cases a <;> cases b <;> dsimp only [Atom.is] at hu hv
    · obtain ⟨t, rfl⟩ := Value.isStrOf_shape hu
      obtain ⟨t', rfl⟩ := Value.isStrOf_shape hv
      rename_i x y
      refine wpAny_eqBool_str ?_
      rw [show decide (Sum.inl x = (Sum.inl y : Atom)) = decide (x = y) by simp] at h
      exact h
    · obtain ⟨t, rfl⟩ := Value.isStrOf_shape hu
      obtain ⟨t', rfl⟩ := Value.isInt_shape hv
      exact SeqAt.EqAt.str_int _ _ _ _ _ _ _ _ (by simpa using h)
    · obtain ⟨t, rfl⟩ := Value.isInt_shape hu
      obtain ⟨t', rfl⟩ := Value.isStrOf_shape hv
      exact SeqAt.EqAt.int_str _ _ _ _ _ _ _ _ (by simpa using h)
    · obtain ⟨t, rfl⟩ := Value.isInt_shape hu
      obtain ⟨t', rfl⟩ := Value.isInt_shape hv
      rename_i x y
      refine wpAny_eqBool_int ?_
      rw [show decide (Sum.inr x = (Sum.inr y : Atom)) = (x == y) by simp [BEq.beq]] at h
      exact h
  «strs» := fun k x t v h => by
    cases k <;> dsimp only [Atom.is] at h ⊢
    · obtain ⟨u, hu⟩ := Value.isStrOf_shape h
      injection hu with hx
      subst hx
      cases v <;> rfl
    · simp [Value.isInt] at h

section
variable {prog : Program} {w : World}
theorem items_of {B : PH} : ∀ {ks : List Atom} {vs : List Value}, RepL B (ks.map Atom.toD) vs → ItemsAre (atomKind prog w) ks vs
  | [], vs, h => by simp only [List.map_nil, RepL] at h; subst h; exact .nil
  | k :: ks, vs, h => by
    simp only [List.map_cons, RepL] at h
    obtain ⟨v, r, rfl, h1, h2⟩ := h
    refine .cons ?_ (items_of h2)
    cases k with
    | inl x => dsimp only [Atom.toD] at h1; obtain ⟨t, rfl⟩ := str_inv h1; show Atom.is w (.inl x) (.str x t) = true; simp [Atom.is, Value.isStrOf]
    | inr i => dsimp only [Atom.toD] at h1; obtain ⟨t, rfl⟩ := int_inv h1; show Atom.is w (.inr i) (.int i t) = true; simp [Atom.is, Value.isInt]
noncomputable abbrev keyD (ks : List Atom) : D := .tup (ks.map Atom.toD)
/-- a table with tuples of atoms for keys -/
noncomputable def DKH (prog : Program) (w : World) (l : List (List Atom × D)) : PH → Obj → Prop := fun B o =>
  ∃ (es : Array DictEntry) (ep : Nat) (xs : List (List Atom × Addr × Value)), o.ExactDict ∧ o.data = .dict es ep ∧ es.toList = xs.map (entryOfKey (tupleKind (atomKind prog w))) ∧
    (∀ x ∈ xs, Rep B (keyD x.1) (.ref x.2.1)) ∧ (xs.map (·.1)).Nodup ∧ KV B l (kvsOf xs)
theorem key_is {s : Shared} {B : PH} {W : Gd} {S : Sig} (y : St W s B S) {ks : List Atom} {a : Addr} (h : Rep B (keyD ks) (.ref a)) : IsTupleKey (atomKind prog w) s.heap ks a := by
  dsimp only [Rep] at h
  obtain ⟨a', xs, n, e, h1, h2⟩ := h
  cases e
  exact ⟨_, xs, n, y.le _ _ h1, rfl, rfl, items_of h2⟩
theorem CellAt.dkh {s : Shared} {B : PH} {W : Gd} {S : Sig} {a : Addr} {l : List (List Atom × D)} (y : St W s B S) (x : CellAt B s.heap a (.any (DKH prog w l))) :
    ∃ xs, s.heap.DictOfH (tupleKind (atomKind prog w)) a xs ∧ (∀ x ∈ xs, Rep B (keyD x.1) (.ref x.2.1)) ∧ KV B l (kvsOf xs) := by
  obtain ⟨o, ho, _, hb, es, ep, xs, h1, h2, h3, h4, h5, h6⟩ := x
  exact ⟨xs, ⟨o, es, ep, ho, h1, h2, h3, fun x hx => key_is y ((h4 x hx).mono hb), h5⟩, fun x hx => (h4 x hx).mono hb, h6.mono hb⟩
theorem dkh_new (B : PH) : DKH prog w [] B { cls := .type "dict", data := .dict #[] } :=
  ⟨#[], 0, [], ⟨rfl, rfl, rfl⟩, rfl, rfl, fun _ hx => by simp at hx, List.nodup_nil, .nil⟩
theorem storedH_mem {K : Type} [DecidableEq K] {xs : List (K × Addr × Value)} {k : K} {a : Addr} {v : Value} {x : K × Addr × Value} (h : x ∈ storedH xs k a v) : (∃ z ∈ xs, x.1 = z.1 ∧ x.2.1 = z.2.1) ∨ (x.1 = k ∧ x.2.1 = a) := PyProof.Rows.mem_storedH h

variable {W : Gd} {A : Around} {env : Env} {S : Sig} {X : Value → PH → Shared → Prop} {Q : D → Sig → Prop}
theorem ref_of_key {B : PH} {ks : List Atom} {u : Value} (h : Rep B (keyD ks) u) : ∃ a, u = .ref a := by
  dsimp only [Rep] at h
  obtain ⟨a, _, _, e, _⟩ := h
  exact ⟨a, e⟩
theorem Op2.item_dkh {value slice : Expr} {a : Addr} {l : List (List Atom × D)} {e : D} {k : List Atom} (hu : A.units + 64 < cLine) (hm : (a, .any (DKH prog w l)) ∈ S) (hl : lk l k = some e) (q : Q e S) :
    Op2 (model prog w) W A (subscriptTail value slice) RepV (.raw (.ref a)) (keyD k) S X Q := fun s B v u y r₁ r₂ => by
  obtain rfl := raw_inv r₁
  obtain ⟨ka, rfl⟩ := ref_of_key r₂
  obtain ⟨ops, hs⟩ := sub_ops slice (.ref a) (.ref ka)
  obtain ⟨xs, hd, _, hkv⟩ := CellAt.dkh y (y.cells _ hm)
  rcases hkv.lk k with ⟨h1, _⟩ | ⟨e', v', h1, h2, h3⟩
  · rw [hl] at h1; cases h1
  · rw [hl] at h1; cases h1
    refine tail_any (T := "dict") hd.typeIs slot_dict_getitem.lookup ?_ hs
    rw [valueAt_kvsOf] at h2
    cases hk : atKey xs k with
    | none => rw [hk] at h2; cases h2
    | some p =>
      rw [hk] at h2
      cases h2
      exact wpAny_getItem_heap (knd := tupleKind (atomKind prog w)) (show A.in1.units < cLine by show A.units + 1 < _; lia) (key_is y r₂) hd hk ⟨B, e, S, .refl B, y.tok _, h3, q⟩
theorem Op3.setitem_dkh {a : Addr} {l : List (List Atom × D)} {e : D} {k : List Atom} {j : Nat} {Q : Sig → Prop} (hu : A.units + 64 < cLine) (hj : S[j]? = some (a, .any (DKH prog w l))) (hz : l.length ≤ sizeLine) (q : Q (S.set j (a, .any (DKH prog w (sto l k e))))) :
    Op3 (model prog w) W A setItem (.raw (.ref a)) (keyD k) e S X Q := fun s B v u x y r₁ r₂ r₃ => by
  obtain rfl := raw_inv r₁
  obtain ⟨ka, rfl⟩ := ref_of_key r₂
  obtain ⟨xs, hd, hxs, hkv⟩ := CellAt.dkh y (y.get hj)
  have hlen : xs.length = l.length := by have := hkv.length; unfold kvsOf at this; rwa [List.length_map] at this
  refine wpAny_setItem_heap (knd := tupleKind (atomKind prog w)) (show A.in1.units < cLine by show A.units + 1 < _; lia) (key_is y r₂) hd (fun h' hd' hs' => ?_) (by rw [hlen]; exact hz)
  obtain ⟨o, es, ep, ho, h1, h2, h3, h4, h5⟩ := hd'
  refine ⟨B, (), _, .refl B, y.turn hj (tk := _) (c' := .any (DKH prog w (sto l k e))) hs'.extBut ⟨o, ho, B, .refl B, es, ep, _, h1, h2, h3, fun z hz => ?_, h5, ?_⟩, trivial, q⟩
  · rcases storedH_mem hz with ⟨z', hz', e1, e2⟩ | ⟨e1, e2⟩
    · rw [e1, e2]; exact hxs z' hz'
    · rw [e1, e2]; exact r₂
  · rw [kvsOf_storedH]; exact hkv.sto r₃
theorem Op2.in_dkh (sm : SMod W) {a : Addr} {l : List (List Atom × D)} {k : List Atom} (hu : A.units + 64 < cLine) (hm : (a, .any (DKH prog w l)) ∈ S) (q : Q (.bool (lk l k).isSome) S) :
    Op2 (model prog w) W A (compareOp .In) RepV (keyD k) (.raw (.ref a)) S X Q := fun s B v u y r₁ r₂ => by
  obtain rfl := raw_inv r₂
  obtain ⟨ka, rfl⟩ := ref_of_key r₁
  obtain ⟨xs, hd, _, hkv⟩ := CellAt.dkh y (y.cells _ hm)
  refine wpAny_in_heap (knd := tupleKind (atomKind prog w)) (show A.in1.units < cLine by show A.units + 1 < _; lia) (key_is y r₁) (sm.ne y hm) hd ?_
  rcases hkv.lk k with ⟨h1, h2⟩ | ⟨e', v', h1, h2, h3⟩ <;> rw [valueAt_kvsOf] at h2 <;> cases hk : atKey xs k with
    | none => rw [hk] at h2; first | (rw [h1] at q; exact ⟨B, _, S, .refl B, y.tok _, rep_bool _, q⟩) | cases h2
    | some p => rw [hk] at h2; first | (rw [h1] at q; exact ⟨B, _, S, .refl B, y.tok _, rep_bool _, q⟩) | cases h2
end
end
section
theorem ints_items {B : PH} : ∀ {ns : List Int} {vs : List Value}, RepL B (ns.map .int) vs → ∃ zs : List (Int × Tok), vs = zs.map (fun p => .int p.1 p.2) ∧ zs.map (·.1) = ns
  | [], vs, h => by simp only [List.map_nil, RepL] at h; subst h; exact ⟨[], rfl, rfl⟩
  | n :: ns, vs, h => by
    simp only [List.map_cons, RepL] at h
    obtain ⟨v, r, rfl, h1, h2⟩ := h
    obtain ⟨t, rfl⟩ := int_inv h1
    obtain ⟨zs, rfl, h3⟩ := ints_items h2
    exact ⟨(n, t) :: zs, rfl, by simp [h3]⟩
theorem rep_intB (B : PH) (i : Int) (t : Tok) : Rep B (.int i) (.int i t) := by dsimp only [Rep]; exact ⟨t, rfl⟩
theorem ints_rep {B : PH} : ∀ {ns : List Int} {vs : List Value}, IntsAre vs ns → RepL B (ns.map .int) vs := by
  intro ns vs h
  induction h with
  | nil => simp [RepL]
  | cons => exact RepL.cons (rep_intB B _ _) (by assumption)
section
variable {prog : Program} {w : World} {W : Gd} {A : Around} {env : Env} {S : Sig} {X : Value → PH → Shared → Prop} {Q : D → Sig → Prop}
theorem Op.sum (hh : A.handled = none) {ns : List Int} (q : Q (.int ns.sum) S) : OpL (model prog w) W A (fun vs => call (.builtin "sum") ([] ++ vs)) RepV [.lst (ns.map .int)] S X Q := fun s B vs y r => by
  dsimp only [RepL, Rep] at r
  obtain ⟨v, us, rfl, ⟨a, xs, n, rfl, ha, hr⟩, rfl⟩ := r
  obtain ⟨zs, hz, hn⟩ := ints_items hr
  have hx : xs = intItems zs.toArray := by
    unfold intItems
    rw [← Array.toList_inj, hz]
    simp
  subst hx
  refine PySem.sum_intListG hh (xs := zs.toArray) ⟨_, y.le _ _ ha, rfl, n, rfl⟩ fun h' tk t' hk => ⟨B, _, S, .refl B, y.grow hk, ?_, q⟩
  rw [preSum_eq, List.take_of_length_le (by simp), show zs.toArray.toList = zs from rfl, hn]
  exact rep_intB _ _ _
theorem Op.max (hh : A.handled = none) {ns : List Int} (hne : ns ≠ []) (q : ∀ M, M ∈ ns → (∀ a ∈ ns, a ≤ M) → Q (.int M) S) : OpL (model prog w) W A (fun vs => call (.builtin "max") ([] ++ vs)) RepV [.lst (ns.map .int)] S X Q := fun s B vs y r => by
  dsimp only [RepL, Rep] at r
  obtain ⟨v, us, rfl, ⟨a, xs, n, rfl, ha, hr⟩, rfl⟩ := r
  obtain ⟨zs, hz, hn⟩ := ints_items hr
  have hx : xs = intItems zs.toArray := by
    unfold intItems
    rw [← Array.toList_inj, hz]
    simp
  subst hx
  have hsz : 0 < zs.toArray.size := by
    rw [List.size_toArray]
    cases zs with
    | nil => simp at hn; exact absurd hn hne
    | cons _ _ => simp
  refine max_intList hh (xs := zs.toArray) ⟨_, y.le _ _ ha, rfl, n, rfl⟩ hsz fun v h' tk hv hk => ?_
  obtain ⟨t, rfl⟩ := intItems_at hv
  obtain ⟨h1, h2⟩ := argBest_gt (numAt zs.toArray) (zs.toArray.size - 1)
  refine ⟨B, _, S, .refl B, y.grow hk, rep_intB _ _ _, q _ ?_ fun a ha => ?_⟩
  · rw [numAt_eq, ← hn]; exact getD_mem (by rw [List.length_map]; show _ < zs.length; have e0 : zs.toArray.size = zs.length := List.size_toArray ..; lia)
  · rw [← hn] at ha
    obtain ⟨j, hj, rfl⟩ := mem_getD ha
    rw [List.length_map] at hj
    have := h2 j (by have e0 : zs.toArray.size = zs.length := List.size_toArray ..; lia)
    rw [numAt_eq] at this
    exact this
/-- sorted, over a table of numbers -/
theorem Op.sorted_dic (sm : SMod W) (hh : A.handled = none) {l : List (Int × D)} {a : Addr} (hm : (a, .any (DKV (intKind prog w) l)) ∈ S) (h64 : l.length < 64)
    (q : ∀ ns : List Int, ns.Perm (l.map (·.1)) → ns.Pairwise (· ≤ ·) → Q (.lst (ns.map .int)) S) : OpL (model prog w) W A (fun vs => call (.builtin "sorted") ([] ++ vs)) RepV [.raw (.ref a)] S X Q := fun s B vs y r => by
  dsimp only [RepL, Rep] at r
  obtain ⟨v, us, rfl, rfl, rfl⟩ := r
  obtain ⟨kvs, hd, hkv⟩ := (y.cells _ hm).dic
  have hlen := hkv.length
  obtain ⟨ep, hat⟩ := hd.dictAt
  refine call_function_entry kind_sorted plain_sorted entry_sorted (args_sorted1 _) ?_
  unfold Builtin.«sorted»
  refine wpAny_bind (m := checkCount "sorted" 1 1 _) (wpAny_pure ?_)
  refine wpAny_bind (kdu_collect (A := A.in1) (kdl_dict (knd := intKind prog w) (kvs := kvs) (ep := ep) (sm.ne y hm)) hh hat (by rw [hlen]; unfold sizeLine; lia) fun h' tk acc hk hacc => ?_)
  have hl : acc.toList.length = kvs.length := by rw [Array.length_toList]; exact hacc.1
  refine wpAny_bind (wpAny_newList ?_ (by rw [hl, hlen]; unfold sizeLine; lia))
  have hI : IntsAre acc.toList (kvs.map (·.1)) := by
    have key : ∀ (vs : List Value) (ks : List Int), vs.length = ks.length → (∀ (j : Nat) (v : Value), vs[j]? = some v → ∃ k t, ks[j]? = some k ∧ v = Value.int k t) → IntsAre vs ks := by
      intro vs
      induction vs with
      | nil => intro ks hl _; cases ks with | nil => exact .nil | cons _ _ => cases hl
      | cons v vs ih =>
        intro ks hl hv
        cases ks with
        | nil => cases hl
        | cons k ks =>
          obtain ⟨k', t, h1, rfl⟩ := hv 0 v rfl
          simp only [List.getElem?_cons_zero, Option.some.injEq] at h1
          subst h1
          exact .cons _ _ (ih ks (by simpa using hl) fun j u hu => by simpa using hv (j + 1) u (by simpa using hu))
    refine key _ _ (by rw [hl, List.length_map]) fun j v hv => ?_
    obtain ⟨k, x, h1, h2⟩ := hacc.2 j v (by rw [← Array.getElem?_toList]; exact hv)
    obtain ⟨t, rfl⟩ := Value.isInt_shape h2
    exact ⟨k, t, by rw [List.getElem?_map, h1]; rfl, rfl⟩
  have hoL : (h'.push (seqObj "list" acc.toList.toArray 0)).get? h'.objs.size = some (seqObj "list" acc.toList.toArray 0) := Heap.get?_push_size _ rfl
  refine wpAny_bind (wpAny_holding (wpAny_call_entry slot_list_sort ⟨_, hoL, rfl⟩ entry_list_sort (list_sort_tree hoL hI (by rw [hl, hlen]; exact h64) fun out ns' a1 a2 a3 => ⟨_, rfl, ?_⟩) (args_list_sort _)))
  refine wpAny_pure ⟨_, rfl, ?_⟩
  obtain ⟨e, he⟩ := sortedHeap_at (out := out) hoL
  have hold : ∀ b o, s.heap.get? b = some o → (sortedHeap (h'.push (seqObj "list" acc.toList.toArray 0)) h'.objs.size acc.toList out).get? b = some o := fun b o e => by
    have hb := hk b o e
    have hlt := Heap.lt_size hb
    rw [sortedHeap_old (Nat.ne_of_lt hlt) (by rw [size_push']; exact Nat.lt_succ_of_lt hlt)]
    exact Heap.get?_push_of_some _ hb
  have hnew : s.heap.get? h'.objs.size = none := by
    cases q : s.heap.get? h'.objs.size with
    | none => rfl
    | some o => exact absurd (Heap.lt_size (hk _ _ q)) (Nat.lt_irrefl _)
  obtain ⟨n1, n2⟩ := y.newAt hnew
  have y₁ := (y.grow (tk := tk) hold).addP he n1 n2
  exact ⟨_, .lst (ns'.map .int), S, St.add_le n1, y₁, by dsimp only [RepV, Rep]; exact ⟨_, out, e, rfl, St.add_self, ints_rep a1⟩, q _ (a2.trans (by rw [hkv.keys])) a3⟩

/-! while -/
noncomputable abbrev WhQ (I : Nat → Sig → Prop) (n : Nat) (Q : Fl → Sig → Prop) : Fl → Sig → Prop := fun f S₂ => match f with
  | .next | .cont => ∃ m, m < n ∧ I m S₂
  | .brk => Q .next S₂
  | .ret d => Q (.ret d) S₂
theorem Ex.while_ {test : Expr} {body orelse : List Stmt} {pos : Pos} {Q : Fl → Sig → Prop} (I : Nat → Sig → Prop) (h0 : ∃ n, I n S)
    (turn : ∀ n S, I n S → Te (model prog w) W A env test S X fun b S₁ => if b then Exs (model prog w) W A env body S₁ X (WhQ I n Q)
      else Exs (model prog w) W A env orelse S₁ X Q)
    (hX : ∀ B, PassesOwn (model prog w) A env (ExcP B X)) : Ex (model prog w) W A env (.While test body orelse pos) S X Q := by
  have key : ∀ n S s B, I n S → St W s B S → WhlRest prog w A (ExcP B X) env test body orelse (Post W B RepF Q) n s := by
    intro n
    induction n using Nat.strongRecOn with
    | ind n ih =>
    intro S s B hI y
    show WhlRest prog w A (ExcP B X) env test body orelse (Post W B RepF Q) (n + 1) s
    refine whl_turn (hX B) ((turn n S hI).use y (fun b s₁ B₁ b' S₁ l₁ y₁ r₁ h₁ => ?_) fun _ _ p => p)
    cases r₁
    cases b with
    | false =>
      rw [if_neg (by decide)] at h₁
      exact WhlIf.no rfl (h₁.use y₁ (fun _ _ B₂ f S₂ l₂ y₂ r₂ q => ⟨B₂, f, S₂, l₁.trans l₂, y₂, r₂, q⟩) fun _ _ p => p.up l₁)
    | true =>
      rw [if_pos rfl] at h₁
      refine WhlIf.yes rfl (h₁.use y₁ (fun fl s₂ B₂ f S₂ l₂ y₂ r₂ q => ?_) fun _ _ p => p.up l₁)
      have again : (∃ m, m < n ∧ I m S₂) → WhlRest prog w A (ExcP B X) env test body orelse (Post W B RepF Q) n s₂ := fun hh1 => by
        obtain ⟨m, hm, hI'⟩ := hh1
        refine codeAny_mono (ih m hm S₂ s₂ B₂ hI' y₂) fun r s' hr => ?_
        cases r with
        | ok f => exact hr.up (l₁.trans l₂)
        | error e =>
          unfold cameBackBy at hr ⊢
          exact wpAny_mono hr (fun _ _ p => p.up (l₁.trans l₂)) fun _ _ p => p.up (l₁.trans l₂)
      cases fl <;> cases f <;> dsimp only [RepF] at r₂ <;> (try dsimp only at q) <;> first
        | exact False.elim r₂
        | exact again q
        | exact ⟨B₂, .next, S₂, l₁.trans l₂, y₂, trivial, q⟩
        | exact ⟨B₂, .ret _, S₂, l₁.trans l₂, y₂, r₂, q⟩
  obtain ⟨n, hn⟩ := h0
  exact fun s B y => whl_start n (key n S s B hn y)

/-! tuples assigned -/
theorem Ex.assignT {elts : List Expr} {k : Nat} {tpos pos : Pos} {value : Expr} {Q : Fl → Sig → Prop} (h : Ev (model prog w) W A env value S X fun d S₁ => Sto (model prog w) W A env (.Tuple elts k tpos) d S₁ X fun _ => Q .next)
    (hs : swapsWithSole [.Tuple elts k tpos] value pos.line env = pure false := by rfl)
    (hw : swappedStores [.Tuple elts k tpos] value env = pure none := by rfl) : Ex (model prog w) W A env (.Assign [.Tuple elts k tpos] value pos) S X Q := fun s B y =>
  Assign_Tuple (h.use y (fun v s₁ B₁ d S₁ l₁ y₁ r₁ h₁ => wpAny_mono (h₁ s₁ B₁ v y₁ r₁) (fun _ _ hh2 => (by obtain ⟨B₂, _, S₂, l₂, y₂, _, q⟩ := hh2; exact ⟨B₂, .next, S₂, l₁.trans l₂, y₂, trivial, q⟩)) fun _ _ p => p.up l₁) fun _ _ p => p) hs hw
theorem Ex.assignS2 (hh : A.handled = none) {x1 x2 : Str} {elts : List Expr} {k : Nat} {tpos pos : Pos} {value : Expr} {Q : Fl → Sig → Prop}
    (h : Ev (model prog w) W A env value S X fun d S₁ => ∃ d1 d2, d = .tup [d1, d2] ∧ StoN (model prog w) W A env x2 d2 S₁ X fun _ S₂ => StoN (model prog w) W A env x1 d1 S₂ X fun _ => Q .next)
    (hs : swapsWithSole [.Tuple elts k tpos] value pos.line env = pure false := by rfl)
    (hw : swappedStores [.Tuple elts k tpos] value env = pure (some [x1, x2]) := by rfl) : Ex (model prog w) W A env (.Assign [.Tuple elts k tpos] value pos) S X Q := fun s B y =>
  Assign_Tuple_swapped (names := [x1, x2]) (h.use y (fun v s₁ B₁ d S₁ l₁ y₁ r₁ hh3 => by
    obtain ⟨d1, d2, hd, h₁⟩ := hh3
    subst hd
    dsimp only [RepV, Rep] at r₁
    obtain ⟨a, xs, n, rfl, ha, hr⟩ := r₁
    dsimp only [RepL] at hr
    obtain ⟨v1, us, hx, r1, v2, us2, rfl, r2, rfl⟩ := hr
    have hsz : xs.size = 2 := by rw [← Array.length_toList, hx]; rfl
    show wpAny _ A (unpackItems (.ref a) 2 none) _ _ _
    rw [← hsz]
    refine unpackItems_tuple hh ⟨_, y₁.le _ _ ha, rfl, n, rfl⟩ fun h' hx' => ?_
    rw [hx]
    show wpAny _ A (do holding [v1] (bindName env x2 v2); do holding [] (bindName env x1 v1); pure ()) _ _ _
    have y' := y₁.grow (h' := h') (tk := s₁.toks) fun b o e => hx' b o (Nat.ne_of_lt (Heap.lt_size e)) e
    refine wpAny_bind (wpAny_holding (bindName_ (wpAny_mono (h₁ _ B₁ v2 y' r2) (fun _ s₂ hh4 => ?_) fun _ _ p => p.up l₁)))
    obtain ⟨B₂, _, S₂, l₂, y₂, _, h₂⟩ := hh4
    exact wpAny_bind (wpAny_holding (bindName_ (wpAny_mono (h₂ s₂ B₂ v1 y₂ (r1.mono l₂)) (fun _ s₃ hh5 => (by obtain ⟨B₃, _, S₃, l₃, y₃, _, q⟩ := hh5; exact wpAny_pure ⟨B₃, .next, S₃, (l₁.trans l₂).trans l₃, y₃, trivial, q⟩)) fun _ _ p => (p.up l₂).up l₁)))) fun _ _ p => p) hs hw
theorem Sto.tup3 (hh : A.handled = none) {x1 x2 x3 : Str} {p1 p2 p3 : Pos} {k : Nat} {pos : Pos} {d1 d2 d3 : D} {Q : Unit → Sig → Prop}
    (h : Sto (model prog w) W A env (.Name x1 p1) d1 S X fun _ S₁ => Sto (model prog w) W A env (.Name x2 p2) d2 S₁ X fun _ S₂ => Sto (model prog w) W A env (.Name x3 p3) d3 S₂ X Q) :
    Sto (model prog w) W A env (.Tuple [.Name x1 p1, .Name x2 p2, .Name x3 p3] k pos) (.tup [d1, d2, d3]) S X Q := fun s B v y r => by
  dsimp only [Rep] at r
  obtain ⟨a, xs, n, rfl, ha, hr⟩ := r
  dsimp only [RepL] at hr
  obtain ⟨v1, us, hx, r1, v2, us2, rfl, r2, v3, us3, rfl, r3, rfl⟩ := hr
  have hsz : xs.size = 3 := by rw [← Array.length_toList, hx]; rfl
  refine wpAny_assign_Tuple hh ⟨_, y.le _ _ ha, rfl, n, rfl⟩ (by rw [hsz]; rfl) rfl fun h' hx' => ?_
  rw [hx]
  show wpAny _ A (do holding [v2, v3] (assign (.Name x1 p1) env v1); do holding [v3] (assign (.Name x2 p2) env v2); do holding [] (assign (.Name x3 p3) env v3); pure ()) _ _ _
  have y' := y.grow (h' := h') (tk := s.toks) fun b o e => hx' b o (Nat.ne_of_lt (Heap.lt_size e)) e
  refine wpAny_bind (wpAny_holding (wpAny_mono (h _ B v1 y' r1) (fun _ s₁ hh6 => ?_) fun _ _ p => p))
  obtain ⟨B₁, _, S₁, l₁, y₁, _, h₁⟩ := hh6
  refine wpAny_bind (wpAny_holding (wpAny_mono (h₁ s₁ B₁ v2 y₁ (r2.mono l₁)) (fun _ s₂ hh7 => ?_) fun _ _ p => p.up l₁))
  obtain ⟨B₂, _, S₂, l₂, y₂, _, h₂⟩ := hh7
  exact wpAny_bind (wpAny_holding (wpAny_mono (h₂ s₂ B₂ v3 y₂ ((r3.mono l₁).mono l₂)) (fun _ s₃ p => wpAny_pure ((p.up l₂).up l₁)) fun _ _ p => (p.up l₂).up l₁))
end
end
section
open PySem PySem.SetTable

noncomputable def Inc (xs : Array Nat) : Prop := ∀ i k : Nat, i < k → k < xs.size → xs.getD i 0 < xs.getD k 0

theorem below_go (xs : Array Nat) (hI : Inc xs) (j : Nat) : ∀ (f lo hi : Nat), hi ≤ lo + f → lo ≤ hi → hi ≤ xs.size →
    (∀ i, i < lo → xs.getD i 0 < j) → (∀ i, hi ≤ i → i < xs.size → j ≤ xs.getD i 0) →
    (below.go xs j f lo hi ≤ xs.size ∧ (∀ i, i < below.go xs j f lo hi → xs.getD i 0 < j) ∧ (∀ i, below.go xs j f lo hi ≤ i → i < xs.size → j ≤ xs.getD i 0)) := by
  intro f
  induction f with
  | zero =>
    intro lo hi hf hl hh h1 h2
    have : lo = hi := Nat.le_antisymm hl hf
    subst this
    exact ⟨hh, h1, h2⟩
  | succ f ih =>
    intro lo hi hf hl hh h1 h2
    unfold below.go
    by_cases hlt : lo < hi
    · rw [if_pos hlt]
      have hm : (lo + hi) / 2 < hi := by lia
      have hm' : lo ≤ (lo + hi) / 2 := by lia
      have he : xs.getD ((lo + hi) / 2) j = xs.getD ((lo + hi) / 2) 0 := by
        simp [Array.getD, show (lo + hi) / 2 < xs.size by lia]
      dsimp only
      rw [he]
      clear he
      generalize (lo + hi) / 2 = mid at *
      by_cases hc : xs.getD mid 0 < j
      · rw [if_pos hc]
        refine ih _ _ (by lia) (by lia) hh (fun i hi' => ?_) h2
        rcases Nat.eq_or_lt_of_le (Nat.le_of_lt_succ hi') with e | e
        · rw [e]; exact hc
        · exact Nat.lt_trans (hI i _ e (Nat.lt_of_lt_of_le hm hh)) hc
      · rw [if_neg hc]
        refine ih _ _ (by lia) hm' (Nat.le_trans (Nat.le_of_lt hm) hh) h1 (fun i hi' hs => ?_)
        rcases Nat.eq_or_lt_of_le hi' with e | e
        · rw [← e]; exact Nat.le_of_not_lt hc
        · exact Nat.le_trans (Nat.le_of_not_lt hc) (Nat.le_of_lt (hI mid i e hs))
    · rw [if_neg hlt]
      have : lo = hi := Nat.le_antisymm hl (Nat.le_of_not_lt hlt)
      subst this
      exact ⟨hh, h1, h2⟩

theorem below_spec (xs : Array Nat) (hI : Inc xs) (j : Nat) :
    below xs j ≤ xs.size ∧ (∀ i, i < below xs j → xs.getD i 0 < j) ∧ (∀ i, below xs j ≤ i → i < xs.size → j ≤ xs.getD i 0) :=
  below_go xs hI j xs.size 0 xs.size (Nat.le_add_left ..) (Nat.zero_le _) (Nat.le_refl _) (fun _ h => absurd h (Nat.not_lt_zero _)) (fun _ h h' => absurd h' (Nat.not_lt_of_le h))

theorem getD_some {xs : Array Nat} {i j : Nat} (h : xs[i]? = some j) : i < xs.size ∧ xs.getD i 0 = j := by
  obtain ⟨hi, e⟩ := Array.getElem?_eq_some_iff.mp h
  exact ⟨hi, by simp [Array.getD, hi, e]⟩

theorem some_getD {xs : Array Nat} {i : Nat} (h : i < xs.size) : xs[i]? = some (xs.getD i 0) := by
  simp [Array.getD, h]

theorem below_at (xs : Array Nat) (hI : Inc xs) {i j : Nat} (h : xs[i]? = some j) : below xs j = i := by
  obtain ⟨hi, e⟩ := getD_some h
  obtain ⟨h1, h2, h3⟩ := below_spec xs hI j
  rcases Nat.lt_trichotomy (below xs j) i with hl | hl | hl
  · have h4 := h3 _ (Nat.le_refl _) (by lia)
    have h5 := hI _ _ hl hi
    lia
  · exact hl
  · have := h2 _ hl; lia

theorem slot_live (t : SetTable) (hI : Inc t.place) {i j : Nat} (h : t.place[i]? = some j) : t.slot j = .live i := by
  unfold slot
  dsimp only
  rw [below_at _ hI h, h, if_pos (by simp)]

theorem has_nil (j : Nat) : SetTable.has #[] j = false := by
  unfold SetTable.has
  simp

theorem slot_cases (t : SetTable) (hI : Inc t.place) (hd : t.dummies = #[]) (j : Nat) :
    (∃ i, t.place[i]? = some j ∧ t.slot j = .live i) ∨ ((∀ i : Nat, t.place[i]? ≠ some j) ∧ t.slot j = .empty) := by
  by_cases h : ∃ i : Nat, t.place[i]? = some j
  · obtain ⟨i, h⟩ := h
    exact .inl ⟨i, h, slot_live t hI h⟩
  · refine .inr ⟨fun i hi => h ⟨i, hi⟩, ?_⟩
    unfold slot
    dsimp only
    rw [if_neg (fun hc => h ⟨_, by simpa using hc⟩), hd, has_nil]
    rfl

/-! the path of a hash through the places -/
noncomputable def adv (m : Nat) (p : Probe) : Probe :=
  if p.more > 0 then { p with j := p.j + 1, more := p.more - 1 } else
  { p with j := (leap m p.i p.perturb).1, more := runEnd m (leap m p.i p.perturb).1 - (leap m p.i p.perturb).1, i := (leap m p.i p.perturb).1, perturb := (leap m p.i p.perturb).2 }

theorem adv_eq (t : SetTable) (p : Probe) : t.advance p = adv t.mask p := by
  unfold advance adv
  split <;> rfl

noncomputable def win (m i pt : Nat) : Probe := { j := i, more := runEnd m i - i, i, perturb := pt, dummy := none }
noncomputable def start (m : Nat) (h : Int) : Probe := win m (bits h % (m + 1)) (bits h)
noncomputable def pos (m : Nat) (h : Int) : Nat → Probe
  | 0 => start m h
  | k + 1 => adv m (pos m h k)

noncomputable def leaps (m : Nat) (h : Int) : Nat → Nat × Nat
  | 0 => (bits h % (m + 1), bits h)
  | w + 1 => leap m (leaps m h w).1 (leaps m h w).2

noncomputable def at_ (m : Nat) (h : Int) : Nat → Nat
  | 0 => 0
  | w + 1 => at_ m h w + (runEnd m (leaps m h w).1 - (leaps m h w).1) + 1

theorem run_adv (m : Nat) (h : Int) (k i pt : Nat) (e : pos m h k = win m i pt) : ∀ d, d ≤ runEnd m i - i →
    pos m h (k + d) = { win m i pt with j := i + d, more := runEnd m i - i - d }
  | 0, _ => by rw [Nat.add_zero, e]; rfl
  | d + 1, hd => by
    rw [← Nat.add_assoc]
    show adv m (pos m h (k + d)) = _
    rw [run_adv m h k i pt e d (Nat.le_of_succ_le hd)]
    unfold adv
    rw [if_pos (by show runEnd m i - i - d > 0; exact Nat.sub_pos_of_lt hd)]
    rfl

theorem leaps_pos (m : Nat) (h : Int) : ∀ w, pos m h (at_ m h w) = win m (leaps m h w).1 (leaps m h w).2
  | 0 => rfl
  | w + 1 => by
    show adv m (pos m h (at_ m h w + (runEnd m (leaps m h w).1 - (leaps m h w).1))) = _
    rw [run_adv m h _ _ _ (leaps_pos m h w) _ (Nat.le_refl _)]
    unfold adv
    rw [if_neg (by show ¬ (_ : Nat) > 0; simp)]
    rfl

theorem bits_lt (h : Int) : bits h < 2 ^ 64 := by
  unfold bits
  have h1 := Int.emod_nonneg h (show (2 ^ 64 : Int) ≠ 0 by decide)
  have h2 := Int.emod_lt_of_pos h (show (0 : Int) < 2 ^ 64 by decide)
  lia

theorem leaps_perturb (m : Nat) (h : Int) : ∀ w, (leaps m h w).2 = bits h / 32 ^ w
  | 0 => by simp [leaps]
  | w + 1 => by
    show (leap m (leaps m h w).1 (leaps m h w).2).2 = _
    unfold leap
    rw [leaps_perturb m h w, Nat.div_div_eq_div_mul, ← Nat.pow_succ]

theorem leaps_zero (m : Nat) (h : Int) (n : Nat) (hn : 13 ≤ n) : (leaps m h n).2 = 0 := by
  rw [leaps_perturb]
  refine Nat.div_eq_of_lt (Nat.lt_of_lt_of_le (bits_lt h) ?_)
  have : (2 : Nat) ^ 64 ≤ 32 ^ 13 := by decide
  exact Nat.le_trans this (Nat.pow_le_pow_right (by decide) hn)

noncomputable def cyc (m i : Nat) : Nat → Nat
  | 0 => i
  | k + 1 => (cyc m i k * 5 + 1) % (m + 1)

theorem cyc_leaps (m : Nat) (h : Int) : ∀ k, (leaps m h (13 + k)).1 = cyc m (leaps m h 13).1 k
  | 0 => rfl
  | k + 1 => by
    show (leap m (leaps m h (13 + k)).1 (leaps m h (13 + k)).2).1 = _
    rw [leaps_zero m h (13 + k) (by lia), cyc_leaps m h k]
    unfold leap
    show _ = (cyc m (leaps m h 13).1 k * 5 + 1) % (m + 1)
    simp

noncomputable def cycList (m : Nat) : Nat → Nat → List Nat
  | 0, _ => []
  | k + 1, i => i :: cycList m k ((i * 5 + 1) % (m + 1))

theorem cyc_shift (m i : Nat) : ∀ k, cyc m i (k + 1) = cyc m ((i * 5 + 1) % (m + 1)) k
  | 0 => rfl
  | k + 1 => by
    show (cyc m i (k + 1) * 5 + 1) % (m + 1) = (cyc m ((i * 5 + 1) % (m + 1)) k * 5 + 1) % (m + 1)
    rw [cyc_shift m i k]

theorem cycList_mem (m : Nat) : ∀ (n i e : Nat), e ∈ cycList m n i → ∃ k, k < n ∧ cyc m i k = e
  | 0, i, e, h => by simp [cycList] at h
  | n + 1, i, e, h => by
    rcases List.mem_cons.mp h with rfl | h
    · exact ⟨0, by lia, rfl⟩
    · obtain ⟨k, hk, he⟩ := cycList_mem m n _ e h
      exact ⟨k + 1, by lia, by rw [cyc_shift]; exact he⟩

noncomputable def cycOk (m : Nat) : Bool := (List.range (m + 1)).all fun e => (cycList m (m + 1) 0).contains e

theorem cycOk7 : cycOk 7 = true := by decide +kernel
theorem cycOk31 : cycOk 31 = true := by decide +kernel
theorem cycOk127 : cycOk 127 = true := by decide +kernel
theorem cycEnd7 : cyc 7 0 8 = 0 := by decide +kernel
theorem cycEnd31 : cyc 31 0 32 = 0 := by decide +kernel
theorem cycEnd127 : cyc 127 0 128 = 0 := by decide +kernel

theorem cyc_add (m i a : Nat) : ∀ k, cyc m i (a + k) = cyc m (cyc m i a) k
  | 0 => rfl
  | k + 1 => by
    show (cyc m i (a + k) * 5 + 1) % (m + 1) = (cyc m (cyc m i a) k * 5 + 1) % (m + 1)
    rw [cyc_add m i a k]

noncomputable def MaskOk (m : Nat) : Prop := m = 7 ∨ m = 31 ∨ m = 127

theorem cyc_from0 {m : Nat} (hm : MaskOk m) {e : Nat} (he : e ≤ m) : ∃ k, k ≤ m ∧ cyc m 0 k = e := by
  have hok : cycOk m = true := by
    rcases hm with h | h | h
    · rw [h]; exact cycOk7
    · rw [h]; exact cycOk31
    · rw [h]; exact cycOk127
  unfold cycOk at hok
  rw [List.all_eq_true] at hok
  have h2 := hok e (List.mem_range.mpr (by lia))
  obtain ⟨k, hk, hke⟩ := cycList_mem m _ 0 e (by simpa using h2)
  exact ⟨k, by lia, hke⟩

theorem cyc_all {m : Nat} (hm : MaskOk m) {i e : Nat} (hi : i ≤ m) (he : e ≤ m) : ∃ k, k ≤ m ∧ cyc m i k = e := by
  have hend : cyc m 0 (m + 1) = 0 := by
    rcases hm with h | h | h
    · rw [h]; exact cycEnd7
    · rw [h]; exact cycEnd31
    · rw [h]; exact cycEnd127
  obtain ⟨a, ha, hai⟩ := cyc_from0 hm hi
  obtain ⟨b, hb, hbe⟩ := cyc_from0 hm he
  by_cases h : a ≤ b
  · refine ⟨b - a, Nat.le_trans (Nat.sub_le b a) hb, ?_⟩
    rw [← hai, ← cyc_add, Nat.add_sub_of_le h]; exact hbe
  · refine ⟨b + (m + 1) - a, Nat.sub_le_iff_le_add.mpr (by lia), ?_⟩
    rw [← hai, ← cyc_add, Nat.add_sub_of_le (Nat.le_trans (Nat.le_succ_of_le ha) (Nat.le_add_left ..)), Nat.add_comm b, cyc_add, hend]; exact hbe

theorem leaps_le (m : Nat) (h : Int) : ∀ w, (leaps m h w).1 ≤ m
  | 0 => by have := Nat.mod_lt (bits h) (show m + 1 > 0 by lia); show bits h % (m + 1) ≤ m; lia
  | w + 1 => by
    show (leap m (leaps m h w).1 (leaps m h w).2).1 ≤ m
    unfold leap
    have := Nat.mod_lt ((leaps m h w).1 * 5 + 1 + (leaps m h w).2 / 32) (show m + 1 > 0 by lia)
    dsimp only
    lia

theorem at_le (m : Nat) (h : Int) : ∀ w, at_ m h w ≤ 10 * w
  | 0 => Nat.le_refl _
  | w + 1 => by
    have := at_le m h w
    have h1 : runEnd m (leaps m h w).1 - (leaps m h w).1 ≤ 9 := by unfold runEnd; split <;> lia
    show at_ m h w + _ + 1 ≤ _
    lia

/-- every place is the start of a run soon enough -/
theorem win_all {m : Nat} (hm : MaskOk m) (h : Int) {e : Nat} (he : e ≤ m) : ∃ w, w ≤ 13 + m ∧ (leaps m h w).1 = e := by
  obtain ⟨k, hk, hke⟩ := cyc_all hm (leaps_le m h 13) he
  exact ⟨13 + k, by lia, by rw [cyc_leaps]; exact hke⟩

theorem path_all {m : Nat} (hm : MaskOk m) (h : Int) {e : Nat} (he : e ≤ m) : ∃ k, k ≤ 10 * (13 + m) ∧ (pos m h k).j = e := by
  obtain ⟨w, hw, hwe⟩ := win_all hm h he
  refine ⟨at_ m h w, ?_, by rw [leaps_pos]; exact hwe⟩
  have := at_le m h w
  lia

theorem pos_dummy (m : Nat) (h : Int) : ∀ k, (pos m h k).dummy = none
  | 0 => rfl
  | k + 1 => by
    have := pos_dummy m h k
    show (adv m (pos m h k)).dummy = none
    unfold adv
    split <;> exact this

/-- the run at hand ends within the table -/
theorem pos_run (m : Nat) (h : Int) : ∀ k, (pos m h k).j + (pos m h k).more ≤ m
  | 0 => by
    have h1 := leaps_le m h 0
    show bits h % (m + 1) + (runEnd m (bits h % (m + 1)) - bits h % (m + 1)) ≤ m
    have h1 : bits h % (m + 1) ≤ m := h1
    unfold runEnd; split <;> lia
  | k + 1 => by
    have ih := pos_run m h k
    show (adv m (pos m h k)).j + (adv m (pos m h k)).more ≤ m
    unfold adv
    split
    · show (pos m h k).j + 1 + ((pos m h k).more - 1) ≤ m; lia
    · dsimp only
      have h1 : (leap m (pos m h k).i (pos m h k).perturb).1 ≤ m := by
        unfold leap
        have := Nat.mod_lt ((pos m h k).i * 5 + 1 + (pos m h k).perturb / 32) (show m + 1 > 0 by lia)
        dsimp only
        lia
      unfold runEnd; split <;> lia

theorem pos_le (m : Nat) (h : Int) (k : Nat) : (pos m h k).j ≤ m := by have := pos_run m h k; lia
end
section
set_option genInjectivity false
set_option genSizeOf false
open PySem PySem.SetTable

noncomputable def Occ (t : SetTable) (j : Nat) : Prop := ∃ i : Nat, t.place[i]? = some j

structure Tb (t : SetTable) (es : Array (Int × Value)) : Prop where
  inc : Inc t.place
  size : t.place.size = es.size
  dum : t.dummies = #[]
  le : ∀ i j : Nat, t.place[i]? = some j → j ≤ t.mask
  mask : MaskOk t.mask
  fill : t.place.size ≤ t.mask
  path : ∀ (i : Nat) (h : Int) (x : Value), es[i]? = some (h, x) → ∃ k, t.place[i]? = some (pos t.mask h k).j ∧ ∀ k', k' < k → Occ t (pos t.mask h k').j

theorem Tb.fits {t : SetTable} {es : Array (Int × Value)} (T : Tb t es) : t.fits es.size = true := by
  have h2 := T.fill
  unfold SetTable.fits SetTable.fill
  rw [T.dum]
  simp only [Bool.and_eq_true, beq_iff_eq, decide_eq_true_eq]
  exact ⟨T.size, by simpa using h2⟩

theorem tb_fresh (led : Bool) : Tb (.fresh 0 0 led) #[] :=
  ⟨fun i k _ hk => absurd hk (Nat.not_lt_zero k), rfl, rfl, fun i j h => by simp [SetTable.fresh] at h, .inl rfl, Nat.zero_le _, fun i h x e => by simp at e⟩

theorem least {P : Nat → Prop} : ∀ n, P n → ∃ k, k ≤ n ∧ P k ∧ ∀ k', k' < k → ¬ P k' := by
  intro n
  induction n using Nat.strongRecOn with
  | ind n ih =>
    intro h
    by_cases q : ∃ k', k' < n ∧ P k'
    · obtain ⟨k', h1, h2⟩ := q
      obtain ⟨k, a, b, c⟩ := ih k' h1 h2
      exact ⟨k, by lia, b, c⟩
    · exact ⟨n, Nat.le_refl _, h, fun k' hk hp => q ⟨k', hk, hp⟩⟩

theorem inc_lt {xs : Array Nat} (hI : Inc xs) {a b i k : Nat} (ha : xs[i]? = some a) (hb : xs[k]? = some b) (h : a < b) : i < k := by
  obtain ⟨h1, h2⟩ := getD_some ha
  obtain ⟨h3, h4⟩ := getD_some hb
  rcases Nat.lt_trichotomy i k with q | q | q
  · exact q
  · subst q; lia
  · have := hI k i q h1; lia

theorem inc_inj {xs : Array Nat} (hI : Inc xs) {a i k : Nat} (ha : xs[i]? = some a) (hb : xs[k]? = some a) : i = k := by
  rw [← below_at xs hI ha, ← below_at xs hI hb]

/-- a place is free -/
theorem room_free {t : SetTable} (hI : Inc t.place) (hf : t.place.size ≤ t.mask) : ∃ e, e ≤ t.mask ∧ ¬ Occ t e := by
  refine Classical.byContradiction fun hn => ?_
  have hall : ∀ e, e ≤ t.mask → Occ t e := fun e he => Classical.byContradiction fun h => hn ⟨e, he, h⟩
  have key : ∀ e, e ≤ t.mask → ∃ i, e ≤ i ∧ t.place[i]? = some e := by
    intro e
    induction e with
    | zero => intro he; obtain ⟨i, hi⟩ := hall 0 he; exact ⟨i, Nat.zero_le _, hi⟩
    | succ e ih =>
      intro he
      obtain ⟨i, h1, h2⟩ := ih (by lia)
      obtain ⟨k, hk⟩ := hall (e + 1) he
      have := inc_lt hI h2 hk (Nat.lt_succ_self _)
      exact ⟨k, by lia, hk⟩
  obtain ⟨i, h1, h2⟩ := key t.mask (Nat.le_refl _)
  have := (getD_some h2).1
  lia

/-- the first free place on the path -/
theorem first_free {t : SetTable} (hI : Inc t.place) (hm : MaskOk t.mask) (hf : t.place.size ≤ t.mask) (h : Int) :
    ∃ K, K ≤ 10 * (13 + t.mask) ∧ ¬ Occ t (pos t.mask h K).j ∧ ∀ k, k < K → Occ t (pos t.mask h k).j := by
  obtain ⟨e, he, hne⟩ := room_free hI hf
  obtain ⟨n, hn, hne'⟩ := path_all hm h he
  obtain ⟨K, a, b, c⟩ := least (P := fun k => ¬ Occ t (pos t.mask h k).j) n (by rw [hne']; exact hne)
  exact ⟨K, by lia, b, fun k hk => Classical.byContradiction fun q => c k hk q⟩

section
variable {t : SetTable} {h : Int} {K : Nat}
theorem slot_occ (hI : Inc t.place) (hd : t.dummies = #[]) {j : Nat} (ho : Occ t j) : ∃ i, t.place[i]? = some j ∧ t.slot j = .live i := by
  rcases slot_cases t hI hd j with a | ⟨a, _⟩
  · exact a
  · obtain ⟨i, hi⟩ := ho; exact absurd hi (a i)
theorem slot_free (hI : Inc t.place) (hd : t.dummies = #[]) {j : Nat} (ho : ¬ Occ t j) : t.slot j = .empty := by
  rcases slot_cases t hI hd j with ⟨i, a, _⟩ | ⟨_, a⟩
  · exact absurd ⟨i, a⟩ ho
  · exact a

theorem probe_go (hI : Inc t.place) (hd : t.dummies = #[]) (hashAt : Nat → Int) (hK : ¬ Occ t (pos t.mask h K).j) (hlt : ∀ k, k < K → Occ t (pos t.mask h k).j) :
    ∀ (f k : Nat), k ≤ K → K < k + f →
      (probe.go t hashAt h f (pos t.mask h k) = some (.empty (pos t.mask h K).j none) ∧ ∀ k', k ≤ k' → k' < K → ∀ i : Nat, t.place[i]? = some (pos t.mask h k').j → hashAt i ≠ h) ∨
      (∃ k' i, k ≤ k' ∧ k' < K ∧ t.place[i]? = some (pos t.mask h k').j ∧ t.slot (pos t.mask h k').j = .live i ∧ hashAt i = h ∧
        probe.go t hashAt h f (pos t.mask h k) = some (.candidate (pos t.mask h k').j i (pos t.mask h (k' + 1))) ∧
        ∀ k'', k ≤ k'' → k'' < k' → ∀ i : Nat, t.place[i]? = some (pos t.mask h k'').j → hashAt i ≠ h) := by
  intro f
  induction f with
  | zero => intro k h1 h2; exact absurd h1 (Nat.not_le_of_lt h2)
  | succ f ih =>
    intro k h1 h2
    by_cases hk : k = K
    · subst hk
      refine .inl ⟨?_, fun k' a b => absurd a (Nat.not_le_of_lt b)⟩
      unfold probe.go
      rw [slot_free hI hd hK, pos_dummy]
    · have hkK : k < K := Nat.lt_of_le_of_ne h1 hk
      obtain ⟨i, hi, hs⟩ := slot_occ hI hd (hlt k hkK)
      by_cases hh : hashAt i = h
      · refine .inr ⟨k, i, Nat.le_refl _, hkK, hi, hs, hh, ?_, fun k'' a b => absurd a (Nat.not_le_of_lt b)⟩
        unfold probe.go
        rw [hs]
        dsimp only
        rw [if_pos (by simpa using hh), adv_eq]
        rfl
      · have hgo : probe.go t hashAt h (f + 1) (pos t.mask h k) = probe.go t hashAt h f (pos t.mask h (k + 1)) := by
          rw [show probe.go t hashAt h (f + 1) (pos t.mask h k) = (match t.slot (pos t.mask h k).j with
            | .empty => some (.empty (pos t.mask h k).j (pos t.mask h k).dummy)
            | .dummy => probe.go t hashAt h f (t.advance { pos t.mask h k with dummy := some (pos t.mask h k).j })
            | .live i => if hashAt i == h then some (.candidate (pos t.mask h k).j i (t.advance (pos t.mask h k))) else probe.go t hashAt h f (t.advance (pos t.mask h k))) from rfl]
          rw [hs]
          dsimp only
          rw [if_neg (by simpa using hh), adv_eq]
          rfl
        have hne : ∀ i' : Nat, t.place[i']? = some (pos t.mask h k).j → hashAt i' ≠ h := fun i' hi' => by
          rw [← inc_inj hI hi hi']; exact hh
        rcases ih (k + 1) (by lia) (by lia) with ⟨a, b⟩ | ⟨k', i', a1, a2, a3, a4, a5, a6, a7⟩
        · refine .inl ⟨by rw [hgo]; exact a, fun k' h3 h4 => ?_⟩
          by_cases e : k' = k
          · subst e; exact hne
          · exact b k' (by lia) h4
        · refine .inr ⟨k', i', by lia, a2, a3, a4, a5, by rw [hgo]; exact a6, fun k'' h3 h4 => ?_⟩
          by_cases e : k'' = k
          · subst e; exact hne
          · exact a7 k'' (by lia) h4
end

/-! one more element -/
section
variable {α : Type}
theorem insertAt_get (xs : Array α) {p : Nat} (hp : p ≤ xs.size) (x : α) (i : Nat) :
    (insertAt xs p x)[i]? = if i < p then xs[i]? else if i = p then some x else xs[i - 1]? := by
  unfold insertAt
  have hs : (xs.extract 0 p).size = p := by simp; lia
  rw [Array.getElem?_append, Array.size_push, hs]
  by_cases h1 : i < p
  · rw [if_pos (by lia), if_pos h1, Array.getElem?_push, hs, if_neg (by lia), Array.getElem?_extract, if_pos (by lia)]
    simp
  · by_cases h2 : i = p
    · rw [if_pos (by lia), if_neg h1, if_pos h2, Array.getElem?_push, hs, if_pos h2]
    · rw [if_neg (by lia), if_neg h1, if_neg h2, Array.getElem?_extract]
      by_cases h3 : i - 1 < xs.size
      · rw [if_pos (by lia), show p + (i - (p + 1)) = i - 1 by lia]
      · rw [if_neg (by lia)]
        exact (Array.getElem?_eq_none (by lia)).symm
theorem insertAt_size (xs : Array α) {p : Nat} (hp : p ≤ xs.size) (x : α) : (insertAt xs p x).size = xs.size + 1 := by
  unfold insertAt
  simp
  lia
theorem insertAt_perm (xs : Array α) {p : Nat} (hp : p ≤ xs.size) (x : α) : (insertAt xs p x).toList.Perm (x :: xs.toList) := by
  unfold insertAt
  have e : xs.toList = xs.toList.take p ++ xs.toList.drop p := (List.take_append_drop p xs.toList).symm
  have h1 : (xs.extract 0 p).toList = xs.toList.take p := by simp
  have h2 : (xs.extract p xs.size).toList = xs.toList.drop p := by
    rw [Array.toList_extract]
    dsimp only [List.extract_eq_take_drop]
    exact List.take_of_length_le (by simp)
  rw [Array.toList_append, Array.toList_push, h1, h2, List.append_assoc]
  conv => rhs; rw [e]
  exact List.perm_middle
end

theorem put_eq (t : SetTable) (hd : t.dummies = #[]) (j : Nat) : t.put j = ({ t with place := insertAt t.place (below t.place j) j }, below t.place j) := by
  unfold SetTable.put
  dsimp only
  rw [hd, has_nil]
  rfl

theorem tb_put {t : SetTable} {es : Array (Int × Value)} (T : Tb t es) {h : Int} {x : Value} {K : Nat} (hK : ¬ Occ t (pos t.mask h K).j) (hlt : ∀ k, k < K → Occ t (pos t.mask h k).j)
    (hroom : t.place.size + 1 ≤ t.mask) :
    Tb { t with place := insertAt t.place (below t.place (pos t.mask h K).j) (pos t.mask h K).j } (insertAt es (below t.place (pos t.mask h K).j) (h, x)) := by
  obtain ⟨b1, b2, b3⟩ := below_spec t.place T.inc (pos t.mask h K).j
  generalize hj : (pos t.mask h K).j = j at *
  generalize hp : below t.place j = p at *
  have b1' : p ≤ es.size := by rw [← T.size]; exact b1
  have occ' : ∀ j', Occ t j' → Occ { t with place := insertAt t.place p j } j' := fun j' hh1 => by
    obtain ⟨i, hi⟩ := hh1
    by_cases q : i < p
    · exact ⟨i, by show (insertAt t.place p j)[i]? = _; rw [insertAt_get _ b1, if_pos q]; exact hi⟩
    · exact ⟨i + 1, by show (insertAt t.place p j)[i + 1]? = _; rw [insertAt_get _ b1, if_neg (by lia), if_neg (by lia)]; exact hi⟩
  have hg : ∀ i, i < t.place.size + 1 → (insertAt t.place p j).getD i 0 = if i < p then t.place.getD i 0 else if i = p then j else t.place.getD (i - 1) 0 := fun i hi => by
    have e := insertAt_get t.place b1 j i
    have e2 : (insertAt t.place p j)[i]? = some ((insertAt t.place p j).getD i 0) := some_getD (by rw [insertAt_size _ b1]; exact hi)
    rw [e2] at e
    by_cases q : i < p
    · rw [if_pos q] at e ⊢; exact (getD_some e.symm).2.symm
    · rw [if_neg q] at e ⊢
      by_cases q2 : i = p
      · rw [if_pos q2] at e ⊢; exact Option.some.inj e
      · rw [if_neg q2] at e ⊢; exact (getD_some e.symm).2.symm
  refine ⟨fun i k hik hk => ?_, ?_, T.dum, fun i j' hi => ?_, T.mask, ?_, fun i h' x' he => ?_⟩
  · have hk : k < t.place.size + 1 := by rw [← insertAt_size t.place b1 j]; exact hk
    show (insertAt t.place p j).getD i 0 < (insertAt t.place p j).getD k 0
    rw [hg i (by lia), hg k hk]
    have hne : ∀ i, i < t.place.size → t.place.getD i 0 ≠ j := fun i hi e => hK ⟨i, by rw [some_getD hi, e]⟩
    by_cases q1 : k < p
    · rw [if_pos q1, if_pos (Nat.lt_trans hik q1)]; exact T.inc i k hik (Nat.lt_of_lt_of_le q1 b1)
    · rw [if_neg q1]
      by_cases q2 : k = p
      · rw [if_pos q2, if_pos (q2 ▸ hik)]; exact b2 i (q2 ▸ hik)
      · rw [if_neg q2]
        obtain ⟨m, rfl⟩ := Nat.exists_eq_succ_of_ne_zero (Nat.ne_of_gt (Nat.lt_of_le_of_lt (Nat.zero_le i) hik))
        have hm : m < t.place.size := Nat.lt_of_succ_lt_succ hk
        have hpm : p ≤ m := Nat.le_of_lt_succ (Nat.lt_of_le_of_ne (Nat.le_of_not_lt q1) (Ne.symm q2))
        show _ < t.place.getD m 0
        by_cases q3 : i < p
        · rw [if_pos q3]; exact T.inc i m (Nat.lt_of_lt_of_le q3 hpm) hm
        · rw [if_neg q3]
          by_cases q4 : i = p
          · rw [if_pos q4]
            exact Nat.lt_of_le_of_ne (b3 m hpm hm) (Ne.symm (hne m hm))
          · rw [if_neg q4]
            obtain ⟨l, rfl⟩ := Nat.exists_eq_succ_of_ne_zero (n := i) (fun z => q4 (by rw [z] at q3 ⊢; exact (Nat.le_zero.mp (Nat.le_of_not_lt q3)).symm))
            exact T.inc l m (Nat.lt_of_succ_lt_succ hik) hm
  · show (insertAt t.place p j).size = _
    rw [insertAt_size _ b1, insertAt_size _ b1', T.size]
  · have hi : (insertAt t.place p j)[i]? = some j' := hi
    rw [insertAt_get _ b1] at hi
    show j' ≤ t.mask
    split at hi
    · exact T.le _ _ hi
    · split at hi
      · rw [← Option.some.inj hi, ← hj]; exact pos_le _ _ _
      · exact T.le _ _ hi
  · show (insertAt t.place p j).size ≤ t.mask
    rw [insertAt_size _ b1]; exact hroom
  · rw [insertAt_get _ b1'] at he
    by_cases q : i < p
    · rw [if_pos q] at he
      obtain ⟨k, h1, h2⟩ := T.path i h' x' he
      exact ⟨k, by show (insertAt t.place p j)[i]? = _; rw [insertAt_get _ b1, if_pos q]; exact h1, fun k' hk' => occ' _ (h2 k' hk')⟩
    · rw [if_neg q] at he
      by_cases q2 : i = p
      · rw [if_pos q2] at he
        have he := Option.some.inj he
        injection he with e1 e2
        subst e1
        exact ⟨K, by show (insertAt t.place p j)[i]? = _; rw [insertAt_get _ b1, if_neg q, if_pos q2, hj], fun k' hk' => occ' _ (hlt k' hk')⟩
      · rw [if_neg q2] at he
        obtain ⟨k, h1, h2⟩ := T.path _ h' x' he
        exact ⟨k, by show (insertAt t.place p j)[i]? = _; rw [insertAt_get _ b1, if_neg q, if_neg q2]; exact h1, fun k' hk' => occ' _ (h2 k' hk')⟩

theorem tb_plain {t : SetTable} {es : Array (Int × Value)} (T : Tb t es) (b : Bool) : Tb { t with plain := b } es := ⟨T.inc, T.size, T.dum, T.le, T.mask, T.fill, T.path⟩
end
section
set_option genInjectivity false
set_option genSizeOf false
open PySem PySem.SetTable

structure Ow (m : Nat) (hs : List Int) (owner : Array (Option Nat)) : Prop where
  size : owner.size = m + 1
  lt : ∀ (j k : Nat), owner[j]? = some (some k) → k < hs.length
  uniq : ∀ (j j' k : Nat), owner[j]? = some (some k) → owner[j']? = some (some k) → j = j'
  get : ∀ (k : Nat) (h : Int), hs[k]? = some h → ∃ w, owner[(pos m h w).j]? = some (some k) ∧ ∀ w', w' < w → ∃ k', owner[(pos m h w').j]? = some (some k')
  count : (owner.toList.filterMap id).length = hs.length

theorem ow_nil (m : Nat) : Ow m [] (Array.replicate (m + 1) none) := by
  refine ⟨by simp, fun j k h => ?_, fun j j' k h => ?_, fun k h e => by simp at e, ?_⟩
  · rw [Array.getElem?_replicate] at h; split at h <;> simp at h
  · rw [Array.getElem?_replicate] at h; split at h <;> simp at h
  · simp

theorem pos_in_run (m : Nat) (h : Int) (w d : Nat) (hd : d ≤ runEnd m (leaps m h w).1 - (leaps m h w).1) : (pos m h (at_ m h w + d)).j = (leaps m h w).1 + d := by
  rw [run_adv m h _ _ _ (leaps_pos m h w) d hd]

theorem free_spec (m : Nat) (h : Int) (owner : Array (Option Nat)) (hsz : owner.size = m + 1) {W : Nat} (hW : owner[(leaps m h W).1]? = some none) :
    ∀ (f w : Nat), w ≤ W → W < w + f → ∃ k, at_ m h w ≤ k ∧ layClean.free m owner f (leaps m h w).1 (leaps m h w).2 = some (pos m h k).j ∧ owner[(pos m h k).j]? = some none ∧
      ∀ k', at_ m h w ≤ k' → k' < k → ∃ k'', owner[(pos m h k').j]? = some (some k'') := by
  have hget : ∀ j, j ≤ m → (owner.getD j (some 0)).isNone = true ∨ ∃ k, owner[j]? = some (some k) := fun j hj => by
    have hlt : j < owner.size := by lia
    rw [show owner.getD j (some 0) = owner[j] by simp [Array.getD, hlt]]
    cases q : owner[j] with
    | none => exact .inl rfl
    | some k => exact .inr ⟨k, by rw [Array.getElem?_eq_getElem hlt, q]⟩
  have hnone : ∀ j, j ≤ m → (owner.getD j (some 0)).isNone = true → owner[j]? = some none := fun j hj q => by
    have hlt : j < owner.size := by lia
    rw [show owner.getD j (some 0) = owner[j] by simp [Array.getD, hlt]] at q
    rw [Array.getElem?_eq_getElem hlt]
    rw [Option.isNone_iff_eq_none] at q
    rw [q]
  intro f
  induction f with
  | zero => intro w h1 h2; lia
  | succ f ih =>
    intro w h1 h2
    have hle := leaps_le m h w
    have hre : runEnd m (leaps m h w).1 ≤ m ∧ (leaps m h w).1 ≤ runEnd m (leaps m h w).1 := by unfold runEnd; split <;> lia
    obtain ⟨r, hr⟩ := Nat.le.dest hre.2
    have hrun : ∀ d, d ≤ r → (pos m h (at_ m h w + d)).j = (leaps m h w).1 + d := fun d hd => pos_in_run m h w d (by rw [← hr, Nat.add_sub_cancel_left]; exact hd)
    have hrm : ∀ d, d ≤ r → (leaps m h w).1 + d ≤ m := fun d hd => Nat.le_trans (Nat.add_le_add_left hd _) (hr ▸ hre.1)
    have hat : at_ m h (w + 1) = at_ m h w + r + 1 := by
      show at_ m h w + (runEnd m (leaps m h w).1 - (leaps m h w).1) + 1 = _
      rw [← hr, Nat.add_sub_cancel_left]
    have hlen : runEnd m (leaps m h w).1 + 1 - (leaps m h w).1 = r + 1 := by rw [← hr, Nat.add_assoc, Nat.add_sub_cancel_left]
    unfold layClean.free
    rw [hlen]
    clear hlen hre hr hle
    cases q : (List.range (r + 1)).find? fun k => (owner.getD ((leaps m h w).1 + k) (some 0)).isNone with
    | some d =>
      dsimp only
      rw [List.find?_range_eq_some] at q
      obtain ⟨q1, q2, q3⟩ := q
      rw [List.mem_range] at q2
      have hd := Nat.le_of_lt_succ q2
      refine ⟨at_ m h w + d, Nat.le_add_right .., by rw [hrun d hd], by rw [hrun d hd]; exact hnone _ (hrm d hd) q1, fun k' a b => ?_⟩
      obtain ⟨e, rfl⟩ := Nat.le.dest a
      have he : e < d := Nat.lt_of_add_lt_add_left b
      have he' := Nat.le_trans (Nat.le_of_lt he) hd
      rw [hrun e he']
      rcases hget _ (hrm e he') with z | z
      · have := q3 e he
        rw [z] at this; cases this
      · exact z
    | none =>
      dsimp only
      rw [List.find?_range_eq_none] at q
      have hocc : ∀ d, d ≤ r → ∃ k, owner[(leaps m h w).1 + d]? = some (some k) := fun d hd => by
        rcases hget _ (hrm d hd) with z | z
        · have := q d (Nat.lt_succ_of_le hd)
          rw [z] at this; cases this
        · exact z
      have hwW : w ≠ W := by
        rintro rfl
        obtain ⟨k, hk⟩ := hocc 0 (Nat.zero_le _)
        rw [Nat.add_zero, hW] at hk
        cases hk
      obtain ⟨k, a1, a2, a3, a4⟩ := ih (w + 1) (Nat.lt_of_le_of_ne h1 hwW) (by rw [Nat.add_assoc, Nat.add_comm 1]; exact h2)
      refine ⟨k, Nat.le_trans (hat ▸ Nat.le_succ_of_le (Nat.le_add_right ..)) a1, a2, a3, fun k' b1 b2 => ?_⟩
      by_cases c : at_ m h (w + 1) ≤ k'
      · exact a4 k' c b2
      · obtain ⟨e, rfl⟩ := Nat.le.dest b1
        rw [hat] at c
        have he : e ≤ r := Nat.le_of_lt_succ (Nat.lt_of_add_lt_add_left (Nat.lt_of_not_le c))
        rw [hrun e he]
        exact hocc e he

theorem filterMap_set {l : List (Option Nat)} : ∀ {j : Nat} (k : Nat), l[j]? = some none → ((l.set j (some k)).filterMap id).length = (l.filterMap id).length + 1 := by
  induction l with
  | nil => intro j k h; simp at h
  | cons a l ih =>
    intro j k h
    cases j with
    | zero =>
      simp only [List.getElem?_cons_zero, Option.some.injEq] at h
      subst h
      simp
    | succ j =>
      have := ih k (by simpa using h)
      dsimp only [List.set_cons_succ, List.filterMap_cons]
      cases a <;> simp [this]

theorem ow_step {m : Nat} (hm : MaskOk m) {hs : List Int} {owner : Array (Option Nat)} (O : Ow m hs owner) (hr : hs.length ≤ m) (h : Int) :
    ∃ j, layClean.free m owner (turns m) (bits h % (m + 1)) (bits h) = some j ∧ Ow m (hs ++ [h]) (owner.setIfInBounds j (some hs.length)) := by
  -- a free place
  have hfree : ∃ e, e ≤ m ∧ owner[e]? = some none := by
    refine Classical.byContradiction fun hn => ?_
    have hall : ∀ x ∈ owner.toList, x.isSome = true := fun x hx => by
      obtain ⟨e, he, hxe⟩ := List.getElem_of_mem hx
      have he' := he
      rw [Array.length_toList, O.size] at he'
      cases x with
      | some _ => rfl
      | none => exact absurd ⟨e, by lia, by rw [← Array.getElem?_toList, List.getElem?_eq_getElem he, hxe]⟩ hn
    have hlen : ∀ l : List (Option Nat), (∀ x ∈ l, x.isSome = true) → (l.filterMap id).length = l.length := by
      intro l
      induction l with
      | nil => intro _; rfl
      | cons a l ih =>
        intro h
        have ha := h a (.head _)
        cases a with
        | none => cases ha
        | some k => simp [ih fun x hx => h x (.tail _ hx)]
    have := O.count
    rw [hlen _ hall, Array.length_toList, O.size] at this
    lia
  obtain ⟨e, he, hfe⟩ := hfree
  obtain ⟨W, hW1, hW2⟩ := win_all hm h he
  obtain ⟨k, a1, a2, a3, a4⟩ := free_spec m h owner O.size (W := W) (by rw [hW2]; exact hfe) (turns m) 0 (Nat.zero_le _) (by unfold turns; lia)
  refine ⟨(pos m h k).j, a2, ?_⟩
  generalize hj : (pos m h k).j = j at *
  have hjs : j < owner.size := by rw [O.size, ← hj]; have := pos_le m h k; lia
  have hg : ∀ j', (owner.setIfInBounds j (some hs.length))[j']? = if j' = j then some (some hs.length) else owner[j']? := fun j' => by
    rw [Array.getElem?_setIfInBounds]
    by_cases q : j' = j
    · rw [if_pos q, if_pos q.symm, if_pos (by lia)]
    · rw [if_neg q, if_neg (fun e => q e.symm)]
  have keep : ∀ j' k', owner[j']? = some (some k') → (owner.setIfInBounds j (some hs.length))[j']? = some (some k') := fun j' k' h' => by
    rw [hg, if_neg (by rintro rfl; rw [a3] at h'; cases h')]; exact h'
  refine ⟨by rw [Array.size_setIfInBounds]; exact O.size, fun j' k' h' => ?_, fun j1 j2 k' h1 h2 => ?_, fun k' h' e' => ?_, ?_⟩
  · rw [hg] at h'
    rw [List.length_append, List.length_singleton]
    split at h'
    · have := Option.some.inj (Option.some.inj h'); lia
    · have := O.lt _ _ h'; lia
  · rw [hg] at h1 h2
    by_cases q1 : j1 = j
    · by_cases q2 : j2 = j
      · rw [q1, q2]
      · rw [if_pos q1] at h1; rw [if_neg q2] at h2
        have e1 := Option.some.inj (Option.some.inj h1)
        have := O.lt _ _ h2
        lia
    · by_cases q2 : j2 = j
      · rw [if_neg q1] at h1; rw [if_pos q2] at h2
        have e1 := Option.some.inj (Option.some.inj h2)
        have := O.lt _ _ h1
        lia
      · rw [if_neg q1] at h1; rw [if_neg q2] at h2
        exact O.uniq _ _ _ h1 h2
  · by_cases q : k' < hs.length
    · rw [List.getElem?_append_left q] at e'
      obtain ⟨w, b1, b2⟩ := O.get k' h' e'
      exact ⟨w, keep _ _ b1, fun w' hw' => let ⟨k'', b3⟩ := b2 w' hw'; ⟨k'', keep _ _ b3⟩⟩
    · rw [List.getElem?_append_right (by lia)] at e'
      have hk' : k' = hs.length := by
        have := (List.getElem?_eq_some_iff.mp e').1
        rw [List.length_singleton] at this
        lia
      subst hk'
      simp only [Nat.sub_self, List.getElem?_cons_zero, Option.some.injEq] at e'
      subst e'
      refine ⟨k, by rw [hj, hg, if_pos rfl], fun w' hw' => ?_⟩
      obtain ⟨k'', b3⟩ := a4 w' (Nat.zero_le _) hw'
      exact ⟨k'', keep _ _ b3⟩
  · rw [List.length_append, List.length_singleton, ← O.count, Array.toList_setIfInBounds]
    exact filterMap_set _ (by rw [Array.getElem?_toList]; exact a3)

theorem layClean_go {m : Nat} (hm : MaskOk m) : ∀ (rest hs : List Int) (owner : Array (Option Nat)), Ow m hs owner → hs.length + rest.length ≤ m + 1 →
    ∃ owner', rest.foldl (init := some (owner, hs.length)) (fun acc h => do
        let (owner, k) ← acc
        let j ← layClean.free m owner (turns m) (bits h % (m + 1)) (bits h)
        pure (owner.setIfInBounds j (some k), k + 1)) = some (owner', hs.length + rest.length) ∧ Ow m (hs ++ rest) owner' := by
  intro rest
  induction rest with
  | nil => intro hs owner O _; exact ⟨owner, rfl, by rw [List.append_nil]; exact O⟩
  | cons h rest ih =>
    intro hs owner O hl
    rw [List.length_cons] at hl
    obtain ⟨j, h1, h2⟩ := ow_step hm O (by lia) h
    obtain ⟨owner', h3, h4⟩ := ih (hs ++ [h]) _ h2 (by rw [List.length_append, List.length_singleton]; lia)
    rw [List.length_append, List.length_singleton] at h3
    refine ⟨owner', ?_, by rw [List.append_assoc] at h4; exact h4⟩
    rw [List.foldl_cons]
    show List.foldl _ (layClean.free m owner (turns m) (bits h % (m + 1)) (bits h) >>= fun j => pure (owner.setIfInBounds j (some hs.length), hs.length + 1)) rest = _
    rw [h1]
    rw [List.length_cons, show hs.length + (rest.length + 1) = hs.length + 1 + rest.length by lia]
    exact h3

theorem layClean_ok {m : Nat} (hm : MaskOk m) (hashes : Array Int) (hl : hashes.size ≤ m + 1) : ∃ owner, layClean m hashes = some owner ∧ Ow m hashes.toList owner := by
  obtain ⟨owner, h1, h2⟩ := layClean_go hm hashes.toList [] _ (ow_nil m) (by simpa using hl)
  refine ⟨owner, ?_, by simpa using h2⟩
  unfold layClean
  rw [← Array.foldl_toList]
  dsimp only [List.length_nil, Nat.zero_add] at h1
  rw [h1]
  rfl

theorem filterMap_get {α β : Type} {f : α → Option β} : ∀ (l : List α), (∀ a ∈ l, (f a).isSome = true) → ∀ i : Nat, (l.filterMap f)[i]? = (l[i]?).bind f
  | [], _, i => by simp
  | a :: l, h, i => by
    have ha := h a (.head _)
    cases q : f a with
    | none => rw [q] at ha; cases ha
    | some b =>
      rw [List.filterMap_cons, q]
      dsimp only
      cases i with
      | zero => simp [q]
      | succ i => simpa using filterMap_get l (fun x hx => h x (.tail _ hx)) i
theorem filterMap_len {α β : Type} {f : α → Option β} : ∀ (l : List α), (∀ a ∈ l, (f a).isSome = true) → (l.filterMap f).length = l.length
  | [], _ => rfl
  | a :: l, h => by
    have ha := h a (.head _)
    cases q : f a with
    | none => rw [q] at ha; cases ha
    | some b => rw [List.filterMap_cons, q]; simp [filterMap_len l fun x hx => h x (.tail _ hx)]

theorem fm_congr {α β : Type} {f g : α → Option β} : ∀ (l : List α), (∀ a ∈ l, f a = g a) → l.filterMap f = l.filterMap g
  | [], _ => rfl
  | a :: l, h => by rw [List.filterMap_cons, List.filterMap_cons, h a (.head _), fm_congr l fun x hx => h x (.tail _ hx)]

theorem guard_map (j : Nat) (z : Option Nat) : Option.map (fun x => x.fst) (Option.map (fun x => (j, x)) z) = if z.isSome = true then some j else none := by
  cases z <;> rfl

theorem range_list (owner : Array (Option Nat)) : ∀ n, n = owner.size → (List.range n).map (fun j => owner.getD j none) = owner.toList := by
  intro n hn
  refine List.ext_getElem? fun i => ?_
  rw [List.getElem?_map, Array.getElem?_toList (xs := owner)]
  by_cases h : i < n
  · rw [List.getElem?_range h]
    have : i < owner.size := by lia
    simp [Array.getD, this]
  · rw [List.getElem?_eq_none (by simpa using h), Array.getElem?_eq_none (by lia)]
    rfl

/-- the table laid anew -/
theorem laid_ok {m finger moves : Nat} {led plain : Bool} (hm : MaskOk m) (es : Array (Int × Value)) (hl : es.size ≤ m) :
    ∃ t order, laid m finger moves led plain (es.map (·.1)) = some (t, order) ∧ t.mask = m ∧ t.place.size = es.size ∧ (order.filterMap (es[·]?)).size = es.size ∧
      (order.filterMap (es[·]?)).toList.Perm es.toList ∧ Tb t (order.filterMap (es[·]?)) := by
  obtain ⟨owner, h1, O⟩ := layClean_ok hm (es.map (·.1)) (by rw [Array.size_map]; lia)
  have hlen : (es.map (·.1)).toList.length = es.size := by simp
  let live := (List.range (m + 1)).filterMap fun j => (owner.getD j none).map (j, ·)
  have hlive : ∀ p ∈ live, p.1 ≤ m ∧ owner[p.1]? = some (some p.2) := fun p hp => by
    obtain ⟨j, hj, e⟩ := List.mem_filterMap.mp hp
    rw [List.mem_range] at hj
    obtain ⟨k, hk, rfl⟩ := Option.map_eq_some_iff.mp e
    have hjs : j < owner.size := by rw [O.size]; exact hj
    refine ⟨by show j ≤ m; lia, ?_⟩
    rw [show owner.getD j none = owner[j] by simp [Array.getD, hjs]] at hk
    show owner[j]? = _
    rw [Array.getElem?_eq_getElem hjs, hk]
  have inlive : ∀ j k : Nat, owner[j]? = some (some k) → (j, k) ∈ live := fun j k hj => by
    have hjs : j < owner.size := (Array.getElem?_eq_some_iff.mp hj).1
    exact List.mem_filterMap.mpr ⟨j, by rw [List.mem_range, ← O.size]; exact hjs, by
      rw [show owner.getD j none = some k by
        rw [show owner.getD j none = owner[j] by simp [Array.getD, hjs]]
        rw [Array.getElem?_eq_getElem hjs] at hj
        exact Option.some.inj hj]
      rfl⟩
  have hes : ∀ p ∈ live, (es[p.2]?).isSome = true := fun p hp => by
    have := O.lt _ _ (hlive p hp).2
    rw [hlen] at this
    simp [this]
  have hcount : live.length = es.size := by
    have e : live.map (·.2) = owner.toList.filterMap id := by
      rw [← range_list owner (m + 1) O.size.symm, List.filterMap_map, List.map_filterMap]
      refine fm_congr _ fun j _ => ?_
      show Option.map (fun x => x.2) (Option.map (j, ·) (owner.getD j none)) = owner.getD j none
      cases owner.getD j none <;> rfl
    have := congrArg List.length e
    rw [List.length_map] at this
    rw [this, O.count, hlen]
  have hfst : live.map (·.1) = (List.range (m + 1)).filter fun j => (owner.getD j none).isSome := by
    rw [List.map_filterMap, ← List.filterMap_eq_filter]
    refine fm_congr _ fun j _ => ?_
    dsimp only [Option.guard]
    exact guard_map j _
  have hpw : (live.map (·.1)).Pairwise (· < ·) := by rw [hfst]; exact (List.pairwise_lt_range).filter _
  have horder : ((live.map (·.2)).toArray.filterMap (es[·]?)).toList = live.filterMap fun p => es[p.2]? := by
    simp [Function.comp_def]
  have hget : ∀ (i : Nat) (e : Int × Value), ((live.map (·.2)).toArray.filterMap (es[·]?))[i]? = some e → ∃ p, live[i]? = some p ∧ es[p.2]? = some e := fun i e he => by
    rw [← Array.getElem?_toList, horder, filterMap_get live hes] at he
    cases q : live[i]? with
    | none => rw [q] at he; simp at he
    | some p => rw [q] at he; exact ⟨p, rfl, he⟩
  have hsize : ((live.map (·.2)).toArray.filterMap (es[·]?)).size = es.size := by
    rw [← Array.length_toList, horder, filterMap_len live hes, hcount]
  have hplace : ∀ i j : Nat, (live.map (·.1)).toArray[i]? = some j → ∃ p, live[i]? = some p ∧ p.1 = j := fun i j h => by
    simp only [List.getElem?_toArray, List.getElem?_map] at h
    exact Option.map_eq_some_iff.mp h
  refine ⟨_, _, by unfold laid; rw [h1]; rfl, rfl, ?_, hsize, ?_, ?_⟩
  · show (live.map (·.1)).toArray.size = _
    rw [List.size_toArray, List.length_map, hcount]
  · -- the same elements
    show ((live.map (·.2)).toArray.filterMap (es[·]?)).toList.Perm es.toList
    rw [horder]
    have hk : (live.map (·.2)).Nodup := by
      show List.Pairwise (· ≠ ·) _
      rw [List.pairwise_iff_getElem]
      intro i j hi hj hij he
      rw [List.getElem_map, List.getElem_map] at he
      rw [List.length_map] at hi hj
      have a := (hlive _ (List.getElem_mem (show i < live.length by lia))).2
      have b := (hlive _ (List.getElem_mem hj)).2
      rw [he] at a
      have e1 := O.uniq _ _ _ a b
      rw [List.pairwise_iff_getElem] at hpw
      have := hpw i j (by rw [List.length_map]; lia) (by rw [List.length_map]; lia) hij
      rw [List.getElem_map, List.getElem_map] at this
      lia
    have hperm : (live.map (·.2)).Perm (List.range es.size) := by
      refine (List.perm_ext_iff_of_nodup hk List.nodup_range).mpr fun k => ⟨fun hk' => ?_, fun hk' => ?_⟩
      · obtain ⟨p, hp, rfl⟩ := List.mem_map.mp hk'
        rw [List.mem_range, ← hlen]
        exact O.lt _ _ (hlive p hp).2
      · rw [List.mem_range, ← hlen] at hk'
        obtain ⟨w, b1, _⟩ := O.get k _ (List.getElem?_eq_getElem hk')
        exact List.mem_map.mpr ⟨_, inlive _ _ b1, rfl⟩
    have h3 := hperm.filterMap (es[·]?)
    rw [List.filterMap_map] at h3
    refine h3.trans (List.Perm.of_eq ?_)
    refine List.ext_getElem? fun i => ?_
    rw [filterMap_get _ (fun a ha => by rw [List.mem_range] at ha; simp [ha]), Array.getElem?_toList (xs := es)]
    by_cases q : i < es.size
    · rw [List.getElem?_range q]; rfl
    · rw [List.getElem?_eq_none (by simpa using q), Array.getElem?_eq_none (by lia)]; rfl
  · refine ⟨fun i k hik hk => ?_, ?_, rfl, fun i j h => ?_, hm, ?_, fun i h x he => ?_⟩
    · have hk : k < (live.map (·.1)).length := by rw [← List.size_toArray]; exact hk
      rw [List.pairwise_iff_getElem] at hpw
      have := hpw i k (by lia) hk hik
      show (live.map (·.1)).toArray.getD i 0 < (live.map (·.1)).toArray.getD k 0
      rw [(getD_some (xs := (live.map (·.1)).toArray) (i := i) (j := (live.map (·.1))[i]) (by rw [List.getElem?_toArray]; exact List.getElem?_eq_getElem (by lia))).2,
        (getD_some (xs := (live.map (·.1)).toArray) (i := k) (j := (live.map (·.1))[k]) (by rw [List.getElem?_toArray]; exact List.getElem?_eq_getElem hk)).2]
      exact this
    · show (live.map (·.1)).toArray.size = ((live.map (·.2)).toArray.filterMap (es[·]?)).size
      rw [hsize, List.size_toArray, List.length_map, hcount]
    · obtain ⟨p, hp, rfl⟩ := hplace i j h
      exact (hlive p (List.mem_of_getElem? hp)).1
    · show (live.map (·.1)).toArray.size ≤ m
      rw [List.size_toArray, List.length_map, hcount]; exact hl
    · obtain ⟨p, hp, he'⟩ := hget i (h, x) he
      obtain ⟨w, b1, b2⟩ := O.get p.2 h (by simp [he'])
      have hp2 := (hlive p (List.mem_of_getElem? hp)).2
      have e1 := O.uniq _ _ _ b1 hp2
      have occ : ∀ j k : Nat, owner[j]? = some (some k) → ∃ i : Nat, (live.map (·.1)).toArray[i]? = some j := fun j k hj => by
        have hmem := inlive j k hj
        obtain ⟨i, hi, hie⟩ := List.getElem_of_mem hmem
        exact ⟨i, by rw [List.getElem?_toArray, List.getElem?_map, List.getElem?_eq_getElem hi, hie]; rfl⟩
      refine ⟨w, ?_, fun w' hw' => ?_⟩
      · show (live.map (·.1)).toArray[i]? = some (pos m h w).j
        rw [List.getElem?_toArray, List.getElem?_map, hp, e1]
        rfl
      · obtain ⟨k'', b3⟩ := b2 w' hw'
        exact occ _ _ b3
end
section
noncomputable def keyish : Nat → D → Bool
  | _, .int _ => true
  | _, .str x => PyData.strOk x
  | n + 1, .tup l => l.all (keyish n)
  | _, _ => false
noncomputable def hashN (w : World) : Nat → D → Int
  | _, .int i => hashInt i
  | _, .str x => hashStr w x
  | n + 1, .tup l => reduceHash (Builtin.Tuple.tupleHashOf (l.map (hashN w n)))
  | _, _ => 0

theorem keyish_plain : ∀ (n : Nat) (d : D), keyish n d = true → plain n d = true
  | 0, .int _, _ => rfl
  | 0, .str _, h => h
  | n + 1, .int _, _ => rfl
  | n + 1, .str _, h => h
  | n + 1, .tup l, h => by
    simp only [keyish, List.all_eq_true] at h
    simp only [plain, List.all_eq_true]
    exact fun d hd => keyish_plain n d (h d hd)
  | 0, .tup _, h => by simp [keyish] at h
  | 0, .none, h => by simp [keyish] at h
  | 0, .bool _, h => by simp [keyish] at h
  | 0, .lst _, h => by simp [keyish] at h
  | 0, .rng _ _ _, h => by simp [keyish] at h
  | 0, .raw _, h => by simp [keyish] at h
  | n + 1, .none, h => by simp [keyish] at h
  | n + 1, .bool _, h => by simp [keyish] at h
  | n + 1, .lst _, h => by simp [keyish] at h
  | n + 1, .rng _ _ _, h => by simp [keyish] at h
  | n + 1, .raw _, h => by simp [keyish] at h

/-- the shapes of a key's value -/
theorem keyish_cases {n : Nat} {d : D} {B : PH} {v : Value} (hk : keyish n d = true) (r : Rep B d v) :
    (∃ i t, d = .int i ∧ v = .int i t) ∨ (∃ x t, d = .str x ∧ v = .str x t) ∨
    (∃ l a xs m n', n = n' + 1 ∧ d = .tup l ∧ v = .ref a ∧ B a = some (tupO xs m) ∧ RepL B l xs.toList ∧ ∀ e ∈ l, keyish n' e = true) := by
  cases d with
  | int i => obtain ⟨t, rfl⟩ := int_inv r; exact .inl ⟨i, t, rfl, rfl⟩
  | str x => obtain ⟨t, rfl⟩ := str_inv r; exact .inr (.inl ⟨x, t, rfl, rfl⟩)
  | tup l =>
    cases n with
    | zero => simp [keyish] at hk
    | succ n =>
      simp only [keyish, List.all_eq_true] at hk
      simp only [Rep] at r
      obtain ⟨a, xs, m, rfl, h1, h2⟩ := r
      exact .inr (.inr ⟨l, a, xs, m, n, rfl, rfl, rfl, h1, h2, hk⟩)
  | _ => cases n <;> simp [keyish] at hk

section
variable {prog : Program} {w : World}

open Classical in
theorem wp_eqB {A : Around} {E : Value → Shared → Prop} {s : Shared} {B : PH} (hle : ∀ a o, B a = some o → s.heap.get? a = some o) {n k : Nat} {d e : D} {u v : Value}
    (hd : plain n d = true) (he : plain k e = true) (r₁ : Rep B d u) (r₂ : Rep B e v) (hu : A.units + n < cLine) {Q : Bool → Shared → Prop} (q : Q (decide (d = e)) s) :
    wpAny (model prog w) A (eqBool u v) Q E s := by
  obtain ⟨as, q1⟩ := reads_of hle n d u hd r₁
  obtain ⟨bs, q2⟩ := reads_of hle k e v he r₂
  have h := plain_eqv n d e k hd he
  have l1 := plain_lay n d hd
  have l2 := plain_lay k e he
  refine SeqAt.eqAt_reads _ _ A s _ _ _ _ q1 q2 l1.1 l2.1 (Nat.lt_of_le_of_lt (Nat.add_le_add_left (Nat.le_trans (Nat.min_le_left _ _) l1.2) _) hu) prog w E Q ?_
  rw [show PyData.eqv (toPy d) (toPy e) = decide (d = e) by
    by_cases z : d = e
    · rw [decide_eq_true z]; exact h.mpr z
    · rw [decide_eq_false z]; exact Bool.eq_false_iff.mpr fun c => z (h.mp c)]
  exact q

theorem wp_quiet {B : PH} : ∀ (n f : Nat), n ≤ f → ∀ {A : Around} {E : Value → Shared → Prop} {s : Shared} {d : D} {v : Value}, (∀ a o, B a = some o → s.heap.get? a = some o) → keyish n d = true → Rep B d v →
    ∀ {Q : Bool → Shared → Prop}, Q true s → wpAny (model prog w) A (eqIsQuiet f v) Q E s := by
  intro n
  induction n with
  | zero =>
    intro f hf A E s d v hle hk r Q q
    rcases keyish_cases hk r with ⟨i, t, rfl, rfl⟩ | ⟨x, t, rfl, rfl⟩ | ⟨l, a, xs, m, n', h0, _⟩
    · rw [eqIsQuiet_byValue _ rfl]; exact wpAny_pure q
    · rw [eqIsQuiet_byValue _ rfl]; exact wpAny_pure q
    · cases h0
  | succ n ih =>
    intro f hf A E s d v hle hk r Q q
    rcases keyish_cases hk r with ⟨i, t, rfl, rfl⟩ | ⟨x, t, rfl, rfl⟩ | ⟨l, a, xs, m, n', h0, rfl, rfl, hB, hr, hall⟩
    · rw [eqIsQuiet_byValue _ rfl]; exact wpAny_pure q
    · rw [eqIsQuiet_byValue _ rfl]; exact wpAny_pure q
    · cases h0
      cases f with
      | zero => lia
      | succ f =>
        have ho := hle _ _ hB
        have hT : s.TypeIs (.ref a) "tuple" := ⟨_, ho, rfl⟩
        unfold eqIsQuiet
        refine wpAny_bind (wpAny_specialOf hT F.slot_tuple_eq.lookup ?_)
        show wpAny _ _ (isInstance (.ref a) (.type "tuple") >>= _) _ _ s
        refine wpAny_bind (wpAny_isInstance hT isSubtype_tuple_tuple ?_)
        dsimp only [Bool.not_true, Bool.false_eq_true, if_false]
        refine wpAny_bind (wpAny_seqItems ho rfl ?_)
        refine wpAny_bind ?_
        show wpAny _ _ (forIn xs _ _) _ _ s
        rw [← Array.forIn_toList]
        refine wpAny_forIn_list _ (fun rest r s' => r.1 = none ∧ s' = s ∧ ∃ l', RepL B l' rest ∧ ∀ e ∈ l', keyish n e = true) _ ?_ ?_ _ _ ⟨rfl, rfl, l, hr, hall⟩
        · rintro v rest r s' ⟨hr, rfl, l', hl', hall'⟩
          cases l' with
          | nil => simp [RepL] at hl'
          | cons e l' =>
            dsimp only [RepL, List.cons.injEq] at hl'
            obtain ⟨_, _, ⟨rfl, rfl⟩, h3, h4⟩ := hl'
            refine wpAny_bind (ih f (by lia) hle (hall' e (.head _)) h3 ?_)
            simp only [Bool.not_true, Bool.false_eq_true, if_false]
            exact wpAny_pure ⟨rfl, rfl, l', h4, fun e' he' => hall' e' (.tail _ he')⟩
        · rintro ⟨r1, r2⟩ s' ⟨hr, rfl, _⟩
          simp only at hr
          subst hr
          exact wpAny_pure q

theorem wp_notClass {B : PH} : ∀ (n f : Nat), n ≤ f → ∀ {A : Around} {E : Value → Shared → Prop} {s : Shared} {d : D} {v : Value}, (∀ a o, B a = some o → s.heap.get? a = some o) → keyish n d = true → Rep B d v →
    ∀ {Q : Bool → Shared → Prop}, Q false s → wpAny (model prog w) A (ofAClassStatement f v) Q E s := by
  intro n
  induction n with
  | zero =>
    intro f hf A E s d v hle hk r Q q
    rcases keyish_cases hk r with ⟨i, t, rfl, rfl⟩ | ⟨x, t, rfl, rfl⟩ | ⟨l, a, xs, m, n', h0, _⟩
    · unfold ofAClassStatement; exact wpAny_pure q
    · unfold ofAClassStatement; exact wpAny_pure q
    · cases h0
  | succ n ih =>
    intro f hf A E s d v hle hk r Q q
    rcases keyish_cases hk r with ⟨i, t, rfl, rfl⟩ | ⟨x, t, rfl, rfl⟩ | ⟨l, a, xs, m, n', h0, rfl, rfl, hB, hr, hall⟩
    · unfold ofAClassStatement; exact wpAny_pure q
    · unfold ofAClassStatement; exact wpAny_pure q
    · cases h0
      cases f with
      | zero => lia
      | succ f =>
        have ho := hle _ _ hB
        have hT : s.TypeIs (.ref a) "tuple" := ⟨_, ho, rfl⟩
        unfold ofAClassStatement
        refine wpAny_bind (wpAny_typeOf hT ?_)
        dsimp only
        refine wpAny_bind (wpAny_pure ?_)
        simp only [Bool.not_true, Bool.false_eq_true, if_false]
        refine wpAny_bind ?_
        unfold seqItems?
        refine wpAny_bind (wpAny_load ho (wpAny_pure ?_))
        dsimp only
        rw [← Array.forIn_toList]
        refine wpAny_bind ?_
        refine wpAny_forIn_list _ (fun rest r s' => r.1 = none ∧ s' = s ∧ ∃ l', RepL B l' rest ∧ ∀ e ∈ l', keyish n e = true) _ ?_ ?_ _ _ ⟨rfl, rfl, l, hr, hall⟩
        · rintro v rest r s' ⟨hr, rfl, l', hl', hall'⟩
          cases l' with
          | nil => simp [RepL] at hl'
          | cons e l' =>
            dsimp only [RepL, List.cons.injEq] at hl'
            obtain ⟨_, _, ⟨rfl, rfl⟩, h3, h4⟩ := hl'
            refine wpAny_bind (ih f (by lia) hle (hall' e (.head _)) h3 ?_)
            simp only [Bool.false_eq_true, if_false]
            exact wpAny_pure ⟨rfl, rfl, l', h4, fun e' he' => hall' e' (.tail _ he')⟩
        · rintro ⟨r1, r2⟩ s' ⟨hr, rfl, _⟩
          simp only at hr
          subst hr
          exact wpAny_pure q

theorem wp_byValue {B : PH} : ∀ (n f : Nat), n ≤ f → ∀ {A : Around} {E : Value → Shared → Prop} {s : Shared} {d : D} {v : Value}, (∀ a o, B a = some o → s.heap.get? a = some o) → keyish n d = true → Rep B d v →
    ∀ {Q : Bool → Shared → Prop}, (∀ b, Q b s) → wpAny (model prog w) A (hashByValue f v) Q E s := by
  intro n
  induction n with
  | zero =>
    intro f hf A E s d v hle hk r Q q
    rcases keyish_cases hk r with ⟨i, t, rfl, rfl⟩ | ⟨x, t, rfl, rfl⟩ | ⟨l, a, xs, m, n', h0, _⟩
    · cases f <;> (unfold hashByValue; exact wpAny_pure (q _))
    · cases f <;> (unfold hashByValue; exact wpAny_pure (q _))
    · cases h0
  | succ n ih =>
    intro f hf A E s d v hle hk r Q q
    rcases keyish_cases hk r with ⟨i, t, rfl, rfl⟩ | ⟨x, t, rfl, rfl⟩ | ⟨l, a, xs, m, n', h0, rfl, rfl, hB, hr, hall⟩
    · cases f <;> (unfold hashByValue; exact wpAny_pure (q _))
    · cases f <;> (unfold hashByValue; exact wpAny_pure (q _))
    · cases h0
      cases f with
      | zero => lia
      | succ f =>
        have ho := hle _ _ hB
        have hT : s.TypeIs (.ref a) "tuple" := ⟨_, ho, rfl⟩
        unfold hashByValue
        refine wpAny_bind (wpAny_specialOf hT F.slot_tuple_hash.lookup ?_)
        dsimp only
        refine wpAny_bind (wpAny_seqItems ho rfl ?_)
        refine wpAny_bind ?_
        show wpAny _ _ (forIn xs _ _) _ _ s
        rw [← Array.forIn_toList]
        refine wpAny_forIn_list _ (fun rest r s' => r.1 = none ∧ s' = s ∧ ∃ l', RepL B l' rest ∧ ∀ e ∈ l', keyish n e = true) _ ?_ ?_ _ _ ⟨rfl, rfl, l, hr, hall⟩
        · rintro v rest r s' ⟨hr, rfl, l', hl', hall'⟩
          cases l' with
          | nil => simp [RepL] at hl'
          | cons e l' =>
            dsimp only [RepL, List.cons.injEq] at hl'
            obtain ⟨_, _, ⟨rfl, rfl⟩, h3, h4⟩ := hl'
            refine wpAny_bind (ih f (by lia) hle (hall' e (.head _)) h3 fun b => ?_)
            cases b
            · simp only [Bool.not_false, if_true]
              first
                | exact wpAny_pure (q _)
                | exact wpAny_pure (wpAny_pure (q _))
                | exact wpAny_bind (wpAny_pure (wpAny_pure (q _)))
                | trace_state
            · simp only [Bool.not_true, Bool.false_eq_true, if_false]
              exact wpAny_pure ⟨rfl, rfl, l', h4, fun e' he' => hall' e' (.tail _ he')⟩
        · rintro ⟨r1, r2⟩ s' ⟨hr, rfl, _⟩
          simp only at hr
          subst hr
          exact wpAny_pure (q _)

theorem wp_hash {B : PH} : ∀ (n : Nat) {A : Around} {E : Value → Shared → Prop} {s : Shared} {d : D} {v : Value}, A.units + n < cLine → (∀ a o, B a = some o → s.heap.get? a = some o) → keyish n d = true → Rep B d v →
    ∀ {Q : Int → Shared → Prop}, (∀ tk, Q (hashN w n d) { s with toks := tk }) → wpAny (model prog w) A (pyHash v) Q E s := by
  intro n
  induction n with
  | zero =>
    intro A E s d v hu hle hk r Q q
    rcases keyish_cases hk r with ⟨i, t, rfl, rfl⟩ | ⟨x, t, rfl, rfl⟩ | ⟨l, a, xs, m, n', h0, _⟩
    · exact wpAny_pyHash_int (q _)
    · exact wpAny_pyHash_str (q _)
    · cases h0
  | succ n ih =>
    intro A E s d v hu hle hk r Q q
    rcases keyish_cases hk r with ⟨i, t, rfl, rfl⟩ | ⟨x, t, rfl, rfl⟩ | ⟨l, a, xs, m, n', h0, rfl, rfl, hB, hr, hall⟩
    · exact wpAny_pyHash_int (q _)
    · exact wpAny_pyHash_str (q _)
    · cases h0
      have ho := hle _ _ hB
      have hT : s.TypeIs (.ref a) "tuple" := ⟨_, ho, rfl⟩
      unfold pyHash
      refine wpAny_bind (wpAny_cRoomFor_or (.inr (by lia)) ?_)
      refine wpAny_bind (wpAny_specialOf hT F.slot_tuple_hash.lookup ?_)
      show wpAny _ _ (if (some (Value.builtin "tuple.__hash__") == some Value.none) = true then _ else _) Q E s
      rw [if_neg (by rw [beq_builtin_none]; exact Bool.false_ne_true)]
      refine wpAny_bind (wpAny_specialOf hT F.slot_tuple_hash.lookup ?_)
      show wpAny _ _ (callSpecialIfBoundUnlessNone? (.ref a) "__hash__" _ >>= _) Q E s
      refine wpAny_bind (wpAny_callSpecialIfBoundUnlessNone?_slot hT F.slot_tuple_hash (wpAny_call_entry F.slot_tuple_hash hT F.entry_tuple_hash ?_ (F.args_tuple_hash_1 _)))
      show wpAny _ _ (Builtin.Tuple.tupleItemsOf (.ref a) >>= _) _ _ s
      refine wpAny_bind (wpAny_tupleItemsOf ho rfl ?_)
      refine wpAny_bind ?_
      rw [← Array.forIn_toList]
      refine wpAny_forIn_list _
        (fun rest (b : Array Int) s' => ∃ done left, l = done ++ left ∧ RepL B left rest ∧ b.toList = done.map (hashN w n) ∧ ∃ tk, s' = { s with toks := tk })
        _ ?_ ?_ _ _ ⟨[], l, rfl, hr, rfl, s.toks, by cases s; rfl⟩
      · rintro x rest b s' ⟨done, left, rfl, hl, hb, tk, rfl⟩
        cases left with
        | nil => simp [RepL] at hl
        | cons e left =>
          dsimp only [RepL, List.cons.injEq] at hl
          obtain ⟨_, _, ⟨rfl, rfl⟩, h3, h4⟩ := hl
          refine wpAny_bind (ih (s := { s with toks := tk }) (by show A.units + 1 + n < _; lia) hle (hall e (by simp)) h3 fun tk' => ?_)
          first
            | exact wpAny_pure ⟨done ++ [e], left, by simp, h4, by simp [hb], tk', rfl⟩
            | exact wpAny_bind (wpAny_pure (wpAny_pure ⟨done ++ [e], left, by simp, h4, by simp [hb], tk', rfl⟩))
      · rintro b s' ⟨done, left, rfl, hl, hb, tk, rfl⟩
        cases left with
        | cons e left => simp [RepL] at hl
        | nil =>
          rw [List.append_nil] at q
          show wpAny _ _ (retInt (Builtin.Tuple.tupleHashOf b.toList)) _ _ _
          rw [hb]
          refine wpAny_ret_mkInt ?_
          show wpAny _ _ (if (decide (-(2 : Int) ^ 63 ≤ Builtin.Tuple.tupleHashOf (done.map (hashN w n))) && decide (Builtin.Tuple.tupleHashOf (done.map (hashN w n)) < 2 ^ 63)) = true then _ else _) Q E _
          dsimp only [hashN] at q
          unfold reduceHash at q
          by_cases hr : (decide (-(2 : Int) ^ 63 ≤ Builtin.Tuple.tupleHashOf (done.map (hashN w n))) && decide (Builtin.Tuple.tupleHashOf (done.map (hashN w n)) < 2 ^ 63)) = true
          · rw [if_pos hr]
            rw [if_pos hr] at q
            exact wpAny_pure (q _)
          · rw [if_neg hr]
            rw [if_neg hr] at q
            exact wpAny_bind (wpAny_rule (wpAny_pure (q _)))
end
end
section
/-- what a table's elements tell -/
noncomputable def Told (w : World) (n : Nat) (B : PH) (dOf : Nat → D) (es : Array (Int × Value)) : Prop :=
  ∀ (i : Nat) (h : Int) (y : Value), es[i]? = some (h, y) → h = hashN w n (dOf i) ∧ keyish n (dOf i) = true ∧ Rep B (dOf i) y ∧ ∃ a, y = .ref a

noncomputable def HA (es : Array (Int × Value)) (F : Nat → Int) : Prop := ∀ (i : Nat) (h : Int) (y : Value), es[i]? = some (h, y) → F i = h

section
variable {t : SetTable} {es : Array (Int × Value)} {h : Int} {K k : Nat}
theorem Tb.elem (T : Tb t es) {i j : Nat} (hi : t.place[i]? = some j) : ∃ h y, es[i]? = some (h, y) := by
  have := (getD_some hi).1
  rw [T.size] at this
  exact ⟨es[i].1, es[i].2, by rw [Array.getElem?_eq_getElem this]⟩
theorem probeA (T : Tb t es) (hK : ¬ Occ t (pos t.mask h K).j) (hlt : ∀ k, k < K → Occ t (pos t.mask h k).j) (hk : k ≤ K) (hb : K ≤ 10 * (13 + t.mask))
    (hn : ∀ k', k ≤ k' → k' < K → ∀ (i : Nat) y, t.place[i]? = some (pos t.mask h k').j → es[i]? ≠ some (h, y)) (F : Nat → Int) (hF : HA es F) :
    t.probe F h (pos t.mask h k) = some (.empty (pos t.mask h K).j none) := by
  unfold SetTable.probe
  rcases probe_go T.inc T.dum F hK hlt (10 * SetTable.turns t.mask) k hk (by unfold SetTable.turns; lia) with ⟨a, _⟩ | ⟨k', i, a1, a2, a3, a4, a5, a6, a7⟩
  · exact a
  · obtain ⟨h', y, he⟩ := T.elem a3
    have := hF i h' y he
    rw [a5] at this
    subst this
    exact absurd he (hn k' a1 a2 i y a3)
theorem probeB (T : Tb t es) (hK : ¬ Occ t (pos t.mask h K).j) (hlt : ∀ k, k < K → Occ t (pos t.mask h k).j) (hk : k ≤ K) (hb : K ≤ 10 * (13 + t.mask)) {k' i : Nat} {y : Value}
    (h1 : k ≤ k') (h2 : k' < K) (h3 : t.place[i]? = some (pos t.mask h k').j) (h4 : es[i]? = some (h, y))
    (hn : ∀ k'', k ≤ k'' → k'' < k' → ∀ (i : Nat) y, t.place[i]? = some (pos t.mask h k'').j → es[i]? ≠ some (h, y)) (F : Nat → Int) (hF : HA es F) :
    t.probe F h (pos t.mask h k) = some (.candidate (pos t.mask h k').j i (pos t.mask h (k' + 1))) := by
  unfold SetTable.probe
  rcases probe_go T.inc T.dum F hK hlt (10 * SetTable.turns t.mask) k hk (by unfold SetTable.turns; lia) with ⟨a, b⟩ | ⟨k2, i2, a1, a2, a3, a4, a5, a6, a7⟩
  · exact absurd (hF i h y h4) (b k' h1 h2 i h3)
  · rcases Nat.lt_trichotomy k2 k' with q | q | q
    · obtain ⟨h', y', he⟩ := T.elem a3
      have := hF i2 h' y' he
      rw [a5] at this
      subst this
      exact absurd he (hn k2 a1 q i2 y' a3)
    · subst q
      obtain rfl := inc_inj T.inc a3 h3
      exact a6
    · exact absurd (hF i h y h4) (a7 k' h1 q i h3)
end

section
variable {prog : Program} {w : World} {A : Around} {E : Value → Shared → Prop} {s : Shared} {B : PH} {a : Addr} {o : Obj} {es : Array (Int × Value)} {ep : Nat} {t : SetTable} {x : Value} {d : D} {n : Nat} {dOf : Nat → D}

theorem wp_seen (hle : ∀ a o, B a = some o → s.heap.get? a = some o) (hn : n ≤ 8) (hk : keyish n d = true) (r : Rep B d x) (ys : List Value) (hy : ∀ y ∈ ys, ∃ e, keyish n e = true ∧ Rep B e y) {Q : Bool → Shared → Prop} (q : Q false s) :
    wpAny (model prog w) A (searchCouldBeSeen x ys) Q E s := by
  unfold searchCouldBeSeen
  refine wpAny_bind ?_
  refine wpAny_forIn_list _ (fun rest r s' => r.1 = none ∧ s' = s ∧ ∀ y ∈ rest, ∃ e, keyish n e = true ∧ Rep B e y) _ ?_ ?_ _ _ ⟨rfl, rfl, hy⟩
  · rintro y rest r' s' ⟨hr, rfl, hall⟩
    obtain ⟨e, he1, he2⟩ := hall y (.head _)
    dsimp only
    have rest' : ∀ y' ∈ rest, ∃ e, keyish n e = true ∧ Rep B e y' := fun y' hy' => hall y' (.tail _ hy')
    split <;> split
    all_goals first
      | exact wpAny_pure ⟨rfl, rfl, rest'⟩
      | (refine wpAny_bind (wp_quiet n 8 hn hle hk r ?_)
         simp only [Bool.not_true, Bool.false_eq_true, if_false]
         refine wpAny_bind (wp_quiet n 8 hn hle he1 he2 ?_)
         simp only [Bool.not_true, Bool.false_eq_true, if_false]
         refine wpAny_bind (wp_notClass n 8 hn hle hk r ?_)
         simp only [Bool.false_eq_true, if_false]
         refine wpAny_bind (wp_notClass n 8 hn hle he1 he2 ?_)
         simp only [Bool.false_eq_true, if_false]
         exact wpAny_pure ⟨rfl, rfl, rest'⟩)
  · rintro ⟨r1, r2⟩ s' ⟨hr, rfl, _⟩
    simp only at hr
    subst hr
    exact wpAny_pure q

theorem mask_odd {m : Nat} (h : MaskOk m) : (m % 2 == 0) = false := by rcases h with rfl | rfl | rfl <;> rfl

open Classical in
theorem wp_search (hle : ∀ a o, B a = some o → s.heap.get? a = some o) (hn : n ≤ 8) (hu : A.units + n < cLine) (hk : keyish n d = true) (r : Rep B d x) (hT : Told w n B dOf es)
    (ho : s.heap.get? a = some o) (hd : o.data = .set es ep t) (T : Tb t es) {K : Nat} (hKb : K ≤ 10 * (13 + t.mask)) (hK : ¬ Occ t (pos t.mask (hashN w n d) K).j) (hlt : ∀ k, k < K → Occ t (pos t.mask (hashN w n d) k).j)
    {Q : SetFound → Shared → Prop} (qf : (∃ (i : Nat) (h : Int) (y : Value), es[i]? = some (h, y) ∧ dOf i = d) → Q (.there none) s)
    (qn : (∀ (i : Nat) (h : Int) (y : Value), es[i]? = some (h, y) → dOf i ≠ d) → Q (.free (pos t.mask (hashN w n d) K).j false) s) :
    ∀ (f k : Nat) (stand : Option SetTable.Probe), stand.getD (t.probeStart (hashN w n d)) = pos t.mask (hashN w n d) k → k ≤ K → K < k + f →
      (∀ k', k' < k → ∀ i : Nat, t.place[i]? = some (pos t.mask (hashN w n d) k').j → dOf i ≠ d) →
      wpAny (model prog w) A (setSearchFrom a x (hashN w n d) true f stand) Q E s := by
  intro f
  induction f with
  | zero => intro k stand _ h1 h2; lia
  | succ f ih =>
    intro k stand hst h1 h2 hpast
    unfold setSearchFrom
    refine wpAny_bind (wpAny_setState_of ho hd T.fits ?_)
    dsimp only
    rw [show t.gaveWay = false from mask_odd T.mask]
    simp only [Bool.false_eq_true, if_false]
    rw [hst]
    by_cases hex : ∃ k', k ≤ k' ∧ k' < K ∧ ∃ (i : Nat) (y : Value), t.place[i]? = some (pos t.mask (hashN w n d) k').j ∧ es[i]? = some (hashN w n d, y)
    · obtain ⟨k0, hk0⟩ := hex
      obtain ⟨k', _, ⟨h3, h4, i, y, h5, h6⟩, h7⟩ := least (P := fun k' => k ≤ k' ∧ k' < K ∧ ∃ (i : Nat) (y : Value), t.place[i]? = some (pos t.mask (hashN w n d) k').j ∧ es[i]? = some (hashN w n d, y)) k0 hk0
      rw [probeB T hK hlt h1 hKb h3 h4 h5 h6 (fun k'' a1 a2 i' y' a3 a4 => h7 k'' a2 ⟨a1, by lia, i', y', a3, a4⟩)]
      case hF => exact fun i' h' y' e => by show ((es[i']?.map (·.1)).getD 0) = h'; rw [e]; rfl
      dsimp only
      obtain ⟨_, b2, b3, ya, rfl⟩ := hT i _ _ h6
      have hmid : ∀ k'', k'' < k' → ∀ i' : Nat, t.place[i']? = some (pos t.mask (hashN w n d) k'').j → dOf i' ≠ d := fun k'' c1 i' c2 c3 => by
        by_cases c4 : k'' < k
        · exact hpast k'' c4 i' c2 c3
        · obtain ⟨h', y', he⟩ := T.elem c2
          have c5 := (hT i' _ _ he).1
          rw [c3] at c5
          subst c5
          exact h7 k'' c1 ⟨by lia, by lia, i', y', c2, he⟩
      have cont : wpAny (model prog w) A (do
          let some (_, y) := es[i]? | unsupported "internal:set-entry"
          let equal ← holding [y] (eqBool y x)
          let (es', _, t') ← setState a
          if true && equal then return .there none
          let some sme := t'.sameMemory t.moves t.mask | unsupported "set.changed-during-lookup:is-the-new-block-at-the-old-address"
          let still ← match (if sme then t'.slot (pos t.mask (hashN w n d) k').j else .empty) with
            | .live i' => match es'[i']? with
              | some (_, y') => do pure (if ← isSame y' y then some i' else none)
              | none => pure none
            | _ => pure none
          match still with
          | none => rule "set.search.anew"; setSearchFrom a x (hashN w n d) true f none
          | some i' => if equal then return .there (some i') else setSearchFrom a x (hashN w n d) true f (some (pos t.mask (hashN w n d) (k' + 1)))) Q E s := by
        rw [h6]
        dsimp only
        refine wpAny_bind (wpAny_holding (wp_eqB hle (keyish_plain _ _ b2) (keyish_plain _ _ hk) b3 r hu ?_))
        refine wpAny_bind (wpAny_setState_of ho hd T.fits ?_)
        dsimp only
        by_cases hq : dOf i = d
        · rw [decide_eq_true hq]
          simp only [Bool.and_self, if_true]
          exact wpAny_pure (qf ⟨i, _, _, h6, hq⟩)
        · rw [decide_eq_false hq]
          simp only [Bool.and_false, Bool.false_eq_true, if_false]
          rw [show t.sameMemory t.moves t.mask = some true by unfold SetTable.sameMemory; rw [if_pos (by simp)]]
          dsimp only
          rw [if_pos rfl, slot_live t T.inc h5]
          dsimp only
          rw [h6]
          dsimp only
          refine wpAny_bind (wpAny_isSame_ref_self ?_)
          refine wpAny_bind (wpAny_pure ?_)
          rw [if_pos rfl]
          dsimp only
          refine ih (k' + 1) _ rfl (by lia) (by lia) fun k'' c1 i' c2 => ?_
          by_cases c3 : k'' = k'
          · subst c3
            rw [inc_inj T.inc c2 h5]; exact hq
          · exact hmid k'' (by lia) i' c2
      cases hl : t.led with
      | true =>
        simp only [Bool.not_true, Bool.false_eq_true, if_false]
        exact cont
      | false =>
        simp only [Bool.not_false, if_true]
        refine wpAny_bind (wp_seen hle hn hk r _ (fun y' hy' => ?_) ?_)
        · rw [List.mem_map] at hy'
          obtain ⟨e, he, rfl⟩ := hy'
          rw [Array.mem_toList_iff, Array.mem_filter] at he
          obtain ⟨i', hi', hie⟩ := Array.getElem_of_mem he.1
          obtain ⟨_, c2, c3, _⟩ := hT i' e.1 e.2 (by rw [Array.getElem?_eq_getElem hi', hie])
          exact ⟨_, c2, c3⟩
        · simp only [Bool.false_eq_true, if_false]
          exact cont
    · rw [probeA T hK hlt h1 hKb (fun k'' a1 a2 i' y' a3 a4 => hex ⟨k'', a1, a2, i', y', a3, a4⟩)]
      case hF => exact fun i' h' y' e => by show ((es[i']?.map (·.1)).getD 0) = h'; rw [e]; rfl
      dsimp only
      refine wpAny_pure (qn fun i h' y he hq => ?_)
      have b1 := (hT i _ _ he).1
      rw [hq] at b1
      subst b1
      obtain ⟨k2, c1, c2⟩ := T.path i _ _ he
      have c3 : k2 < K := by
        rcases Nat.lt_trichotomy k2 K with z | z | z
        · exact z
        · subst z; exact absurd ⟨i, c1⟩ hK
        · exact absurd (c2 K z) hK
      by_cases c4 : k2 < k
      · exact hpast k2 c4 i c1 hq
      · exact hex ⟨k2, by lia, c3, i, y, c1, he⟩
end
end
section
theorem rep_inj {B : PH} : ∀ (n k : Nat) (d e : D) (v : Value), keyish n d = true → keyish k e = true → Rep B d v → Rep B e v → d = e := by
  intro n
  induction n with
  | zero =>
    intro k d e v h1 h2 r1 r2
    rcases keyish_cases h1 r1 with ⟨i, t, rfl, rfl⟩ | ⟨x, t, rfl, rfl⟩ | ⟨l, a, xs, m, n', h0, _⟩
    · rcases keyish_cases h2 r2 with ⟨i', t', rfl, e'⟩ | ⟨x', t', rfl, e'⟩ | ⟨l', a', xs', m', n', h0, rfl, e', _⟩ <;> cases e'
      rfl
    · rcases keyish_cases h2 r2 with ⟨i', t', rfl, e'⟩ | ⟨x', t', rfl, e'⟩ | ⟨l', a', xs', m', n', h0, rfl, e', _⟩ <;> cases e'
      rfl
    · cases h0
  | succ n ih =>
    intro k d e v h1 h2 r1 r2
    rcases keyish_cases h1 r1 with ⟨i, t, rfl, rfl⟩ | ⟨x, t, rfl, rfl⟩ | ⟨l, a, xs, m, n', h0, rfl, rfl, hB, hr, hall⟩
    · rcases keyish_cases h2 r2 with ⟨i', t', rfl, e'⟩ | ⟨x', t', rfl, e'⟩ | ⟨l', a', xs', m', n', h0, rfl, e', _⟩ <;> cases e'
      rfl
    · rcases keyish_cases h2 r2 with ⟨i', t', rfl, e'⟩ | ⟨x', t', rfl, e'⟩ | ⟨l', a', xs', m', n', h0, rfl, e', _⟩ <;> cases e'
      rfl
    · cases h0
      rcases keyish_cases h2 r2 with ⟨i', t', rfl, e'⟩ | ⟨x', t', rfl, e'⟩ | ⟨l', a', xs', m', n2, h0, rfl, e', hB', hr', hall'⟩ <;> cases e'
      rw [hB] at hB'
      injection hB' with hB'
      injection hB' with _ _ hB'
      injection hB' with hB' _
      subst hB'
      have key : ∀ (l l' : List D) (vs : List Value), RepL B l vs → RepL B l' vs → (∀ e ∈ l, keyish n e = true) → (∀ e ∈ l', keyish n2 e = true) → l = l' := by
        intro l
        induction l with
        | nil =>
          intro l' vs a1 a2 _ _
          dsimp only [RepL] at a1
          subst a1
          cases l' with
          | nil => rfl
          | cons _ _ => simp [RepL] at a2
        | cons d l hi =>
          intro l' vs a1 a2 a3 a4
          dsimp only [RepL] at a1
          obtain ⟨v, r, rfl, b1, b2⟩ := a1
          cases l' with
          | nil => simp [RepL] at a2
          | cons d' l' =>
            dsimp only [RepL, List.cons.injEq] at a2
            obtain ⟨_, _, ⟨rfl, rfl⟩, c1, c2⟩ := a2
            rw [ih n2 d d' _ (a3 _ (.head _)) (a4 _ (.head _)) b1 c1, hi l' _ b2 c2 (fun e he => a3 e (.tail _ he)) fun e he => a4 e (.tail _ he)]
      rw [key l l' _ hr hr' hall hall']

noncomputable def ElIs (w : World) (n : Nat) (B : PH) (e : Int × Value) (d : D) : Prop := e.1 = hashN w n d ∧ keyish n d = true ∧ Rep B d e.2 ∧ ∃ a, e.2 = .ref a
inductive Els (w : World) (n : Nat) (B : PH) : List (Int × Value) → List D → Prop
  | nil : Els w n B [] []
  | cons {e d l ds} : ElIs w n B e d → Els w n B l ds → Els w n B (e :: l) (d :: ds)
theorem Els.length {w : World} {n : Nat} {B : PH} {l : List (Int × Value)} {ds : List D} (x : Els w n B l ds) : l.length = ds.length := by
  induction x with
  | nil => rfl
  | cons _ _ ih => simp [ih]
theorem Els.right {w : World} {n : Nat} {B : PH} {l : List (Int × Value)} {ds : List D} (x : Els w n B l ds) {e : Int × Value} (he : e ∈ l) : ∃ d ∈ ds, ElIs w n B e d := by
  induction x with
  | nil => cases he
  | @cons e' d' l ds a _ ih =>
    rcases List.mem_cons.mp he with rfl | he
    · exact ⟨d', .head _, a⟩
    · obtain ⟨d, h1, h2⟩ := ih he; exact ⟨d, .tail _ h1, h2⟩
theorem Els.left {w : World} {n : Nat} {B : PH} {l : List (Int × Value)} {ds : List D} (x : Els w n B l ds) {d : D} (he : d ∈ ds) : ∃ e ∈ l, ElIs w n B e d := by
  induction x with
  | nil => cases he
  | @cons e' d' l ds a _ ih =>
    rcases List.mem_cons.mp he with rfl | he
    · exact ⟨e', .head _, a⟩
    · obtain ⟨e, h1, h2⟩ := ih he; exact ⟨e, .tail _ h1, h2⟩

/-- a set with just these in it -/
noncomputable def SetD (w : World) (n : Nat) (B : PH) (ds : List D) (o : Obj) : Prop :=
  ∃ es ep t l, o.ExactSet ∧ o.data = .set es ep t ∧ Tb t es ∧ t.place.size * 5 < t.mask * 3 ∧ es.toList.Perm l ∧ Els w n B l ds

theorem setD_fresh (w : World) (n : Nat) (B : PH) (led : Bool) : SetD w n B [] { cls := .type "set", dict := none, data := .set #[] 0 (.fresh 0 0 led) } :=
  ⟨#[], 0, _, [], ⟨rfl, rfl, rfl⟩, rfl, tb_fresh led, by show 0 * 5 < 7 * 3; decide, .refl _, .nil⟩

theorem grow7' : ∀ u, u < 8 → 5 ≤ u → SetTable.sizeAbove (SetTable.grown u) = 32 := by decide +kernel
theorem grow31' : ∀ u, u < 32 → 19 ≤ u → SetTable.sizeAbove (SetTable.grown u) = 128 := by decide +kernel

section
variable {prog : Program} {w : World} {A : Around} {E : Value → Shared → Prop} {s : Shared} {B : PH} {a b : Addr} {d : D} {ds : List D} {n : Nat}

theorem set_update {h : Heap} {o : Obj} {es es' : Array (Int × Value)} {ep : Nat} {t t' : SetTable} (ho : h.get? a = some o) (hd : o.data = .set es ep t) :
    (h.update a (Obj.putSet es' t')).get? a = some { o with data := .set es' (ep + 1) t' } := by
  have := Heap.get?_update_self (Obj.putSet es' t') ho (by rw [putSet_of es' t' hd]; rfl)
  rw [putSet_of es' t' hd] at this; exact this

theorem wp_relay {o : Obj} {es : Array (Int × Value)} {ep : Nat} {t : SetTable} {l : List (Int × Value)} {wanted m : Nat} (ho : s.heap.get? a = some o) (hex : o.ExactSet) (hd : o.data = .set es ep t) (T : Tb t es)
    (hm : MaskOk m) (hw : SetTable.sizeAbove wanted = m + 1) (hl : es.size ≤ m) (hnf : es.size * 5 < m * 3) (hp : es.toList.Perm l) (hE : Els w n B l ds) {Q : Unit → Shared → Prop}
    (q : ∀ h', Heap.SameBut a s.heap h' → (∃ o', h'.get? a = some o' ∧ SetD w n B ds o') → Q () { s with heap := h' }) :
    wpAny (model prog w) A (setRelay a wanted) Q E s := by
  unfold setRelay
  refine wpAny_bind (wpAny_setState_of ho hd T.fits ?_)
  dsimp only
  rw [if_neg (by rw [hw, sizeLine_eq]; rcases hm with rfl | rfl | rfl <;> decide)]
  obtain ⟨t', order, h1, h2, h3, h4, h5, h6⟩ := laid_ok (finger := t.finger) (moves := t.movedTo m) (led := t.led) (plain := t.plain) hm es hl
  have hr : t.relaid (es.map (·.1)) wanted = some (t', order) := by
    unfold SetTable.relaid
    rw [hw]
    exact h1
  rw [hr]
  refine wpAny_bind ?_
  show wpAny _ _ (if ((order.filterMap (es[·]?)).size != es.size) = true then _ else _) _ _ s
  rw [if_neg (by rw [h4]; simp)]
  refine wpAny_pure ?_
  dsimp only
  refine wpAny_storeSet_of ho hd (q _ (Heap.SameBut.update _ a _) ⟨_, set_update ho hd, _, _, _, l, hex, rfl, h6, ?_, h5.trans hp, hE⟩) ?_
  · rw [h3, h2]; exact hnf
  · rw [h4, sizeLine_eq]; rcases hm with rfl | rfl | rfl <;> lia

open Classical in
theorem wp_add (hle : ∀ a o, B a = some o → s.heap.get? a = some o) (hn : n ≤ 8) (hu : A.units + n < cLine) (hk : keyish n d = true) (r : Rep B d (.ref b))
    {o : Obj} (ho : s.heap.get? a = some o) (hS : SetD w n B ds o) (hlen : ds.length < 60) {Q : Bool → Shared → Prop}
    (q : ∀ h' c, Heap.SameBut a s.heap h' → (∃ o', h'.get? a = some o' ∧ SetD w n B (if d ∈ ds then ds else d :: ds) o') → Q c { s with heap := h' }) :
    wpAny (model prog w) A (setAddHashed a (.ref b) (hashN w n d)) Q E s := by
  obtain ⟨es, ep, t, l, hex, hd, T, hnf, hp, hE⟩ := hS
  have hsz : es.size = ds.length := by rw [← hE.length, ← hp.length_eq, Array.length_toList]
  obtain ⟨K, hKb, hK, hlt⟩ := first_free T.inc T.mask T.fill (hashN w n d)
  have hch : ∀ i : Nat, ∃ d', ∀ h y, es[i]? = some (h, y) → d' ∈ ds ∧ ElIs w n B (h, y) d' := fun i => by
    cases he : es[i]? with
    | none => exact ⟨.none, fun h y e => by cases e⟩
    | some e =>
      obtain ⟨d', h1, h2⟩ := hE.right (hp.mem_iff.mp (by
        rw [Array.mem_toList_iff]
        exact Array.mem_of_getElem? he))
      exact ⟨d', fun h y e' => by cases e'; exact ⟨h1, h2⟩⟩
  obtain ⟨dOf, hdOf⟩ := Classical.axiomOfChoice hch
  unfold setAddHashed setAddHashedIn
  refine wpAny_holding ?_
  refine wpAny_bind (wpAny_setState_of ho hd T.fits ?_)
  dsimp only
  rw [show byScan (.ref b) es = false from rfl]
  simp only [Bool.false_eq_true, if_false]
  unfold setSearch
  refine wpAny_bind (wp_search hle hn hu hk r (dOf := dOf) (fun i h y e => let ⟨_, h2, h3, h4, h5⟩ := hdOf i h y e; ⟨h2, h3, h4, h5⟩) ho hd T hKb hK hlt ?_ ?_ 100000 0 none rfl (Nat.zero_le _)
    (by have : t.mask ≤ 127 := by { rcases T.mask with e | e | e <;> rw [e] <;> decide }
        lia) (fun k' h => by lia))
  · rintro ⟨i, h, y, he, hq⟩
    have hmem : d ∈ ds := hq ▸ (hdOf i h y he).1
    refine wpAny_pure ?_
    have e : s = { s with heap := s.heap } := by cases s; rfl
    rw [e]
    refine q s.heap false (Heap.SameBut.refl a s.heap) ⟨o, ho, ?_⟩
    rw [if_pos hmem]
    exact ⟨es, ep, t, l, hex, hd, T, hnf, hp, hE⟩
  · intro hall
    have hmem : d ∉ ds := fun hm => by
      obtain ⟨e, h1, h2, h3, h4, _⟩ := hE.left hm
      obtain ⟨i, hi, hie⟩ := Array.getElem_of_mem (Array.mem_toList_iff.mp (hp.mem_iff.mpr h1))
      have he : es[i]? = some (e.1, e.2) := by rw [Array.getElem?_eq_getElem hi, hie]
      obtain ⟨_, _, g3, g4, _⟩ := hdOf i _ _ he
      exact hall i _ _ he (rep_inj n n _ _ _ g3 h3 g4 h4)
    rw [if_neg hmem] at q
    dsimp only
    refine wpAny_bind (wpAny_setState_of ho hd T.fits ?_)
    dsimp only
    rw [put_eq t T.dum]
    dsimp only
    have hroom : t.place.size + 1 ≤ t.mask := by rcases T.mask with e | e | e <;> rw [e] at hnf ⊢ <;> lia
    have T1 := tb_put T (x := .ref b) hK hlt hroom
    obtain ⟨b1, _, _⟩ := below_spec t.place T.inc (pos t.mask (hashN w n d) K).j
    generalize (pos t.mask (hashN w n d) K).j = j at *
    have b1' : SetTable.below t.place j ≤ es.size := by rw [← T.size]; exact b1
    have hp1 : (SetTable.insertAt es (SetTable.below t.place j) (hashN w n d, .ref b)).toList.Perm ((hashN w n d, .ref b) :: l) := (insertAt_perm es b1' _).trans (hp.cons _)
    have hE1 : Els w n B ((hashN w n d, .ref b) :: l) (d :: ds) := .cons ⟨rfl, hk, r, b, rfl⟩ hE
    have hsz1 : (SetTable.insertAt es (SetTable.below t.place j) (hashN w n d, .ref b)).size = es.size + 1 := insertAt_size _ b1' _
    have hpsz : (SetTable.insertAt t.place (SetTable.below t.place j) j).size = t.place.size + 1 := insertAt_size _ b1 _
    have hts := T.size
    have fin : ∀ t1 : SetTable, t1.place = SetTable.insertAt t.place (SetTable.below t.place j) j → t1.mask = t.mask → t1.dummies = #[] →
        Tb t1 (SetTable.insertAt es (SetTable.below t.place j) (hashN w n d, .ref b)) →
        wpAny (model prog w) A (do
          storeSet a (SetTable.insertAt es (SetTable.below t.place j) (hashN w n d, .ref b)) t1
          if (!false && t1.tooFull) = true then do
            setRelay a (SetTable.grown (es.size + 1))
            pure true
          else pure true) Q E s := by
      intro t1 e1 e2 e3 T2
      refine wpAny_bind (wpAny_storeSet_of ho hd ?_ (by rw [hsz1, sizeLine_eq]; lia))
      have ho1 := set_update (es' := SetTable.insertAt es (SetTable.below t.place j) (hashN w n d, .ref b)) (t' := t1) ho hd
      have hfull : t1.tooFull = decide ((t.place.size + 1) * 5 ≥ t.mask * 3) := by
        unfold SetTable.tooFull SetTable.fill
        rw [e1, e2, e3, hpsz]
        simp
      rw [hfull]
      by_cases hf : (t.place.size + 1) * 5 ≥ t.mask * 3
      · rw [decide_eq_true hf]
        simp only [Bool.not_false, Bool.and_self, if_true]
        have hex1 : ({ o with data := .set (SetTable.insertAt es (SetTable.below t.place j) (hashN w n d, .ref b)) (ep + 1) t1 } : Obj).ExactSet := hex
        have fin2 : ∀ m, MaskOk m → SetTable.sizeAbove (SetTable.grown (es.size + 1)) = m + 1 → es.size + 1 ≤ m → (es.size + 1) * 5 < m * 3 →
            wpAny (model prog w) A (do setRelay a (SetTable.grown (es.size + 1)); pure true) Q E { s with heap := s.heap.update a (Obj.putSet (SetTable.insertAt es (SetTable.below t.place j) (hashN w n d, .ref b)) t1) } := by
          intro m m1 m2 m3 m4
          refine wpAny_bind (wp_relay (s := { s with heap := s.heap.update a (Obj.putSet (SetTable.insertAt es (SetTable.below t.place j) (hashN w n d, .ref b)) t1) }) ho1 hex1 rfl T2 m1 m2 (by rw [hsz1]; exact m3) (by rw [hsz1]; exact m4) hp1 hE1 fun h' hsb hSD => ?_)
          exact wpAny_pure (q h' true ((Heap.SameBut.update s.heap a _).trans hsb) hSD)
        rcases T.mask with e | e | e
        · rw [e] at hnf hf
          exact fin2 31 (.inr (.inl rfl)) (by rw [grow7' _ (by lia) (by lia)]) (by lia) (by lia)
        · rw [e] at hnf hf
          exact fin2 127 (.inr (.inr rfl)) (by rw [grow31' _ (by lia) (by lia)]) (by lia) (by lia)
        · rw [e] at hnf hf
          lia
      · rw [decide_eq_false hf]
        simp only [Bool.not_false, Bool.and_false, Bool.false_eq_true, if_false]
        refine wpAny_pure (q _ true (Heap.SameBut.update s.heap a _) ⟨_, ho1, _, _, _, _, hex, rfl, T2, ?_, hp1, hE1⟩)
        rw [e1, e2, hpsz]; lia
    cases hpl : t.plain with
    | true =>
      simp only [if_true]
      refine wpAny_bind (wp_byValue n 8 hn hle hk r fun bv => ?_)
      cases bv with
      | true =>
        simp only [if_true]
        exact fin _ rfl rfl T.dum (tb_plain T1 true)
      | false =>
        simp only [Bool.false_eq_true, if_false]
        exact fin _ rfl rfl T.dum (tb_plain T1 false)
    | false =>
      simp only [Bool.false_eq_true, if_false]
      refine wpAny_bind (wpAny_pure ?_)
      simp only [if_true]
      exact fin _ rfl rfl T.dum (tb_plain T1 false)
end
end
section
open Classical in
noncomputable def addD (ds : List D) (d : D) : List D := if d ∈ ds then ds else d :: ds
noncomputable def setOf (l : List D) : List D := l.foldl addD []
theorem addD_mem {ds : List D} {d e : D} : e ∈ addD ds d ↔ e ∈ ds ∨ e = d := by
  unfold addD
  split
  · exact ⟨.inl, fun h => h.elim id (fun q => q ▸ by assumption)⟩
  · rw [List.mem_cons]; exact ⟨fun h => h.elim .inr .inl, fun h => h.elim .inr .inl⟩
theorem foldl_addD : ∀ (l ds : List D), (∀ e, e ∈ l.foldl addD ds ↔ e ∈ ds ∨ e ∈ l) ∧ (ds.Nodup → (l.foldl addD ds).Nodup) ∧ (l.foldl addD ds).length ≤ ds.length + l.length
  | [], ds => ⟨fun e => by simp, id, by simp⟩
  | d :: l, ds => by
    obtain ⟨h1, h2, h3⟩ := foldl_addD l (addD ds d)
    refine ⟨fun e => ?_, fun hn => h2 ?_, ?_⟩
    · rw [List.foldl_cons, h1, addD_mem, List.mem_cons, or_assoc]
    · unfold addD
      split
      · exact hn
      · exact List.nodup_cons.mpr ⟨by assumption, hn⟩
    · rw [List.foldl_cons]
      have : (addD ds d).length ≤ ds.length + 1 := by unfold addD; split <;> simp
      dsimp only [List.length_cons]
      lia
theorem setOf_mem {l : List D} {e : D} : e ∈ setOf l ↔ e ∈ l := by unfold setOf; rw [(foldl_addD l []).1]; simp
theorem setOf_nodup (l : List D) : (setOf l).Nodup := (foldl_addD l []).2.1 List.nodup_nil
theorem setOf_length (l : List D) : (setOf l).length ≤ l.length := by have := (foldl_addD l []).2.2; simpa [setOf] using this

section
variable {prog : Program} {w : World} {A : Around} {R : Result → Shared → Prop} {I : Addr} {fp wr : List Addr} {n : Nat} {P : Nat → Value → Prop} {St' : Nat → Shared → Prop}

open Classical in
theorem code_update (W : WalksS prog w A.in1 I fp wr (fun a b => b = a) n P St') (hfr : ∀ i (s : Shared) h' tk, St' i s → (∀ b ∈ fp, ∀ o, s.heap.get? b = some o → h'.get? b = some o) → St' i { s with heap := h', toks := tk }) (S : Addr) (hSf : S ∉ fp) {B : PH} {nn : Nat} (hn8 : nn ≤ 8) (hu : A.units + 1 + nn < cLine) {l : List D} (hl : l.length = n)
    (hval : ∀ i v, P i v → ∃ d b, l[i]? = some d ∧ v = .ref b ∧ keyish nn d = true ∧ Rep B d v) (hb : n < 60) (hBw : ∀ b o, B b = some o → b ∉ S :: wr) :
    ∀ (k i : Nat) (s : Shared), i + k = n → i ≤ n → St' i s → (∀ a o, B a = some o → s.heap.get? a = some o) →
      (∃ o, s.heap.get? S = some o ∧ SetD w nn B (setOf (l.take i)) o) →
      (∀ h' tk, (∀ b o, b ∉ S :: wr → s.heap.get? b = some o → h'.get? b = some o) → (∃ o, h'.get? S = some o ∧ SetD w nn B (setOf l) o) → R (.ok (.ret .none)) { s with heap := h', toks := tk }) →
      codeAny (model prog w) A (.builtin "set.update.loop" ⟨[.ref S, .ref I], []⟩) R s := by
  have hSw : S ∉ wr := fun h => hSf (W.sub _ h)
  have hsub : ∀ b ∈ wr, b ∈ S :: wr := fun b hb => List.mem_cons_of_mem _ hb
  intro k
  induction k with
  | zero =>
    intro i s hk hi hst hle hS hR
    have hin : i = n := hk
    subst hin
    refine codeAny_builtin F.entry_set_update_loop ?_
    rw [Around.under_plainId F.plain_set_update_loop _]
    show wpAny _ A.in1 (pyNext (.ref I) >>= _) _ _ s
    refine wpAny_bind (W.done s _ _ hst fun s' hm => ?_)
    show wpAny _ A.in1 (ret Value.none) _ _ s'
    rw [List.take_of_length_le (by lia)] at hS
    obtain ⟨o, ho, rest⟩ := hS
    have := hR s'.heap s'.toks (fun b o hb e => hm.heap b o (fun h => hb (hsub _ h)) e) ⟨o, hm.heap S _ hSw ho, rest⟩
    have e : s' = { s with heap := s'.heap, toks := s'.toks } := by
      have e1 := hm.gens; have e2 := hm.drawn; have e3 := hm.os
      cases s; cases s'
      simp only at e1 e2 e3
      subst e1; subst e2; subst e3
      rfl
    rw [e]
    exact wpAny_pure this
  | succ k ih =>
    intro i s hk hi hst hle hS hR
    have hlt : i < n := hk ▸ Nat.lt_add_of_pos_right (Nat.succ_pos k)
    refine codeAny_builtin F.entry_set_update_loop ?_
    rw [Around.under_plainId F.plain_set_update_loop _]
    show wpAny _ A.in1 (pyNext (.ref I) >>= _) _ _ s
    refine wpAny_bind (W.item i s _ _ hlt hst fun v s' hP hst' hm => ?_)
    obtain ⟨d, b, hd, rfl, hkd, hr⟩ := hval i v hP
    have hle' : ∀ a o, B a = some o → s'.heap.get? a = some o := fun a o e => hm.heap a o (fun h => hBw a o e (hsub _ h)) (hle a o e)
    obtain ⟨o, ho, hSD⟩ := hS
    have ho' := hm.heap S _ hSw ho
    show wpAny _ A.in1 (holding [Value.ref b] (setAdd S (.ref b)) >>= _) _ _ s'
    refine wpAny_bind (wpAny_holding ?_)
    unfold setAdd
    refine wpAny_holding ?_
    refine wpAny_bind (wp_hash nn (A := A.in1) hu hle' hkd hr fun tk => ?_)
    have hlen : (setOf (l.take i)).length < 60 := by have := setOf_length (l.take i); rw [List.length_take] at this; lia
    refine wp_add (s := { s' with toks := tk }) hle' hn8 hu hkd hr ho' hSD hlen fun h' c hsb hS2 => ?_
    have hstep : (if d ∈ setOf (l.take i) then setOf (l.take i) else d :: setOf (l.take i)) = setOf (l.take (i + 1)) := by
      rw [List.take_add_one, hd]
      unfold setOf
      rw [List.foldl_append]
      rfl
    rw [hstep] at hS2
    refine wpAny_pure ⟨plainId_quiet F.plain_set_update_loop _, ?_⟩
    have hkeep : ∀ b o, b ≠ S → s'.heap.get? b = some o → h'.get? b = some o := fun b o hb e => by rw [hsb.2 b hb]; exact e
    have e : s' = { s with heap := s'.heap, toks := s'.toks } := by
      have e1 := hm.gens; have e2 := hm.drawn; have e3 := hm.os
      cases s; cases s'
      simp only at e1 e2 e3
      subst e1; subst e2; subst e3
      rfl
    refine ih (i + 1) _ (by rw [← hk, Nat.add_assoc, Nat.add_comm 1]) hlt (hfr _ s' _ _ hst' fun b hb o e => hkeep b o (fun h => hSf (h ▸ hb)) e) (fun b o e => hkeep b o (fun h => hBw b o e (by rw [h]; exact .head _)) (hle' b o e)) hS2 fun h2 tk2 hk2 hS3 => ?_
    rw [e]
    exact hR h2 tk2 (fun b o hb e => hk2 b o hb (hkeep b o (fun h => hb (by rw [h]; exact .head _)) (hm.heap b o (fun h => hb (hsub _ h)) e))) hS3
end
end
section
theorem St.cellAt {W : Gd} {s : Shared} {B : PH} {S : Sig} (x : St W s B S) {h' : Heap} {tk : Nat} (k : ∀ a o, s.heap.get? a = some o → h'.get? a = some o) {a : Addr} {c : Cell} (hn : s.heap.get? a = none) (hc : CellAt B h' a c) :
    St W { s with heap := h', toks := tk } B ((a, c) :: S) := by
  have y := x.grow (tk := tk) k
  refine ⟨y.gens, y.drawn, y.os, y.base, y.le, fun p hp => ?_, fun p hp => ?_, ?_⟩
  · rcases List.mem_cons.mp hp with rfl | hp
    · exact hc
    · exact y.cells p hp
  · rcases List.mem_cons.mp hp with rfl | hp
    · show B a = none
      cases q : B a with
      | none => rfl
      | some o => rw [x.le _ _ q] at hn; cases hn
    · exact x.apart p hp
  · rw [List.map_cons, List.nodup_cons]
    refine ⟨fun hm => ?_, x.nodup⟩
    obtain ⟨p, hp, e⟩ := List.mem_map.mp hm
    obtain ⟨o, ho⟩ := (x.cells p hp).some
    have e : p.1 = a := e
    rw [e, hn] at ho
    cases ho

section
variable {prog : Program} {w : World} {A : Around} {E : Value → Shared → Prop} {s : Shared}
set_option maxHeartbeats 3200000 in
theorem call_setD {l : Addr} {items : Array Value} {B : PH} {nn : Nat} {ds : List D} {Q : Value → Shared → Prop}
    (hh : A.handled = none) (hn8 : nn ≤ 8) (hu : A.units + 64 < cLine) (hle : ∀ a o, B a = some o → s.heap.get? a = some o) (hl : s.heap.IsList l items) (hlen : ds.length = items.size) (hb : items.size < 60)
    (hval : ∀ (i : Nat) v, items[i]? = some v → ∃ d b, ds[i]? = some d ∧ v = .ref b ∧ keyish nn d = true ∧ Rep B d v)
    (h : ∀ (h' : Heap) (tk : Nat), (∃ o, h'.get? s.heap.objs.size = some o ∧ SetD w nn B (setOf ds) o) →
      (∀ b o, s.heap.get? b = some o → h'.get? b = some o) → Q (.ref s.heap.objs.size) { s with heap := h', toks := tk }) :
    wpAny (model prog w) A (call (.type "set") [.ref l]) Q E s := by
  obtain ⟨c, tl, hmro⟩ := F.called_set.mro
  have hmade := F.called_set.made
  have hsub := F.called_set.sub
  refine wpAny_call (codeAny_of_tree ?_)
  show wpAny _ _ (callAny (.type "set") _) _ _ _
  refine wpAny_pure ⟨Code.quiet_builtin _ (by decide +kernel), codeAny_builtin F.entry_type_call ?_⟩
  rw [Around.under_plain (weight_type_call_type "set" [.ref l] []) rfl]
  have h1 := F.called_set.notType
  have h2 := F.called_set.canCreate
  have hct := F.typeCall_set_1 (.ref l)
  repeat (any_goals (first | assumption | wp_step))

  refine codeAny_mono (code_set_new_1 (.ref l) (E := E) (Q₁ := fun obj s₁ => ∃ led : Bool, obj = .ref s.heap.objs.size ∧ s₁ = { s with heap := s.heap.push { cls := .type "set", dict := none, data := .set #[] 0 (.fresh 0 0 led) } }) fun led => ⟨led, rfl, rfl⟩) fun r s₁ hr => ?_
  cases r with
  | error e => exact hr
  | ok fl =>
    cases fl with
    | ret obj =>
      obtain ⟨led, rfl, rfl⟩ := hr
      have hS : (s.heap.push { cls := .type "set", dict := none, data := .set #[] 0 (.fresh 0 0 led) }).get? s.heap.objs.size = some { cls := .type "set", dict := none, data := .set #[] 0 (.fresh 0 0 led) } := Heap.get?_push_size _ rfl
      have hT : Shared.TypeIs { s with heap := s.heap.push { cls := .type "set", dict := none, data := .set #[] 0 (.fresh 0 0 led) } } (.ref s.heap.objs.size) "set" := ⟨_, hS, rfl⟩
      have hli := F.called_set.init.lookup
      have hbi := F.called_set.init.bind (.ref s.heap.objs.size)
      repeat (any_goals (first | assumption | wp_step))

      refine codeAny_mono (codeAny_call_builtin (R := wants (fun r s₂ => r = .none ∧ ∃ h' tk, s₂ = { s with heap := h', toks := tk } ∧
          (∃ o, h'.get? s.heap.objs.size = some o ∧ SetD w nn B (setOf ds) o) ∧
          (∀ b o, s.heap.get? b = some o → h'.get? b = some o)) E) F.called_set.init.plain F.entry_set_init (check_set_init_1 hT ?_)) fun r₂ s₂ hr₂ => ?_
      · obtain ⟨ol, hol, hcl, nl, hdl⟩ := hl
        obtain ⟨ocls, odict, odata, oslots⟩ := ol
        simp only at hcl hdl
        subst hcl; subst hdl
        have hol' : (s.heap.push { cls := .type "set", dict := none, data := .set #[] 0 (.fresh 0 0 led) }).get? l = some { cls := .type "list", dict := odict, data := .seq items nl, slots := oslots } := Heap.get?_push_of_some _ hol
        have hsls := F.sub_list_set
        have hslf := F.sub_list_frozenset
        have hne : (Value.type "list" == Value.type "dict") = false := by decide
        have hl1 : (s.heap.push { cls := .type "set", dict := none, data := .set #[] 0 (.fresh 0 0 led) }).IsList l items := ⟨_, hol', rfl, nl, rfl⟩
        unfold Builtin.«set.__init__» noKeywords Builtin.Frozenset.updateFrom
        generalize hPI : pyIter = PI
        wp_walk
        subst hPI

        refine wpAny_pyIter_list hl1 ?_
        refine wpAny_bind (wpAny_runValue ?_)
        have hlS : l < s.heap.objs.size := Heap.lt_size hol
        have hh3 : A.in1.in1.in1.handled = none := by simp [hh]
        have hneI : l ≠ (s.heap.push { cls := .type "set", dict := none, data := .set #[] 0 (.fresh 0 0 led) }).objs.size := by
          rw [Heap.size_push]; exact Nat.ne_of_lt (Nat.lt_succ_of_lt hlS)
        have hSf : s.heap.objs.size ∉ [(s.heap.push { cls := .type "set", dict := none, data := .set #[] 0 (.fresh 0 0 led) }).objs.size, l] := by
          rw [Heap.size_push]; simp only [List.mem_cons, List.mem_singleton, List.not_mem_nil, or_false, not_or]
          exact ⟨Nat.ne_of_lt (Nat.lt_succ_self _), Nat.ne_of_gt hlS⟩
        have hW := Walks.list (prog := prog) (w := w) hh3 _ l hneI items
        have hold : ∀ b o, s.heap.get? b = some o → ((s.heap.push { cls := .type "set", dict := none, data := .set #[] 0 (.fresh 0 0 led) }).push { cls := .type "list_iterator", data := .fields #[.ref l, .int 0 0] }).get? b = some o :=
          fun b o e => Heap.get?_push_of_some _ (Heap.get?_push_of_some _ e)
        refine code_update hW.toS (fun i s h' tk st hk => hW.frame i s.heap h' st hk) s.heap.objs.size
          hSf hn8 (by show A.units + 1 + 1 + 1 + nn < cLine; lia) hlen hval hb ?_ items.size 0 _ (Nat.zero_add _) (Nat.zero_le _)
          ⟨⟨_, Heap.get?_push_size _ rfl, rfl, rfl⟩, (hl1.push _)⟩ (fun b o e => hold b o (hle b o e)) ?_ ?_
        · intro b o e hm
          have hlt := Heap.lt_size (hle b o e)
          rw [Heap.size_push] at hm
          simp only [List.mem_cons, List.mem_singleton, List.not_mem_nil, or_false] at hm
          rcases hm with hm | hm
          · rw [hm] at hlt; exact absurd hlt (Nat.lt_irrefl _)
          · rw [hm] at hlt; exact absurd hlt (Nat.not_lt.mpr (Nat.le_succ _))
        · refine ⟨_, Heap.get?_push_of_some _ hS, ?_⟩
          rw [List.take_zero]
          exact setD_fresh w nn B led
        · intro h' tk hk hS'
          show wpAny _ _ _ _ _ _
          refine wpAny_pure ?_
          show wpAny _ _ (ret Value.none) _ _ _
          refine wpAny_pure ⟨rfl, h', tk, rfl, hS', fun b o e => ?_⟩
          have hlt := Heap.lt_size e
          refine hk b o ?_ (hold b o e)
          rw [Heap.size_push]
          simp only [List.mem_cons, List.mem_singleton, List.not_mem_nil, or_false]
          rintro (hm | hm)
          · rw [hm] at hlt; exact absurd hlt (Nat.lt_irrefl _)
          · rw [hm] at hlt; exact absurd hlt (Nat.not_lt.mpr (Nat.le_succ _))
      · cases r₂ with
        | error e => exact hr₂
        | ok fl₂ =>
          cases fl₂ with
          | ret r =>
            obtain ⟨rfl, h', tk, rfl, hS', hk'⟩ := hr₂
            repeat (any_goals (first | assumption | wp_step))
            exact h _ _ hS' hk'
          | _ => exact hr₂.elim
    | _ => exact hr.elim

variable {W : Gd} {S : Sig} {X : Value → PH → Shared → Prop} {Q : D → Sig → Prop}
/-- a set of so many -/
noncomputable def SetN (m : Nat) (o : Obj) : Prop := ∃ es ep t, o.ExactSet ∧ o.data = .set es ep t ∧ t.fits es.size = true ∧ es.size = m

theorem setN_of {nn : Nat} {B : PH} {ds : List D} {o : Obj} (h : SetD w nn B ds o) : SetN ds.length o := by
  obtain ⟨es, ep, t, l, hex, hd, T, _, hp, hE⟩ := h
  exact ⟨es, ep, t, hex, hd, T.fits, by rw [← hE.length, ← hp.length_eq, Array.length_toList]⟩

/-- set, over a list of tuples -/
theorem Op.set (hh : A.handled = none) (hu : A.units + 64 < cLine) {nn : Nat} (hn8 : nn ≤ 8) {ds : List D} (hb : ds.length < 60) (hk : ∀ d ∈ ds, keyish nn d = true ∧ ∃ l, d = .tup l)
    (q : ∀ a, Q (.raw (.ref a)) (ins1 (a, .other (SetN (setOf ds).length)) S)) : OpL (model prog w) W A (fun vs => call (.type "set") ([] ++ vs)) RepV [.lst ds] S X Q := fun s B vs y r => by
  dsimp only [RepL, Rep] at r
  obtain ⟨v, us, rfl, ⟨a, xs, n, rfl, ha, hr⟩, rfl⟩ := r
  have hlen := hr.length
  rw [Array.length_toList] at hlen
  refine call_setD hh hn8 hu y.le ⟨_, y.le _ _ ha, rfl, n, rfl⟩ hlen.symm (by lia) (fun i v hv => ?_) fun h' tk hS hk' => ?_
  · rw [← Array.getElem?_toList] at hv
    have hi : i < ds.length := by
      rw [← hr.length]
      exact (List.getElem?_eq_some_iff.mp hv).1
    obtain ⟨v', h1, h2⟩ := hr.get (List.getElem?_eq_getElem hi)
    rw [hv] at h1
    cases h1
    obtain ⟨k1, l, k2⟩ := hk _ (List.getElem_mem hi)
    have h3 := h2
    rw [k2] at h3
    dsimp only [Rep] at h3
    obtain ⟨b, _, _, e, _⟩ := h3
    exact ⟨_, b, List.getElem?_eq_getElem hi, e, k1, h2⟩
  · obtain ⟨o, ho, hSD⟩ := hS
    have hnew : s.heap.get? s.heap.objs.size = none := by
      cases q : s.heap.get? s.heap.objs.size with
      | none => rfl
      | some o => exact absurd (Heap.lt_size q) (Nat.lt_irrefl _)
    have y2 := y.cellAt (tk := tk) hk' (c := .other (SetN (setOf ds).length)) hnew ⟨o, ho, setN_of hSD⟩
    exact ⟨B, _, _, .refl B, y2.perm (ins1_perm _ _), rep_raw _, q _⟩
theorem Op.len_set {m : Nat} {a : Addr} (hm : (a, .other (SetN m)) ∈ S) (hl : m ≤ sizeLine) (q : Q (.int m) S) : OpL (model prog w) W A (fun vs => call (.builtin "len") ([] ++ vs)) RepV [.raw (.ref a)] S X Q := fun s B vs y r => by
  dsimp only [RepL, Rep] at r
  obtain ⟨v, us, rfl, rfl, rfl⟩ := r
  obtain ⟨o, ho, es, ep, t, hex, hd, hf, hsz⟩ := y.cells _ hm
  refine call_len_set ho hex hd hf (by rw [hsz]; unfold sizeLine at hl; lia) ⟨B, _, S, .refl B, y.tok _, ?_, q⟩
  rw [hsz]
  exact rep_int _ _
end
end
section
open PySem

/-! the trees -/
inductive T where
  | node (op : Str) (kids : List T)
noncomputable def T.op : T → Str | .node o _ => o
noncomputable def T.kids : T → List T | .node _ k => k
mutual
noncomputable def T.pre : T → List T
  | .node o k => .node o k :: T.preL k
noncomputable def T.preL : List T → List T
  | [] => []
  | t :: r => T.pre t ++ T.preL r
end
mutual
noncomputable def T.size : T → Nat
  | .node _ k => T.sizeL k + 1
noncomputable def T.sizeL : List T → Nat
  | [] => 0
  | t :: r => T.size t + T.sizeL r
end
mutual
noncomputable def T.depth : T → Nat
  | .node _ k => T.depthL k + 1
noncomputable def T.depthL : List T → Nat
  | [] => 0
  | t :: r => max (T.depth t) (T.depthL r)
end
mutual
theorem T.pre_len : ∀ t : T, t.pre.length = t.size
  | .node o k => by simp only [T.pre, T.size, List.length_cons, T.preL_len k]
theorem T.preL_len : ∀ l : List T, (T.preL l).length = T.sizeL l
  | [] => rfl
  | t :: r => by simp only [T.preL, T.sizeL, List.length_append, T.pre_len t, T.preL_len r]
end
theorem T.size_pos (t : T) : 0 < t.size := by cases t; dsimp only [T.size]; lia
theorem T.len_sizeL : ∀ l : List T, l.length ≤ T.sizeL l
  | [] => Nat.le_refl _
  | t :: r => by have := T.len_sizeL r; have := t.size_pos; dsimp only [T.sizeL, List.length_cons]; lia
theorem T.eta (t : T) : t = .node t.op t.kids := by cases t; rfl
theorem T.pre_cons (t : T) : t.pre = t :: T.preL t.kids := by cases t; rfl
theorem T.size_eq (t : T) : t.size = T.sizeL t.kids + 1 := by cases t; rfl
theorem T.kids_lt (t : T) : t.kids.length < t.size := by have := T.len_sizeL t.kids; rw [T.size_eq]; lia
theorem T.sizeL_take_le : ∀ (l : List T) (k : Nat), T.sizeL (l.take k) ≤ T.sizeL l
  | [], k => by simp
  | t :: r, 0 => by simp [T.sizeL]
  | t :: r, k + 1 => by have := T.sizeL_take_le r k; dsimp only [List.take_succ_cons, T.sizeL]; lia
theorem T.sizeL_app : ∀ l m : List T, T.sizeL (l ++ m) = T.sizeL l + T.sizeL m
  | [], m => by simp [T.sizeL]
  | t :: r, m => by simp only [List.cons_append, T.sizeL, T.sizeL_app r m]; lia
theorem T.sizeL_take_succ (l : List T) (k : Nat) (u : T) (h : l[k]? = some u) : T.sizeL (l.take (k + 1)) = T.sizeL (l.take k) + u.size := by
  rw [List.take_add_one, h, T.sizeL_app]
  simp [T.sizeL]

/-- the segment of the nodes of a part -/
noncomputable def T.rowOf (l : List T) : List (Str × Nat) := l.map fun u => (u.op, u.kids.length)
noncomputable abbrev T.row (t : T) : List (Str × Nat) := T.rowOf t.pre

/-- the nodes that stand at a part's place are the nodes of that part -/
theorem preL_drop : ∀ (l : List T) (k : Nat), (T.preL l).drop (T.sizeL (l.take k)) = T.preL (l.drop k)
  | [], k => by simp [T.preL]
  | t :: r, 0 => by simp [T.preL, T.sizeL]
  | t :: r, k + 1 => by
    dsimp only [List.take_succ_cons, T.sizeL, List.drop_succ_cons, T.preL]
    rw [List.drop_append, T.pre_len]
    rw [List.drop_of_length_le (by rw [T.pre_len]; lia), List.nil_append, Nat.add_sub_cancel_left]
    exact preL_drop r k
theorem preL_kid (l : List T) (k : Nat) (u : T) (h : l[k]? = some u) : ∃ r, (T.preL l).drop (T.sizeL (l.take k)) = u.pre ++ r := by
  refine ⟨T.preL (l.drop (k + 1)), ?_⟩
  rw [preL_drop]
  have := (List.getElem?_eq_some_iff.mp h)
  obtain ⟨hk, e⟩ := this
  rw [List.drop_eq_getElem_cons hk, e]
  rfl
/-- a place in the list of nodes, and the part whose nodes begin there -/
noncomputable def At (P : List T) (i : Nat) (u : T) : Prop := ∃ r, P.drop i = u.pre ++ r
theorem At.get {P : List T} {i : Nat} {u : T} (h : At P i u) : P[i]? = some u := by
  obtain ⟨r, h⟩ := h
  have := congrArg (·[0]?) h
  simp only [List.getElem?_drop, Nat.add_zero] at this
  rw [this, T.pre_cons]
  rfl
noncomputable def kpos (i : Nat) (u : T) (k : Nat) : Nat := i + 1 + T.sizeL (u.kids.take k)
theorem kpos_zero (i : Nat) (u : T) : kpos i u 0 = i + 1 := by simp [kpos, T.sizeL]
theorem kpos_succ {i : Nat} {u v : T} {k : Nat} (h : u.kids[k]? = some v) : kpos i u (k + 1) = kpos i u k + v.size := by
  unfold kpos; rw [T.sizeL_take_succ _ _ _ h]; lia
theorem kpos_all (i : Nat) (u : T) : kpos i u u.kids.length = i + u.size := by
  unfold kpos; rw [List.take_length, T.size_eq]; lia
theorem At.kid {P : List T} {i k : Nat} {u v : T} (h : At P i u) (hv : u.kids[k]? = some v) : At P (kpos i u k) v := by
  obtain ⟨r, h⟩ := h
  obtain ⟨q, hq⟩ := preL_kid u.kids k v hv
  refine ⟨q ++ r, ?_⟩
  unfold kpos
  rw [Nat.add_assoc, ← List.drop_drop, h, T.pre_cons, List.cons_append, Nat.add_comm 1, List.drop_succ_cons, List.drop_append, hq, List.append_assoc]
  have hle : T.sizeL (u.kids.take k) - (T.preL u.kids).length = 0 := by
    rw [T.preL_len]; exact Nat.sub_eq_zero_of_le (T.sizeL_take_le u.kids k)
  rw [hle, List.drop_zero]
theorem At.root (t : T) : At t.pre 0 t := ⟨[], by simp⟩
theorem At.bound {P : List T} {i : Nat} {u : T} (h : At P i u) : i + u.size ≤ P.length := by
  obtain ⟨r, h⟩ := h
  have e := congrArg List.length h
  rw [List.length_drop, List.length_append, T.pre_len] at e
  exact Nat.add_le_of_le_sub' (Nat.le_of_lt (Nat.lt_of_sub_pos (e ▸ Nat.lt_of_lt_of_le u.size_pos (Nat.le_add_right ..)))) (e ▸ Nat.le_add_right ..)
theorem cut2 {n a b u : Nat} : min a n + u + (n - b) ≤ n + u + n := Nat.add_le_add (Nat.add_le_add_right (Nat.min_le_right ..) _) (Nat.sub_le ..)

/-! their data -/
noncomputable def rowD (l : List (Str × Nat)) : List D := l.map fun p => .tup [.str p.1, .int p.2]
noncomputable def natsD (l : List Nat) : List D := l.map fun n : Nat => D.int (n : Int)
noncomputable def intsD' (l : List Int) : List D := l.map fun n => .int n
mutual
noncomputable def T.term : T → D
  | .node o k => .tup (.str o :: T.terms k)
noncomputable def T.terms : List T → List D
  | [] => []
  | t :: r => T.term t :: T.terms r
end
noncomputable def endsFrom : Nat → List T → List Nat
  | _, [] => []
  | i, u :: r => (i + u.size) :: endsFrom (i + 1) r
theorem endsFrom_get : ∀ (l : List T) (i k : Nat), (endsFrom i l)[k]? = (l[k]?).map fun u => i + k + u.size
  | [], i, k => by simp [endsFrom]
  | u :: r, i, 0 => by simp [endsFrom]
  | u :: r, i, k + 1 => by
    dsimp only [endsFrom, List.getElem?_cons_succ]
    rw [endsFrom_get r (i + 1) k]
    cases r[k]? with
    | none => rfl
    | some v => dsimp only [Option.map_some, Option.some.injEq]; lia
noncomputable def T.ends (t : T) : List Nat := endsFrom 0 t.pre
theorem At.ends {t u : T} {i : Nat} (h : At t.pre i u) : t.ends[i]? = some (i + u.size) := by
  unfold T.ends
  rw [endsFrom_get, h.get]
  simp
theorem At.row {t u : T} {i : Nat} (h : At t.pre i u) : t.row[i]? = some (u.op, u.kids.length) := by
  unfold T.row T.rowOf
  rw [List.getElem?_map, h.get]
  rfl
noncomputable def T.find : T → List Nat → Option T
  | t, [] => some t
  | t, k :: r => match t.kids[k]? with | some u => u.find r | none => none
end
section
open PySem

/-! every node with its way -/
mutual
noncomputable def T.all : T → List (List Nat × T)
  | .node o k => ([], .node o k) :: T.allL 0 k
noncomputable def T.allL : Nat → List T → List (List Nat × T)
  | _, [] => []
  | b, t :: r => (T.all t).map (fun p => (b :: p.1, p.2)) ++ T.allL (b + 1) r
end
theorem T.all_cons (t : T) : t.all = ([], t) :: T.allL 0 t.kids := by cases t; rfl
mutual
theorem T.all_snd : ∀ t : T, t.all.map (·.2) = t.pre
  | .node o k => by simp only [T.all, T.pre, List.map_cons, T.allL_snd 0 k]
theorem T.allL_snd : ∀ (b : Nat) (l : List T), (T.allL b l).map (·.2) = T.preL l
  | _, [] => rfl
  | b, t :: r => by
    simp only [T.allL, T.preL, List.map_append, List.map_map, T.allL_snd (b + 1) r, ← T.all_snd t]
    rfl
end
theorem T.all_len (t : T) : t.all.length = t.size := by rw [← T.pre_len, ← T.all_snd, List.length_map]
noncomputable def T.ways (t : T) : List (List Nat) := t.all.map (·.1)
theorem T.ways_len (t : T) : t.ways.length = t.size := by unfold T.ways; rw [List.length_map, T.all_len]

/-- the place a way leads to -/
noncomputable def T.posN : Nat → T → List Nat → Option Nat
  | i, _, [] => some i
  | i, u, k :: r => match u.kids[k]? with | some v => T.posN (kpos i u k) v r | none => none

theorem allL_get : ∀ (l : List T) (b k m : Nat) (v : T) (p : List Nat) (u : T), l[k]? = some v → v.all[m]? = some (p, u) → (T.allL b l)[T.sizeL (l.take k) + m]? = some ((b + k) :: p, u)
  | [], b, k, m, v, p, u, h, _ => by simp at h
  | t :: r, b, 0, m, v, p, u, h, h' => by
    simp only [List.getElem?_cons_zero, Option.some.injEq] at h
    subst h
    simp only [T.allL, List.take_zero, T.sizeL, Nat.zero_add]
    rw [List.getElem?_append_left (by
      rw [List.length_map]
      exact (List.getElem?_eq_some_iff.mp h').1), List.getElem?_map, h']
    rfl
  | t :: r, b, k + 1, m, v, p, u, h, h' => by
    dsimp only [List.getElem?_cons_succ] at h
    dsimp only [T.allL, List.take_succ_cons, T.sizeL]
    rw [List.getElem?_append_right (by rw [List.length_map, T.all_len]; lia), List.length_map, T.all_len]
    rw [Nat.add_assoc t.size, Nat.add_sub_cancel_left]
    rw [allL_get r (b + 1) k m v p u h h']
    rw [show b + 1 + k = b + (k + 1) by lia]
theorem all_kid {t v u : T} {k m : Nat} {p : List Nat} (h : t.kids[k]? = some v) (h' : v.all[m]? = some (p, u)) : t.all[1 + T.sizeL (t.kids.take k) + m]? = some (k :: p, u) := by
  rw [T.all_cons, show 1 + T.sizeL (t.kids.take k) + m = (T.sizeL (t.kids.take k) + m) + 1 by lia, List.getElem?_cons_succ, allL_get t.kids 0 k m v p u h h', Nat.zero_add]
theorem posN_all : ∀ (p : List Nat) (i : Nat) (t : T) (j : Nat), T.posN i t p = some j → ∃ m u, j = i + m ∧ t.all[m]? = some (p, u)
  | [], i, t, j, h => by
    dsimp only [T.posN, Option.some.injEq] at h
    exact ⟨0, t, by lia, by rw [T.all_cons]; rfl⟩
  | k :: r, i, t, j, h => by
    dsimp only [T.posN] at h
    cases q : t.kids[k]? with
    | none => rw [q] at h; cases h
    | some v =>
      rw [q] at h
      obtain ⟨m, u, h1, h2⟩ := posN_all r (kpos i t k) v j h
      refine ⟨1 + T.sizeL (t.kids.take k) + m, u, ?_, all_kid q h2⟩
      unfold kpos at h1
      lia

theorem allL_inv : ∀ (l : List T) (b j : Nat) (q : List Nat) (u : T), (T.allL b l)[j]? = some (q, u) → ∃ k m v p, l[k]? = some v ∧ v.all[m]? = some (p, u) ∧ j = T.sizeL (l.take k) + m ∧ q = (b + k) :: p
  | [], b, j, q, u, h => by simp [T.allL] at h
  | t :: r, b, j, q, u, h => by
    dsimp only [T.allL] at h
    by_cases hj : j < t.size
    · rw [List.getElem?_append_left (by rw [List.length_map, T.all_len]; exact hj), List.getElem?_map, Option.map_eq_some_iff] at h
      obtain ⟨⟨p, u'⟩, h1, h2⟩ := h
      cases h2
      exact ⟨0, j, t, p, rfl, h1, by simp [T.sizeL], rfl⟩
    · rw [List.getElem?_append_right (by rw [List.length_map, T.all_len]; lia), List.length_map, T.all_len] at h
      obtain ⟨k, m, v, p, h1, h2, h3, h4⟩ := allL_inv r (b + 1) (j - t.size) q u h
      refine ⟨k + 1, m, v, p, h1, h2, ?_, by rw [h4]; congr 1; lia⟩
      dsimp only [List.take_succ_cons, T.sizeL]
      rw [Nat.add_assoc, ← h3]
      exact (Nat.add_sub_of_le (Nat.le_of_not_lt hj)).symm
theorem all_inv {t u : T} {j : Nat} {q : List Nat} (h : t.all[j]? = some (q, u)) : (j = 0 ∧ q = [] ∧ u = t) ∨ ∃ k m v p, t.kids[k]? = some v ∧ v.all[m]? = some (p, u) ∧ j = 1 + T.sizeL (t.kids.take k) + m ∧ q = k :: p := by
  rw [T.all_cons] at h
  cases j with
  | zero =>
    simp only [List.getElem?_cons_zero, Option.some.injEq, Prod.mk.injEq] at h
    exact .inl ⟨rfl, h.1.symm, h.2.symm⟩
  | succ j =>
    rw [List.getElem?_cons_succ] at h
    obtain ⟨k, m, v, p, h1, h2, h3, h4⟩ := allL_inv t.kids 0 j q u h
    exact .inr ⟨k, m, v, p, h1, h2, by lia, by rw [h4, Nat.zero_add]⟩
theorem all_posN : ∀ (q : List Nat) (t : T) (i j : Nat) (u : T), t.all[j]? = some (q, u) → T.posN i t q = some (i + j) ∧ t.find q = some u
  | [], t, i, j, u, h => by
    rcases all_inv h with ⟨rfl, _, rfl⟩ | ⟨k, m, v, p, _, _, _, h4⟩
    · exact ⟨rfl, rfl⟩
    · cases h4
  | k :: p, t, i, j, u, h => by
    rcases all_inv h with ⟨_, h2, _⟩ | ⟨k', m, v, p', h1, h2, h3, h4⟩
    · cases h2
    · cases h4
      have := all_posN p v (kpos i t k) m u h2
      simp only [T.posN, T.find, h1]
      refine ⟨?_, this.2⟩
      rw [this.1]
      congr 1
      unfold kpos
      lia
theorem posN_at : ∀ (p : List Nat) (P : List T) (i : Nat) (t : T) (j : Nat), At P i t → T.posN i t p = some j → ∃ u, At P j u ∧ t.find p = some u
  | [], P, i, t, j, hA, h => by
    simp only [T.posN, Option.some.injEq] at h
    subst h
    exact ⟨t, hA, rfl⟩
  | k :: r, P, i, t, j, hA, h => by
    dsimp only [T.posN] at h
    cases q : t.kids[k]? with
    | none => rw [q] at h; cases h
    | some v =>
      rw [q] at h
      obtain ⟨u, h1, h2⟩ := posN_at r P (kpos i t k) v j (hA.kid q) h
      exact ⟨u, h1, by simp only [T.find, q]; exact h2⟩
/-- what stands at a place: its way, the part -/
theorem all_get {t : T} {j : Nat} (h : j < t.size) : ∃ p u, t.all[j]? = some (p, u) ∧ t.ways[j]? = some p ∧ At t.pre j u ∧ T.posN 0 t p = some j ∧ t.find p = some u := by
  obtain ⟨⟨p, u⟩, e⟩ : ∃ x, t.all[j]? = some x := ⟨_, List.getElem?_eq_getElem (by rw [T.all_len]; exact h)⟩
  have e2 := all_posN p t 0 j u e
  rw [Nat.zero_add] at e2
  obtain ⟨u', h1, h2⟩ := posN_at p t.pre 0 t j (At.root t) e2.1
  rw [e2.2] at h2
  cases h2
  exact ⟨p, u, e, by unfold T.ways; rw [List.getElem?_map, e]; rfl, h1, e2.1, e2.2⟩
theorem ways_posN {t : T} {p : List Nat} {j : Nat} (h : T.posN 0 t p = some j) : t.ways[j]? = some p := by
  obtain ⟨m, u, h1, h2⟩ := posN_all p 0 t j h
  rw [Nat.zero_add] at h1
  subst h1
  unfold T.ways
  rw [List.getElem?_map, h2]
  rfl
theorem posN_snoc : ∀ (p : List Nat) (k i : Nat) (t : T), T.posN i t (p ++ [k]) = (match T.posN i t p, t.find p with | some j, some u => (match u.kids[k]? with | some _ => some (kpos j u k) | none => none) | _, _ => none)
  | [], k, i, t => by
    dsimp only [List.nil_append, T.posN, T.find]
  | a :: r, k, i, t => by
    dsimp only [List.cons_append, T.posN, T.find]
    cases t.kids[a]? with
    | none => rfl
    | some v => exact posN_snoc r k _ v
theorem posN_lt {p : List Nat} {i : Nat} {t : T} {j : Nat} (h : T.posN i t p = some j) : j < i + t.size := by
  obtain ⟨m, u, h1, h2⟩ := posN_all p i t j h
  have := (List.getElem?_eq_some_iff.mp h2).1
  rw [T.all_len] at this
  lia

/-! a row read back -/
noncomputable def build : List (Str × Nat) → List T
  | [] => []
  | (o, m) :: r => .node o ((build r).take m) :: (build r).drop m
theorem rowOf_node (o : Str) (k : List T) : T.rowOf (T.pre (.node o k)) = (o, k.length) :: T.rowOf (T.preL k) := rfl
mutual
theorem build_pre : ∀ (t : T) (r : List (Str × Nat)), build (T.rowOf t.pre ++ r) = t :: build r
  | .node o k, r => by
    rw [rowOf_node, List.cons_append]
    dsimp only [build]
    rw [build_preL k r, List.take_left', List.drop_left'] <;> rfl
theorem build_preL : ∀ (l : List T) (r : List (Str × Nat)), build (T.rowOf (T.preL l) ++ r) = l ++ build r
  | [], r => by simp [T.preL, T.rowOf]
  | t :: l, r => by
    have e : T.rowOf (T.preL (t :: l)) ++ r = T.rowOf t.pre ++ (T.rowOf (T.preL l) ++ r) := by
      simp [T.preL, T.rowOf]
    rw [e, build_pre t, build_preL l r]
    rfl
end
theorem build_row (t : T) : build t.row = [t] := by
  have := build_pre t []
  simpa [build] using this
theorem build_len : ∀ r : List (Str × Nat), (build r).length ≤ r.length
  | [] => Nat.le_refl _
  | (o, m) :: r => by
    have := build_len r
    simp only [build, List.length_cons, List.length_drop]
    exact Nat.succ_le_succ (Nat.le_trans (Nat.sub_le _ _) this)
theorem row_inj {t u : T} (h : t.row = u.row) : t = u := by
  have := build_row t
  rw [h, build_row u] at this
  exact (List.cons.inj this).1.symm
theorem row_len (t : T) : t.row.length = t.size := by unfold T.row T.rowOf; rw [List.length_map, T.pre_len]
/-- the segment of the row that a part takes -/
theorem At.seg {t u : T} {i : Nat} (h : At t.pre i u) : (t.row.drop i).take u.size = u.row := by
  obtain ⟨r, h⟩ := h
  unfold T.row T.rowOf
  rw [← List.map_drop, h, List.map_append]
  rw [List.take_left' (by rw [List.length_map, T.pre_len])]
theorem terms_map : ∀ l : List T, T.terms l = l.map T.term
  | [] => rfl
  | t :: r => by simp only [T.terms, List.map_cons, terms_map r]
theorem term_eq (t : T) : t.term = .tup (.str t.op :: t.kids.map T.term) := by
  cases t
  simp only [T.term, T.op, T.kids, terms_map]

/-! a part put in another's place -/
mutual
noncomputable def T.put : T → List Nat → T → T
  | _, [], u => u
  | .node o ks, k :: r, u => .node o (T.putL ks k r u)
noncomputable def T.putL : List T → Nat → List Nat → T → List T
  | [], _, _, _ => []
  | t :: l, 0, r, u => T.put t r u :: l
  | t :: l, k + 1, r, u => t :: T.putL l k r u
end
theorem putL_len : ∀ (l : List T) (k : Nat) (r : List Nat) (u : T), (T.putL l k r u).length = l.length
  | [], _, _, _ => rfl
  | t :: l, 0, r, u => rfl
  | t :: l, k + 1, r, u => by simp only [T.putL, List.length_cons, putL_len l k r u]
theorem putL_eq : ∀ (l : List T) (k : Nat) (r : List Nat) (u v : T), l[k]? = some v → T.putL l k r u = l.take k ++ v.put r u :: l.drop (k + 1)
  | [], k, _, _, _, h => by simp at h
  | t :: l, 0, r, u, v, h => by
    simp only [List.getElem?_cons_zero, Option.some.injEq] at h
    subst h
    simp [T.putL]
  | t :: l, k + 1, r, u, v, h => by
    dsimp only [List.getElem?_cons_succ] at h
    simp [T.putL, putL_eq l k r u v h]
theorem put_row : ∀ (p : List Nat) (t u v : T) (j i : Nat), T.posN i t p = some (i + j) → t.find p = some v → (t.put p u).row = t.row.take j ++ u.row ++ t.row.drop (j + v.size)
  | [], t, u, v, j, i, h, hv => by
    simp only [T.posN, Option.some.injEq] at h
    simp only [T.find, Option.some.injEq] at hv
    subst hv
    have : j = 0 := by lia
    subst this
    simp only [T.put, List.take_zero, List.nil_append, Nat.zero_add]
    rw [List.drop_of_length_le (by rw [row_len]; exact Nat.le_refl _), List.append_nil]
  | k :: r, .node o ks, u, v, j, i, h, hv => by
    simp only [T.posN, T.kids, T.find] at h hv
    cases q : ks[k]? with
    | none => rw [q] at h; cases h
    | some x =>
      rw [q] at h hv
      dsimp only at h hv
      obtain ⟨m, y, hm, hy⟩ := posN_all r _ x _ h
      have hj : j = 1 + T.sizeL (ks.take k) + m := by
        unfold kpos at hm
        simp only [T.kids] at hm
        lia
      have hmlt : m < x.size := by
        have := (List.getElem?_eq_some_iff.mp hy).1
        rwa [T.all_len] at this
      have ih := put_row r x u v m (kpos i (.node o ks) k) (by rw [h, hm]) hv
      have hvx : m + v.size ≤ x.size := by
        obtain ⟨v', h1, h2⟩ := posN_at r x.pre 0 x m (At.root x) (by
          have := (all_posN r x 0 m y hy).1
          rwa [Nat.zero_add] at this)
        rw [hv] at h2
        cases h2
        have := h1.bound
        rwa [T.pre_len] at this
      have hks : T.preL ks = T.preL (ks.take k) ++ (x.pre ++ T.preL (ks.drop (k + 1))) := by
        have h1 : ∀ a b : List T, T.preL (a ++ b) = T.preL a ++ T.preL b := by
          intro a
          induction a with
          | nil => intro b; rfl
          | cons t a ih => intro b; simp only [List.cons_append, T.preL, ih, List.append_assoc]
        obtain ⟨hk, e⟩ := List.getElem?_eq_some_iff.mp q
        have h2 : ks = ks.take k ++ x :: ks.drop (k + 1) := by
          rw [← e, List.getElem_cons_drop, List.take_append_drop]
        have h3 : T.preL ks = T.preL (ks.take k ++ x :: ks.drop (k + 1)) := congrArg T.preL h2
        rw [h3, h1]
        rfl
      have h1 : ∀ a b : List T, T.preL (a ++ b) = T.preL a ++ T.preL b := by
        intro a
        induction a with
        | nil => intro b; rfl
        | cons t a ih => intro b; simp only [List.cons_append, T.preL, ih, List.append_assoc]
      have la : (T.rowOf (T.preL (ks.take k))).length = T.sizeL (ks.take k) := by unfold T.rowOf; rw [List.length_map, T.preL_len]
      have lx : (T.rowOf x.pre).length = x.size := row_len x
      have R1 : (T.node o ks).row = (o, ks.length) :: (T.rowOf (T.preL (ks.take k)) ++ (x.row ++ T.rowOf (T.preL (ks.drop (k + 1))))) := by
        unfold T.row
        simp only [T.pre, T.rowOf, List.map_cons, T.op, T.kids]
        rw [hks]
        simp [T.rowOf]
      have R2 : ((T.node o ks).put (k :: r) u).row = (o, ks.length) :: (T.rowOf (T.preL (ks.take k)) ++ ((x.put r u).row ++ T.rowOf (T.preL (ks.drop (k + 1))))) := by
        simp only [T.put]
        unfold T.row
        simp only [T.pre, T.rowOf, List.map_cons, T.op, T.kids]
        rw [putL_len, putL_eq ks k r u x q, h1]
        simp [T.rowOf, T.preL]
      rw [R1, R2, ih, hj]
      rw [show 1 + T.sizeL (ks.take k) + m = (T.sizeL (ks.take k) + m) + 1 by lia, List.take_succ_cons]
      rw [show (T.sizeL (ks.take k) + m) + 1 + v.size = (T.sizeL (ks.take k) + (m + v.size)) + 1 by lia, List.drop_succ_cons]
      rw [← la, List.take_length_add_append, List.drop_length_add_append]
      have e1 : ∀ (z : List (Str × Nat)), (x.row ++ z).take m = x.row.take m := fun z => by
        rw [List.take_append_of_le_length (by rw [row_len]; lia)]
      have e2 : ∀ (z : List (Str × Nat)), (x.row ++ z).drop (m + v.size) = x.row.drop (m + v.size) ++ z := fun z => by
        rw [List.drop_append_of_le_length (by rw [row_len]; lia)]
      rw [e1, e2]
      simp [List.append_assoc]
end
section
set_option genInjectivity false
set_option genSizeOf false

noncomputable def nthS : List Stmt → Nat → Stmt
  | [], _ => .Pass ⟨0, 0, 0, 0⟩
  | s :: _, 0 => s
  | _ :: r, n + 1 => nthS r n
noncomputable def bodyS : Stmt → List Stmt
  | .FunctionDef _ _ b _ _ _ _ _ _ _ => b
  | .ClassDef _ _ _ b _ _ _ _ _ _ _ => b
  | _ => []
noncomputable def argsS : Stmt → Arguments
  | .FunctionDef _ a _ _ _ _ _ _ _ _ => a
  | .ClassDef _ _ _ _ _ _ _ _ _ _ _ => ⟨[], [], none, [], [], none, []⟩
  | _ => ⟨[], [], none, [], [], none, []⟩
noncomputable def scopeS : Stmt → Scope
  | .FunctionDef _ _ _ _ _ _ s _ _ _ => s
  | .ClassDef _ _ _ _ _ _ s _ _ _ _ => s
  | _ => { kind := .function, names := [], isGenerator := false, isCoroutine := false }
noncomputable def topS (i : Nat) : Stmt := nthS PySem.Challenge.pw_pq0113_01.main.body i
noncomputable def metS (i j : Nat) : Stmt := nthS (bodyS (topS i)) j

/-- a function at the text's i-th place -/
noncomputable abbrev FnS (W : Gd) (f : Addr) (st : Stmt) : Prop := FnAt W f (argsS st) (bodyS st) (scopeS st)

noncomputable def lawOps : List D := [.str "a", .str "b", .str "f", .str "long"]
/-- what the text's top has laid -/
structure Fx (W : Gd) where
  nB : ∀ x ∈ (["len", "range", "tuple", "enumerate", "sum", "max", "sorted", "set", "int"] : List Str), W.mg x = none
  aOps : Value
  gOps : W.mg "_law_ops" = some aOps
  rOps : Rep W.G.get? (.tup lawOps) aOps
  aIsOp : Addr
  gIsOp : W.mg "is_op" = some (.ref aIsOp)
  fIsOp : FnS W aIsOp (topS 5)
  aParts : Addr
  gParts : W.mg "parts" = some (.ref aParts)
  fParts : FnS W aParts (topS 6)
  aPartAt : Addr
  gPartAt : W.mg "part_at" = some (.ref aPartAt)
  fPartAt : FnS W aPartAt (topS 7)
  aRepl : Addr
  gRepl : W.mg "replaced" = some (.ref aRepl)
  fRepl : FnS W aRepl (topS 8)
  aNum : Addr
  gNum : W.mg "_law_number" = some (.ref aNum)
  fNum : FnS W aNum (topS 12)
  aRow : Addr
  gRow : W.mg "_law_row" = some (.ref aRow)
  fRow : FnS W aRow (topS 13)
  aEnds : Addr
  gEnds : W.mg "_law_ends" = some (.ref aEnds)
  fEnds : FnS W aEnds (topS 14)
  aWays : Addr
  gWays : W.mg "_law_ways" = some (.ref aWays)
  fWays : FnS W aWays (topS 15)
  aTerm : Addr
  gTerm : W.mg "_law_term" = some (.ref aTerm)
  fTerm : FnS W aTerm (topS 16)
  aSpot : Addr
  gSpot : W.mg "_law_spot" = some (.ref aSpot)
  fSpot : FnS W aSpot (topS 17)
  aTold : Addr
  gTold : W.mg "_law_told" = some (.ref aTold)
  fTold : FnS W aTold (topS 18)
  aBanked : Addr
  gBanked : W.mg "_law_banked" = some (.ref aBanked)
  fBanked : FnS W aBanked (topS 19)

/-- room for n frames more -/
structure Ar (A : Around) (n : Nat) : Prop where
  hh : A.handled = none
  depth : A.depth + n < recursionLimit
  units : A.units + 8 * n + 200 < cLine
theorem Ar.room {A : Around} {n : Nat} (h : Ar A n) : A.depth < recursionLimit := by have := h.depth; lia
theorem Ar.deeper {A : Around} {n : Nat} (h : Ar A (n + 1)) (env : Env) : Ar (A.deeper env) n := ⟨h.hh, by have := h.depth; show A.depth + 1 + n < _; lia, by have := h.units; show A.units + 3 + 8 * n + 200 < _; lia⟩
theorem Ar.less {A : Around} {n m : Nat} (h : Ar A n) (k : m ≤ n) : Ar A m := ⟨h.hh, by have := h.depth; lia, by have := h.units; lia⟩
theorem Ar.eqU {A : Around} {n : Nat} (h : Ar A n) : A.units + 64 < cLine := by have := h.units; lia
end
section
noncomputable def fnK (nm qn md : Str) (tk : Nat) (c : Addr) (st : Stmt) (cl : List (Str × Addr)) (ct : Value) : Obj :=
  { cls := .type "function", data := .func { name := nm, qualname := qn, params := argsS st, body := .stmts (bodyS st), scope := scopeS st, globals := 3, closure := cl, defaults := .none, kwdefaults := .none, pyModule := .str md tk, code := .ref c, closureTuple := ct } }
noncomputable def enK (P : Params) (s : Str) (t : Nat) (v : Value) : DictEntry := { hash := PyData.keyHash P s, key := .str s t, val := v }
noncomputable def K0 (P : Params) : Frag :=
  (nat_lit 2, { cls := Value.none, data := Data.dict #[enK P "type.__subclasses__.Exception.0" 230 (Value.int 47 0), enK P "type.__subclasses__.Exception.n" 231 (Value.int 1 0)] 2 }) ::
  (nat_lit 3, { cls := Value.type "dict", data := Data.dict #[enK P "__name__" 165 (Value.str (Str.ofString "law_pq0113_01") 414), enK P "__doc__" 166 (Value.none), enK P "__package__" 167 (Value.none), enK P "__loader__" 168 (Value.builtin "__main__.__loader__#opaque"), enK P "__spec__" 169 (Value.none), enK P "__annotations__" 170 (Value.ref 6), enK P "__builtins__" 171 (Value.ref 4), enK P "__file__" 173 (Value.str (Str.ofString "/claim/cut.py") 172), enK P "__cached__" 174 (Value.none), enK P "_wall" 193 (Value.ref 21), enK P "HeapError" 233 (Value.ref 47), enK P "TermFault" 249 (Value.ref 60), enK P "is_op" 257 (Value.ref 67), enK P "parts" 263 (Value.ref 72), enK P "part_at" 272 (Value.ref 79), enK P "replaced" 282 (Value.ref 86), enK P "Bank" 413 (Value.ref 188), enK P "_law_ops" 420 (Value.ref 193), enK P "_law_number" 429 (Value.ref 200), enK P "_law_row" 440 (Value.ref 207), enK P "_law_ends" 451 (Value.ref 214), enK P "_law_ways" 463 (Value.ref 221), enK P "_law_term" 473 (Value.ref 228), enK P "_law_spot" 486 (Value.ref 235), enK P "_law_told" 493 (Value.ref 242), enK P "_law_banked" 499 (Value.ref 247), enK P "law" 505 (Value.ref 252)] 27 }) ::
  (nat_lit 25, { cls := Value.type "cell", data := Data.cell (some (Value.ref 47)) }) ::
  (nat_lit 36, { cls := Value.type "code", data := Data.fields #[Value.str (Str.ofString "__init__") 208, Value.str (Str.ofString "HeapError.__init__") 209, Value.str (Str.ofString "/claim/cut.py") 210, Value.int 7 0, Value.int 2 0, Value.int 0 0, Value.int 0 0, Value.int 3 0, Value.ref 31, Value.bool true, Value.int 181 0, Value.ref 32, Value.none, Value.ref 33, Value.ref 34, Value.ref 35, Value.int 214 0, Value.int 7 0, Value.str (Str.ofString "/claim/cut.py") 215] }) ::
  (nat_lit 37, fnK "__init__" "HeapError.__init__" "alikeheap.errors" 194 36 (metS 2 0) [("__class__", 25)] (.ref 30)) ::
  (nat_lit 46, { cls := Value.type "dict", data := Data.dict #[enK P "__module__" 203 (Value.str (Str.ofString "alikeheap.errors") 194), enK P "__firstlineno__" 207 (Value.int 5 206), enK P "__init__" 216 (Value.ref 37), enK P "told" 223 (Value.ref 44), enK P "__static_attributes__" 225 (Value.ref 45), enK P "__weakref__" 228 (Value.ref 48), enK P "__doc__" 229 (Value.none)] 4 }) ::
  (nat_lit 47, { cls := Value.type "type", data := Data.cls { name := Str.ofString "HeapError", bases := [Value.type "Exception"], mro := [Value.ref 47, Value.type "Exception", Value.type "BaseException", Value.type "object"], ns := 46, qualname := Str.ofString "HeapError", subclasses := [Value.ref 60] }, slots := #[some (Value.ref 22), none, some (Value.str (Str.ofString "HeapError") 196), some (Value.str (Str.ofString "HeapError") 204), some (Value.builtin "Exception.__new__"), some (Value.bool true)] }) ::
  (nat_lit 59, { cls := Value.type "dict", data := Data.dict #[enK P "__module__" 241 (Value.str (Str.ofString "alikeheap.errors") 194), enK P "__firstlineno__" 245 (Value.int 13 244), enK P "__static_attributes__" 246 (Value.ref 58), enK P "__doc__" 247 (Value.none)] 2 }) ::
  (nat_lit 60, { cls := Value.type "type", data := Data.cls { name := Str.ofString "TermFault", bases := [Value.ref 47], mro := [Value.ref 60, Value.ref 47, Value.type "Exception", Value.type "BaseException", Value.type "object"], ns := 59, qualname := Str.ofString "TermFault" }, slots := #[some (Value.ref 51), none, some (Value.str (Str.ofString "TermFault") 234), some (Value.str (Str.ofString "TermFault") 242), some (Value.builtin "Exception.__new__"), some (Value.bool true)] }) ::
  (nat_lit 66, { cls := Value.type "code", data := Data.fields #[Value.str (Str.ofString "is_op") 252, Value.str (Str.ofString "is_op") 253, Value.str (Str.ofString "/claim/cut.py") 254, Value.int 16 0, Value.int 1 0, Value.int 0 0, Value.int 0 0, Value.int 3 0, Value.ref 63, Value.bool true, Value.int 181 0, Value.ref 64, Value.none, Value.none, Value.none, Value.ref 65, Value.int 255 0, Value.int 16 0, Value.str (Str.ofString "/claim/cut.py") 256] }) ::
  (nat_lit 67, fnK "is_op" "is_op" "alikeheap.terms" 250 66 (topS 5) [] .none) ::
  (nat_lit 71, { cls := Value.type "code", data := Data.fields #[Value.str (Str.ofString "parts") 258, Value.str (Str.ofString "parts") 259, Value.str (Str.ofString "/claim/cut.py") 260, Value.int 18 0, Value.int 1 0, Value.int 0 0, Value.int 0 0, Value.int 3 0, Value.ref 68, Value.bool true, Value.int 181 0, Value.ref 69, Value.none, Value.none, Value.none, Value.ref 70, Value.int 261 0, Value.int 18 0, Value.str (Str.ofString "/claim/cut.py") 262] }) ::
  (nat_lit 72, fnK "parts" "parts" "alikeheap.terms" 250 71 (topS 6) [] .none) ::
  (nat_lit 78, { cls := Value.type "code", data := Data.fields #[Value.str (Str.ofString "part_at") 264, Value.str (Str.ofString "part_at") 265, Value.str (Str.ofString "/claim/cut.py") 266, Value.int 23 0, Value.int 2 0, Value.int 0 0, Value.int 0 0, Value.int 3 0, Value.ref 73, Value.bool true, Value.int 181 0, Value.ref 74, Value.none, Value.ref 75, Value.ref 76, Value.ref 77, Value.int 270 0, Value.int 23 0, Value.str (Str.ofString "/claim/cut.py") 271] }) ::
  (nat_lit 79, fnK "part_at" "part_at" "alikeheap.terms" 250 78 (topS 7) [] .none) ::
  (nat_lit 85, { cls := Value.type "code", data := Data.fields #[Value.str (Str.ofString "replaced") 273, Value.str (Str.ofString "replaced") 274, Value.str (Str.ofString "/claim/cut.py") 275, Value.int 29 0, Value.int 3 0, Value.int 0 0, Value.int 0 0, Value.int 3 0, Value.ref 80, Value.bool true, Value.int 181 0, Value.ref 81, Value.none, Value.ref 82, Value.ref 83, Value.ref 84, Value.int 280 0, Value.int 29 0, Value.str (Str.ofString "/claim/cut.py") 281] }) ::
  (nat_lit 86, fnK "replaced" "replaced" "alikeheap.terms" 250 85 (topS 8) [] .none) ::
  (nat_lit 99, { cls := Value.type "code", data := Data.fields #[Value.str (Str.ofString "__init__") 295, Value.str (Str.ofString "Bank.__init__") 296, Value.str (Str.ofString "/claim/cut.py") 297, Value.int 36 0, Value.int 1 0, Value.int 0 0, Value.int 0 0, Value.int 3 0, Value.ref 94, Value.bool true, Value.int 181 0, Value.ref 95, Value.none, Value.ref 96, Value.ref 97, Value.ref 98, Value.int 299 0, Value.int 36 0, Value.str (Str.ofString "/claim/cut.py") 300] }) ::
  (nat_lit 100, fnK "__init__" "Bank.__init__" "alikeheap.terms" 250 99 (metS 9 0) [] .none) ::
  (nat_lit 106, { cls := Value.type "code", data := Data.fields #[Value.str (Str.ofString "size") 302, Value.str (Str.ofString "Bank.size") 303, Value.str (Str.ofString "/claim/cut.py") 304, Value.int 42 0, Value.int 1 0, Value.int 0 0, Value.int 0 0, Value.int 3 0, Value.ref 101, Value.bool true, Value.int 181 0, Value.ref 102, Value.none, Value.ref 103, Value.ref 104, Value.ref 105, Value.int 306 0, Value.int 42 0, Value.str (Str.ofString "/claim/cut.py") 307] }) ::
  (nat_lit 107, fnK "size" "Bank.size" "alikeheap.terms" 250 106 (metS 9 1) [] .none) ::
  (nat_lit 111, { cls := Value.type "code", data := Data.fields #[Value.str (Str.ofString "take") 309, Value.str (Str.ofString "Bank.take") 310, Value.str (Str.ofString "/claim/cut.py") 311, Value.int 45 0, Value.int 3 0, Value.int 0 0, Value.int 0 0, Value.int 3 0, Value.ref 108, Value.bool true, Value.int 181 0, Value.ref 109, Value.none, Value.none, Value.none, Value.ref 110, Value.int 312 0, Value.int 45 0, Value.str (Str.ofString "/claim/cut.py") 313] }) ::
  (nat_lit 112, fnK "take" "Bank.take" "alikeheap.terms" 250 111 (metS 9 2) [] .none) ::
  (nat_lit 118, { cls := Value.type "code", data := Data.fields #[Value.str (Str.ofString "require") 315, Value.str (Str.ofString "Bank.require") 316, Value.str (Str.ofString "/claim/cut.py") 317, Value.int 59 0, Value.int 2 0, Value.int 0 0, Value.int 0 0, Value.int 3 0, Value.ref 113, Value.bool true, Value.int 181 0, Value.ref 114, Value.none, Value.ref 115, Value.ref 116, Value.ref 117, Value.int 320 0, Value.int 59 0, Value.str (Str.ofString "/claim/cut.py") 321] }) ::
  (nat_lit 119, fnK "require" "Bank.require" "alikeheap.terms" 250 118 (metS 9 3) [] .none) ::
  (nat_lit 125, { cls := Value.type "code", data := Data.fields #[Value.str (Str.ofString "put") 323, Value.str (Str.ofString "Bank.put") 324, Value.str (Str.ofString "/claim/cut.py") 325, Value.int 63 0, Value.int 2 0, Value.int 0 0, Value.int 0 0, Value.int 3 0, Value.ref 120, Value.bool true, Value.int 181 0, Value.ref 121, Value.none, Value.ref 122, Value.ref 123, Value.ref 124, Value.int 330 0, Value.int 63 0, Value.str (Str.ofString "/claim/cut.py") 331] }) ::
  (nat_lit 126, fnK "put" "Bank.put" "alikeheap.terms" 250 125 (metS 9 4) [] .none) ::
  (nat_lit 130, { cls := Value.type "code", data := Data.fields #[Value.str (Str.ofString "put_all") 333, Value.str (Str.ofString "Bank.put_all") 334, Value.str (Str.ofString "/claim/cut.py") 335, Value.int 68 0, Value.int 2 0, Value.int 0 0, Value.int 0 0, Value.int 3 0, Value.ref 127, Value.bool true, Value.int 181 0, Value.ref 128, Value.none, Value.none, Value.none, Value.ref 129, Value.int 336 0, Value.int 68 0, Value.str (Str.ofString "/claim/cut.py") 337] }) ::
  (nat_lit 131, fnK "put_all" "Bank.put_all" "alikeheap.terms" 250 130 (metS 9 5) [] .none) ::
  (nat_lit 144, { cls := Value.type "code", data := Data.fields #[Value.str (Str.ofString "op") 347, Value.str (Str.ofString "Bank.op") 348, Value.str (Str.ofString "/claim/cut.py") 349, Value.int 74 0, Value.int 2 0, Value.int 0 0, Value.int 0 0, Value.int 3 0, Value.ref 139, Value.bool true, Value.int 181 0, Value.ref 140, Value.none, Value.ref 141, Value.ref 142, Value.ref 143, Value.int 352 0, Value.int 74 0, Value.str (Str.ofString "/claim/cut.py") 353] }) ::
  (nat_lit 145, fnK "op" "Bank.op" "alikeheap.terms" 250 144 (metS 9 7) [] .none) ::
  (nat_lit 151, { cls := Value.type "code", data := Data.fields #[Value.str (Str.ofString "kids") 355, Value.str (Str.ofString "Bank.kids") 356, Value.str (Str.ofString "/claim/cut.py") 357, Value.int 77 0, Value.int 2 0, Value.int 0 0, Value.int 0 0, Value.int 3 0, Value.ref 146, Value.bool true, Value.int 181 0, Value.ref 147, Value.none, Value.ref 148, Value.ref 149, Value.ref 150, Value.int 360 0, Value.int 77 0, Value.str (Str.ofString "/claim/cut.py") 361] }) ::
  (nat_lit 152, fnK "kids" "Bank.kids" "alikeheap.terms" 250 151 (metS 9 8) [] .none) ::
  (nat_lit 163, { cls := Value.type "code", data := Data.fields #[Value.str (Str.ofString "term") 371, Value.str (Str.ofString "Bank.term") 372, Value.str (Str.ofString "/claim/cut.py") 373, Value.int 83 0, Value.int 2 0, Value.int 0 0, Value.int 0 0, Value.int 3 0, Value.ref 160, Value.bool true, Value.int 181 0, Value.ref 161, Value.none, Value.none, Value.none, Value.ref 162, Value.int 374 0, Value.int 83 0, Value.str (Str.ofString "/claim/cut.py") 375] }) ::
  (nat_lit 164, fnK "term" "Bank.term" "alikeheap.terms" 250 163 (metS 9 10) [] .none) ::
  (nat_lit 170, { cls := Value.type "code", data := Data.fields #[Value.str (Str.ofString "weight") 377, Value.str (Str.ofString "Bank.weight") 378, Value.str (Str.ofString "/claim/cut.py") 379, Value.int 95 0, Value.int 2 0, Value.int 0 0, Value.int 0 0, Value.int 3 0, Value.ref 165, Value.bool true, Value.int 181 0, Value.ref 166, Value.none, Value.ref 167, Value.ref 168, Value.ref 169, Value.int 382 0, Value.int 95 0, Value.str (Str.ofString "/claim/cut.py") 383] }) ::
  (nat_lit 171, fnK "weight" "Bank.weight" "alikeheap.terms" 250 170 (metS 9 11) [] .none) ::
  (nat_lit 187, { cls := Value.type "dict", data := Data.dict #[enK P "__module__" 290 (Value.str (Str.ofString "alikeheap.terms") 250), enK P "__firstlineno__" 294 (Value.int 34 293), enK P "__init__" 301 (Value.ref 100), enK P "size" 308 (Value.ref 107), enK P "take" 314 (Value.ref 112), enK P "require" 322 (Value.ref 119), enK P "put" 332 (Value.ref 126), enK P "put_all" 338 (Value.ref 131), enK P "cut" 346 (Value.ref 138), enK P "op" 354 (Value.ref 145), enK P "kids" 362 (Value.ref 152), enK P "node" 370 (Value.ref 159), enK P "term" 376 (Value.ref 164), enK P "weight" 384 (Value.ref 171), enK P "depth" 392 (Value.ref 178), enK P "seek" 401 (Value.ref 185), enK P "__static_attributes__" 406 (Value.ref 186), enK P "__dict__" 408 (Value.ref 189), enK P "__weakref__" 410 (Value.ref 190), enK P "__doc__" 411 (Value.none)] 4 }) ::
  (nat_lit 188, { cls := Value.type "type", data := Data.cls { name := Str.ofString "Bank", bases := [Value.type "object"], mro := [Value.ref 188, Value.type "object"], ns := 187, qualname := Str.ofString "Bank" }, slots := #[none, none, some (Value.str (Str.ofString "Bank") 283), some (Value.str (Str.ofString "Bank") 291), some (Value.builtin "object.__new__"), some (Value.bool true)] }) ::
  (nat_lit 193, { cls := Value.type "tuple", data := Data.seq #[Value.str (Str.ofString "a") 416, Value.str (Str.ofString "b") 417, Value.str (Str.ofString "f") 418, Value.str (Str.ofString "long") 419] }) ::
  (nat_lit 199, { cls := Value.type "code", data := Data.fields #[Value.str (Str.ofString "_law_number") 421, Value.str (Str.ofString "_law_number") 422, Value.str (Str.ofString "/claim/cut.py") 423, Value.int 105 0, Value.int 2 0, Value.int 0 0, Value.int 0 0, Value.int 3 0, Value.ref 194, Value.bool true, Value.int 181 0, Value.ref 195, Value.none, Value.ref 196, Value.ref 197, Value.ref 198, Value.int 427 0, Value.int 105 0, Value.str (Str.ofString "/claim/cut.py") 428] }) ::
  (nat_lit 200, fnK "_law_number" "_law_number" "law_pq0113_01" 414 199 (topS 12) [] .none) ::
  (nat_lit 206, { cls := Value.type "code", data := Data.fields #[Value.str (Str.ofString "_law_row") 430, Value.str (Str.ofString "_law_row") 431, Value.str (Str.ofString "/claim/cut.py") 432, Value.int 111 0, Value.int 2 0, Value.int 0 0, Value.int 0 0, Value.int 3 0, Value.ref 201, Value.bool true, Value.int 181 0, Value.ref 202, Value.none, Value.ref 203, Value.ref 204, Value.ref 205, Value.int 438 0, Value.int 111 0, Value.str (Str.ofString "/claim/cut.py") 439] }) ::
  (nat_lit 207, fnK "_law_row" "_law_row" "law_pq0113_01" 414 206 (topS 13) [] .none) ::
  (nat_lit 213, { cls := Value.type "code", data := Data.fields #[Value.str (Str.ofString "_law_ends") 441, Value.str (Str.ofString "_law_ends") 442, Value.str (Str.ofString "/claim/cut.py") 443, Value.int 118 0, Value.int 1 0, Value.int 0 0, Value.int 0 0, Value.int 3 0, Value.ref 208, Value.bool true, Value.int 181 0, Value.ref 209, Value.none, Value.ref 210, Value.ref 211, Value.ref 212, Value.int 449 0, Value.int 118 0, Value.str (Str.ofString "/claim/cut.py") 450] }) ::
  (nat_lit 214, fnK "_law_ends" "_law_ends" "law_pq0113_01" 414 213 (topS 14) [] .none) ::
  (nat_lit 220, { cls := Value.type "code", data := Data.fields #[Value.str (Str.ofString "_law_ways") 452, Value.str (Str.ofString "_law_ways") 453, Value.str (Str.ofString "/claim/cut.py") 454, Value.int 126 0, Value.int 2 0, Value.int 0 0, Value.int 0 0, Value.int 3 0, Value.ref 215, Value.bool true, Value.int 181 0, Value.ref 216, Value.none, Value.ref 217, Value.ref 218, Value.ref 219, Value.int 461 0, Value.int 126 0, Value.str (Str.ofString "/claim/cut.py") 462] }) ::
  (nat_lit 221, fnK "_law_ways" "_law_ways" "law_pq0113_01" 414 220 (topS 15) [] .none) ::
  (nat_lit 227, { cls := Value.type "code", data := Data.fields #[Value.str (Str.ofString "_law_term") 464, Value.str (Str.ofString "_law_term") 465, Value.str (Str.ofString "/claim/cut.py") 466, Value.int 134 0, Value.int 1 0, Value.int 0 0, Value.int 0 0, Value.int 3 0, Value.ref 222, Value.bool true, Value.int 181 0, Value.ref 223, Value.none, Value.ref 224, Value.ref 225, Value.ref 226, Value.int 471 0, Value.int 134 0, Value.str (Str.ofString "/claim/cut.py") 472] }) ::
  (nat_lit 228, fnK "_law_term" "_law_term" "law_pq0113_01" 414 227 (topS 16) [] .none) ::
  (nat_lit 234, { cls := Value.type "code", data := Data.fields #[Value.str (Str.ofString "_law_spot") 474, Value.str (Str.ofString "_law_spot") 475, Value.str (Str.ofString "/claim/cut.py") 476, Value.int 139 0, Value.int 3 0, Value.int 0 0, Value.int 0 0, Value.int 3 0, Value.ref 229, Value.bool true, Value.int 181 0, Value.ref 230, Value.none, Value.ref 231, Value.ref 232, Value.ref 233, Value.int 484 0, Value.int 139 0, Value.str (Str.ofString "/claim/cut.py") 485] }) ::
  (nat_lit 235, fnK "_law_spot" "_law_spot" "law_pq0113_01" 414 234 (topS 17) [] .none) ::
  (nat_lit 241, { cls := Value.type "code", data := Data.fields #[Value.str (Str.ofString "_law_told") 487, Value.str (Str.ofString "_law_told") 488, Value.str (Str.ofString "/claim/cut.py") 489, Value.int 149 0, Value.int 1 0, Value.int 0 0, Value.int 0 0, Value.int 3 0, Value.ref 236, Value.bool true, Value.int 181 0, Value.ref 237, Value.none, Value.ref 238, Value.ref 239, Value.ref 240, Value.int 491 0, Value.int 149 0, Value.str (Str.ofString "/claim/cut.py") 492] }) ::
  (nat_lit 242, fnK "_law_told" "_law_told" "law_pq0113_01" 414 241 (topS 18) [] .none) ::
  (nat_lit 246, { cls := Value.type "code", data := Data.fields #[Value.str (Str.ofString "_law_banked") 494, Value.str (Str.ofString "_law_banked") 495, Value.str (Str.ofString "/claim/cut.py") 496, Value.int 154 0, Value.int 4 0, Value.int 0 0, Value.int 0 0, Value.int 3 0, Value.ref 243, Value.bool true, Value.int 181 0, Value.ref 244, Value.none, Value.none, Value.none, Value.ref 245, Value.int 497 0, Value.int 154 0, Value.str (Str.ofString "/claim/cut.py") 498] }) ::
  (nat_lit 247, fnK "_law_banked" "_law_banked" "law_pq0113_01" 414 246 (topS 19) [] .none) ::
  (nat_lit 251, { cls := Value.type "code", data := Data.fields #[Value.str (Str.ofString "law") 500, Value.str (Str.ofString "law") 501, Value.str (Str.ofString "/claim/cut.py") 502, Value.int 166 0, Value.int 1 0, Value.int 0 0, Value.int 0 0, Value.int 3 0, Value.ref 248, Value.bool true, Value.int 181 0, Value.ref 249, Value.none, Value.none, Value.none, Value.ref 250, Value.int 503 0, Value.int 166 0, Value.str (Str.ofString "/claim/cut.py") 504] }) ::
  (nat_lit 252, fnK "law" "law" "law_pq0113_01" 414 251 (topS 20) [] .none) :: []
noncomputable def asL : List Addr := [2, 3, 25, 36, 37, 46, 47, 59, 60, 66, 67, 71, 72, 78, 79, 85, 86, 99, 100, 106, 107, 111, 112, 118, 119, 125, 126, 130, 131, 144, 145, 151, 152, 163, 164, 170, 171, 187, 188, 193, 199, 200, 206, 207, 213, 214, 220, 221, 227, 228, 234, 235, 241, 242, 246, 247, 251, 252]
theorem as_ok : ∀ P, asL = (K0 P).map (·.1) := fun _ => by kernel_rfl
end
section
/-! an own exception class whose __init__ stands in its base -/
noncomputable abbrev excMro : List Value := [.type "Exception", .type "BaseException", .type "object"]
section
variable {prog : Program} {w : World} {M : Model} {A : Around} {E : Value → Shared → Prop} {R : Result → Shared → Prop} {h : Heap} {g : Array GenState} {d : Drawn} {t : Nat} {os : OsState}
variable {nm q : Str} {C N D₀ : Addr} {bs : List Value} {hdct : Bool} {sn : List Str} {sub : List Value} {ab : Bool} {col : Option Bool} {dd : Option Addr} {k0 k1 k2 k3 k5 : Option Value}

theorem exc_has (X : String) : (Value.ref C :: .ref D₀ :: excMro).contains (.type X) = excMro.contains (.type X) := by
  rw [List.contains_cons, List.contains_cons]; rfl
noncomputable abbrev IsExc (h : Heap) (nm q : Str) (C N D₀ : Addr) (bs : List Value) (hdct : Bool) (sn : List Str) (sub : List Value) (ab : Bool) (col : Option Bool) (dd : Option Addr) (k0 k1 k2 k3 k5 : Option Value) : Prop :=
  h.get? C = some (excClassObj nm q C N bs (.ref D₀ :: excMro) hdct sn sub ab col dd k0 k1 k2 k3 k5 "Exception.__new__")
theorem exc_check_new {rest : List Value} {Q : Unit → Shared → Prop} (hC : IsExc h nm q C N D₀ bs hdct sn sub ab col dd k0 k1 k2 k3 k5)
    (hq : Q () ⟨h, g, d, t, os⟩) : wpAny M A (checkBuiltinCall "Exception.__new__" ⟨.ref C :: rest, []⟩) Q E ⟨h, g, d, t, os⟩ := by
  have FB := F.excBase_Exception
  have hcont : (Value.ref C :: .ref D₀ :: excMro).contains (.type "Exception") = true := by rw [exc_has]; exact FB.hasB
  have hstar := FB.noStar
  simp only [checkBuiltinCall, FB.newKind, FB.newSplit, FB.newRow]
  repeat (first | refine wpAny_loadPart_at hC ?_ | (refine wpAny_isSubtype_exc hC ?_; rw [hcont]) | refine wpAny_staticBase_exc hC ?_ | refine wpAny_madeBy_exc hC ?_ | simp only [bne_self_eq_false, Bool.false_eq_true, if_false] | wp_step)
  exact hq
theorem exc_new {rest : List Value} (hC : IsExc h nm q C N D₀ bs hdct sn sub ab col dd k0 k1 k2 k3 k5)
    (hq : R (.ok (.ret (.ref (h.objs.size + 1)))) ⟨(h.push { cls := .type "tuple", data := .seq rest.toArray }).push
      { cls := .ref C, data := .fields #[.ref h.objs.size, .none, .none, .none, .bool false, .none] }, g, d, t, os⟩) (hrest : rest.length ≤ sizeLine) :
    codeAny (model prog w) A (.builtin "Exception.__new__" ⟨.ref C :: rest, []⟩) R ⟨h, g, d, t, os⟩ := by
  have FB := F.excBase_Exception
  have hends := FB.ends
  have hcB : (Value.ref C :: .ref D₀ :: excMro).contains (.type "Exception") = true := by rw [exc_has]; exact FB.hasB
  have hcA : (Value.ref C :: .ref D₀ :: excMro).contains (.type "AttributeError") = false := by rw [exc_has]; exact FB.noAttr
  have hcN : (Value.ref C :: .ref D₀ :: excMro).contains (.type "NameError") = false := by rw [exc_has]; exact FB.noName
  refine codeAny_builtinAt FB.entry ?_
  unfold Builtin.«BaseException.__new__»
  refine PySem.wpAt_bind ?_
  show _root_.PySem.wpAt _ _ _ (stack >>= _) _ _ _
  refine PySem.wpAt_bind (PySem.wpAt_stack fun p below => PySem.wpAt_of_wpAny ?_)
  wp_walk
  refine PySem.wpAt_of_wpAny ?_
  rw [FB.owner]
  repeat (first | with_reducible refine wpAny_madeHere_exc FB.canon hC ?_ | with_reducible refine wpAny_loadPart_at hC ?_ | (with_reducible refine wpAny_isSubtype_exc hC ?_; first | rw [hcB] | rw [hcA] | rw [hcN]) | wp_step)
  show R _ _
  rw [Heap.size_push]
  exact hq
theorem exc_type_call {rest : List Value} {fI : Addr} {oI : Obj} {Q : Fin → Shared → Prop} (hC : IsExc h nm q C N D₀ bs hdct sn sub ab col dd k0 k1 k2 k3 k5)
    (hi : Looks (model prog w) h (typeLookup (.ref C) "__init__") (some (.ref fI))) (hfI : h.get? fI = some oI) (hfc : oI.cls = .type "function")
    (hq : ∀ h' e, Heap.MadeExcOf h h' e (.ref C) rest →
      wpAny (model prog w) A (call (.ref fI) (.ref e :: rest)) (fun r s' => r = .none ∧ Q (.done (.ret (.ref e))) s') E ⟨h', g, d, t, os⟩) (hrest : rest.length ≤ sizeLine) :
    wpAny (model prog w) A (Builtin.«type.__call__» ⟨.ref C :: rest, []⟩) Q E ⟨h, g, d, t, os⟩ := by
  have FB := F.excBase_Exception
  repeat (first | with_reducible refine wpAny_loadPart_at hC ?_ | with_reducible refine wpAny_madeBy_exc hC ?_ | wp_step)
  refine codeAny_call_builtin_code (Code.quiet_builtin _ FB.quiet) (exc_check_new hC ?_)
  refine exc_new hC ?_ hrest
  show wpAny _ _ _ _ _ _
  have up : ∀ b o, h.get? b = some o → ((h.push { cls := .type "tuple", data := .seq rest.toArray }).push { cls := .ref C, data := .fields #[.ref h.objs.size, .none, .none, .none, .bool false, .none] }).get? b = some o := fun b o e =>
    Heap.get?_push_of_some _ (Heap.get?_push_of_some _ e)
  have hC₁ := up _ _ hC
  have hfI₁ := up _ _ hfI
  have hget : ((h.push { cls := .type "tuple", data := .seq rest.toArray }).push
      { cls := .ref C, data := .fields #[.ref h.objs.size, .none, .none, .none, .bool false, .none] }).get? (h.objs.size + 1) = some
      { cls := .ref C, data := .fields #[.ref h.objs.size, .none, .none, .none, .bool false, .none] } := by heap_get
  have hcC : (Value.ref C :: .ref D₀ :: excMro).contains (.ref C) = true := by simp
  unfold isInstance
  repeat (first | with_reducible refine wpAny_loadPart_at hget ?_ | (with_reducible refine wpAny_isSubtype_exc hC₁ ?_; rw [hcC]) | wp_step)
  show wpAny _ _ (typeLookup (.ref C) _) _ _ _
  refine Looks.at (hi.keeps up) ?_
  refine wpAny_holding (wpAny_bind ?_)
  unfold bindSpecial
  refine wpAny_bind (wpAny_typeOf (T := "function") ⟨_, hfI₁, hfc⟩ ?_)
  rw [if_pos (by decide)]
  refine wpAny_pure (wpAny_bind (wpAny_mono (hq _ (h.objs.size + 1) ⟨up, Heap.get?_none_of_le (Nat.le_succ _), h.objs.size, hget, Heap.get?_none_of_le (Nat.le_refl _), ?_⟩) (fun r s' hr => ?_) fun _ _ x => x))
  · exact Heap.get?_push_of_some _ (Heap.get?_push_at rfl rfl)
  · obtain ⟨rfl, hQ⟩ := hr
    wp_walk
    exact hQ
theorem exc_call {rest : List Value} {fI : Addr} {oI : Obj} {Q : Value → Shared → Prop} (hC : IsExc h nm q C N D₀ bs hdct sn sub ab col dd k0 k1 k2 k3 k5)
    (hi : Looks (model prog w) h (typeLookup (.ref C) "__init__") (some (.ref fI))) (hfI : h.get? fI = some oI) (hfc : oI.cls = .type "function")
    (hq : ∀ h' e, Heap.MadeExcOf h h' e (.ref C) rest →
      wpAny (model prog w) (A.under (.builtin "type.__call__" ⟨.ref C :: rest, []⟩)) (call (.ref fI) (.ref e :: rest)) (fun r s' => r = .none ∧ Q (.ref e) s') E ⟨h', g, d, t, os⟩) (hrest : rest.length ≤ sizeLine) :
    wpAny (model prog w) A (call (.ref C) rest) Q E ⟨h, g, d, t, os⟩ := by
  have f1 := tc_lookup
  have f2 := tc_bind (.ref C)
  have hT : (⟨h, g, d, t, os⟩ : Shared).TypeIs (.ref C) "type" := ⟨_, hC, rfl⟩
  refine wpAny_call (codeAny_of_tree ?_)
  show wpAny _ _ (callAny (.ref C) _) _ _ _
  repeat (any_goals (first | assumption | with_reducible refine wpAny_loadPart_at hC ?_ | wp_step))
  refine ⟨rfl, ?_⟩
  refine codeAny_call_builtin_at (Code.quiet_builtin _ (by decide +kernel)) entry_typeCall (wpAny_check_type_call_sub hC (exc_type_call (hrest := hrest) hC hi hfI hfc fun h' e hm => ?_))
  exact hq h' e hm

/-- what raise does with what is made -/
theorem exc_raise {s : Shared} {env : Env} {x : Sem Value} {Q : Flow → Shared → Prop} (hh : A.handled = none)
    (hx : wpAny M A x (fun v s₁ => ∃ e t t', v = .ref e ∧ IsExc s₁.heap nm q C N D₀ bs hdct sn sub ab col dd k0 k1 k2 k3 k5 ∧
      (∃ dct, s₁.heap.get? e = some { cls := .ref C, dict := dct, data := .fields #[.ref t, .none, .none, .none, .bool false, t'] }) ∧ E (.ref e) s₁) E s) :
    wpAny M A (raiseStmt env (some x) none) Q E s := by
  have hcB : (Value.ref C :: .ref D₀ :: excMro).contains (.type "BaseException") = true := by rw [exc_has]; exact F.excBase_Exception.hasBase
  unfold raiseStmt
  refine wpAny_bind (wpAny_mono hx (fun v s₁ h₁ => ?_) fun _ _ x => x)
  obtain ⟨e, t, t', rfl, hC, ⟨dct, he⟩, hE⟩ := h₁
  obtain ⟨hp, g, d, tk, os⟩ := s₁
  repeat (first | with_reducible refine wpAny_loadPart_at he ?_ | with_reducible refine wpAny_loadPart_at hC ?_ | (with_reducible refine wpAny_isSubtype_exc hC ?_; rw [hcB]) | wp_step)
  exact wpAny_raiseNew_none hh hE
end
end
section
theorem slot_wd_get : Slot "wrapper_descriptor" "__get__" "wrapper_descriptor.__get__" := .of (owner := "wrapper_descriptor") (n := "__get__") (by rw [typeLookup_type, builtinLookup_eq_fast]; kernel_rfl) (by decide +kernel) (by decide +kernel) (by decide +kernel)
    (by first | exact .inl (by decide +kernel) | exact .inr (by decide +kernel)) (by rw [isSubtype_type]; kernel_rfl)
theorem entry_wd_get : entryFor table "wrapper_descriptor.__get__" = some Builtin.«wrapper_descriptor.__get__» := entryFor_of_tree (by kernel_rfl)
theorem args_wd_get (a b c : Value) : argsOk "wrapper_descriptor.__get__" ⟨[a, b, c], []⟩ := by unfold argsOk; kernel_rfl
theorem type_exc_init : typeOf (.builtin "Exception.__init__") = pure (.type "wrapper_descriptor") := by show builtinType _ = _; rw [builtinType_eq_fast]; kernel_rfl
theorem own_exc_init : classOwn (.type "Exception") "__init__" = pure (some (.builtin "Exception.__init__")) := by show pure (builtinOwn _ _) = _; rw [builtinOwn_eq_fast]; kernel_rfl

section
variable {prog : Program} {w : World} {M : Model} {A : Around} {E : Value → Shared → Prop} {R : Result → Shared → Prop} {h : Heap} {g : Array GenState} {d : Drawn} {t : Nat} {os : OsState}
variable {nm q : Str} {C N D₀ : Addr} {bs : List Value} {hdct : Bool} {sn : List Str} {sub : List Value} {ab : Bool} {col : Option Bool} {dd : Option Addr} {k0 k1 k2 k3 k5 : Option Value}

theorem wd_get {x : Addr} {o : Obj} {Q : Value → Shared → Prop} (hC : IsExc h nm q C N D₀ bs hdct sn sub ab col dd k0 k1 k2 k3 k5) (hx : h.get? x = some o) (hc : o.cls = .ref C)
    (hq : Q (.ref h.objs.size) ⟨h.push { cls := .type "method-wrapper", data := .fields #[.builtin "Exception.__init__", .ref x] }, g, d, t, os⟩) :
    wpAny (model prog w) A (call (.builtin "wrapper_descriptor.__get__") [.builtin "Exception.__init__", .ref x, .ref C]) Q E ⟨h, g, d, t, os⟩ := by
  have hcB : (Value.ref C :: .ref D₀ :: excMro).contains (.type "Exception") = true := by rw [exc_has]; exact F.excBase_Exception.hasB
  refine wpAny_call_entry slot_wd_get (T := "wrapper_descriptor") ?_ entry_wd_get ?_ (args_wd_get _ _ _)
  · exact type_exc_init
  · unfold Builtin.«wrapper_descriptor.__get__»
    have hcut : (".".intercalate ("Exception.__init__".cutAt '.').dropLast) = "Exception" := by decide +kernel
    repeat (first | (with_reducible refine wpAny_loadPart_at hx ?_; rw [hc]) | (rw [hcut]; with_reducible refine wpAny_isSubtype_exc hC ?_; rw [hcB]) | (unfold newFields; with_reducible refine wpAny_newObj_type ?_ (by size_fits)) | wp_step)
    exact ⟨_, rfl, hq⟩

theorem sup_ga {so D x : Addr} {ox : Obj} {tk : Tok} {Q : PySem.Fin → Shared → Prop} (hC : IsExc h nm q C N D bs hdct sn sub ab col dd k0 k1 k2 k3 k5) (hx : h.get? x = some ox) (hc : ox.cls = .ref C)
    (hso : h.get? so = some { cls := .type "super", dict := none, data := .fields #[.ref D, .ref x, .ref C], slots := #[] }) (hno : Looks (model prog w) h (opaqueClassAbove (.ref C)) none) (hxC : x ≠ C) (hCD : C ≠ D)
    (hq : Q (.done (.ret (.ref h.objs.size))) ⟨h.push { cls := .type "method-wrapper", data := .fields #[.builtin "Exception.__init__", .ref x] }, g, d, t, os⟩) :
    wpAny (model prog w) A (Builtin.«super.__getattribute__» ⟨[.ref so, .str "__init__" tk], []⟩) Q E ⟨h, g, d, t, os⟩ := by
  have hlk := slot_wd_get.lookup
  have hne : (Value.ref x == Value.ref C) = false := by simp [hxC]
  have hn : (("__init__" : Str) == ("__class__" : Str)) = false := by decide
  have hdt : ({ cls := .type "super", dict := none, data := .fields #[.ref D, .ref x, .ref C], slots := #[] } : Obj).data = .fields #[.ref D, .ref x, .ref C] := rfl
  have f0 : (#[.ref D, .ref x, .ref C] : Array Value)[0]? = some (.ref D) := rfl
  have f1 : (#[.ref D, .ref x, .ref C] : Array Value)[1]? = some (.ref x) := rfl
  have f2 : (#[.ref D, .ref x, .ref C] : Array Value)[2]? = some (.ref C) := rfl
  have hdrop : ((Value.ref C :: .ref D :: excMro).dropWhile (· != .ref D)).drop 1 = excMro := by
    have h1 : ((Value.ref C) != .ref D) = true := by simp [hCD]
    have h2 : ((Value.ref D) != .ref D) = false := by simp
    simp [List.dropWhile, h1, h2]
  have hown := own_exc_init
  have hty := type_exc_init
  unfold Builtin.«super.__getattribute__»
  repeat (first
    | (with_reducible refine wpAny_field hso hdt f0 ?_) | (with_reducible refine wpAny_field hso hdt f1 ?_) | (with_reducible refine wpAny_field hso hdt f2 ?_)
    | (with_reducible refine ks_wpAny_notOpaque hno ?_)
    | (with_reducible refine wpAny_mroOf_exc hC ?_; rw [hdrop])
    | (with_reducible refine wd_get hC hx hc ?_)
    | (with_reducible refine ⟨_, rfl, ?_⟩)
    | (rw [List.forIn_cons])
    | (rw [hown])
    | (rw [hty])
    | (rw [hlk])
    | (simp only [hn, hne, Bool.or_false, Bool.false_eq_true, if_false])
    | wp_step
    | dsimp only)
  all_goals exact hq
end
end
section
section
variable {prog : Program} {w : World} {M : Model} {A : Around} {E : Value → Shared → Prop} {R : Result → Shared → Prop} {h : Heap} {g : Array GenState} {d : Drawn} {t : Nat} {os : OsState}
variable {nm q : Str} {C N D₀ : Addr} {bs : List Value} {hdct : Bool} {sn : List Str} {sub : List Value} {ab : Bool} {col : Option Bool} {dd : Option Addr} {k0 k1 k2 k3 k5 : Option Value}

theorem sup_getMethod {so D x : Addr} {ox : Obj} {pl : Sem Bool} {Q : Value × List Value → Shared → Prop} (hC : IsExc h nm q C N D bs hdct sn sub ab col dd k0 k1 k2 k3 k5) (hx : h.get? x = some ox) (hc : ox.cls = .ref C)
    (hso : h.get? so = some { cls := .type "super", dict := none, data := .fields #[.ref D, .ref x, .ref C], slots := #[] }) (hno : Looks (model prog w) h (opaqueClassAbove (.ref C)) none) (hxC : x ≠ C) (hCD : C ≠ D)
    (hq : Q (.ref h.objs.size, []) ⟨h.push { cls := .type "method-wrapper", data := .fields #[.builtin "Exception.__init__", .ref x] }, g, d, t + 1, os⟩) :
    wpAny (model prog w) A (getMethod (.ref so) "__init__" pl) Q E ⟨h, g, d, t, os⟩ := by
  have hlk := F.ks_slot_super_ga.lookup
  have hcan := F.ks_canon_super_ga
  have hT : ∀ t', (⟨h, g, d, t', os⟩ : Shared).TypeIs (.ref so) "super" := fun _ => ⟨_, hso, rfl⟩
  unfold getMethod
  refine wpAny_bind (wpAny_specialOf (hT _) hlk ?_)
  show wpAny _ _ (if (Manifest.canonical "super.__getattribute__" != "object.__getattribute__") = true then _ else _) _ _ _
  rw [if_pos hcan]
  unfold getAttr getAttrBy
  refine wpAny_bind (wpAny_bind (wpAny_mkText (wpAny_holding (wpAny_bind (wpAny_typeOf (hT _) (wpAny_bind (wpAny_of_eq hlk ?_)))))))
  show wpAny _ _ (getAttrByItsOwn (.ref so) (.str "__init__" t) (.type "super") (.builtin "super.__getattribute__") true false) _ _ _
  unfold getAttrByItsOwn hookBefore callGetattribute boundAndCalled
  refine wpAny_bind (wpAny_of_eq (show (if onTheHeap (.type "super") then typeLookup (.type "super") "__getattr__" else pure none) = pure none from rfl) ?_)
  refine wpAny_bind (wpAny_attempt (wpAny_holding ?_))
  show wpAny _ _ (bindSpecial (.builtin "super.__getattribute__") (.ref so) >>= _) _ _ _
  refine wpAny_bind (wpAny_of_eq (F.ks_slot_super_ga.bind _) ?_)
  refine wpAny_mono (Q := fun v s' => v = .ref h.objs.size ∧ s' = ⟨h.push { cls := .type "method-wrapper", data := .fields #[.builtin "Exception.__init__", .ref x] }, g, d, t + 1, os⟩) (E := fun _ _ => False)
    (wpAny_call_entry F.ks_slot_super_ga (hT _) F.ks_entry_super_ga (sup_ga hC hx hc hso hno hxC hCD ⟨_, rfl, rfl, rfl⟩) (F.ks_gaArgs_super _ _)) (fun v s' hv => ?_) fun _ _ z => z.elim
  obtain ⟨rfl, rfl⟩ := hv
  exact wpAny_pure (wpAny_pure hq)

/-- the bound __init__ of the built-in base, called with one text -/
theorem mw_call {mw e t0 : Addr} {v : Value} {Q : Value → Shared → Prop} (hC : IsExc h nm q C N D₀ bs hdct sn sub ab col dd k0 k1 k2 k3 k5) (hmw : h.get? mw = some { cls := .type "method-wrapper", data := .fields #[.builtin "Exception.__init__", .ref e] })
    (he : h.get? e = some { cls := .ref C, data := .fields #[.ref t0, .none, .none, .none, .bool false, .none] })
    (hq : ∀ h', (∀ b o, b ≠ e → h.get? b = some o → h'.get? b = some o) → (∃ t1, h'.get? e = some { cls := .ref C, data := .fields #[.ref t1, .none, .none, .none, .bool false, .none] }) → Q .none ⟨h', g, d, t, os⟩) :
    wpAny (model prog w) A (call (.ref mw) [v]) Q E ⟨h, g, d, t, os⟩ := by
  have FB := F.excBase_Exception
  have hshort := FB.noStar
  have hrow := FB.initRow
  have hkind := FB.initKind
  refine wpAny_call (codeAny_of_tree ?_)
  show wpAny _ _ (callAny (.ref mw) ⟨[v], []⟩) _ _ _
  unfold callAny
  refine wpAny_bind (wpAny_load hmw ?_)
  dsimp only
  have hcB : (Value.ref C :: .ref D₀ :: excMro).contains (.type "Exception") = true := by rw [exc_has]; exact FB.hasB
  repeat (first
    | with_reducible refine wpAny_loadPart_at he ?_
    | with_reducible refine wpAny_loadPart_at hC ?_
    | (with_reducible refine wpAny_isSubtype_exc hC ?_; rw [hcB])
    | (with_reducible refine wpAny_onRaise ?_)
    | (rw [show ∀ (a b : String) (n : Nat), Bind.check ⟨.positional, "*", "Exception", .self, [⟨"args", .varPos, false⟩]⟩ a b n (List.map (fun x => x.fst) ({ pos := [Value.ref e, v] } : Args).kw) = pure () from
        fun a b n => check_star_args _ _ _ _ _ _])
    | wp_step | (unfold checkBoundCall) | (rw [hrow]) | (rw [hkind]))
  refine ⟨Code.quiet_builtin _ (by decide +kernel), codeAny_builtin FB.initEntry ?_⟩
  show wpAny _ _ (Builtin.«BaseException.__init__» ⟨[.ref e, v], []⟩) _ _ _
  wp_walk
  refine hq _ (fun b o hb hg => ?_) ⟨h.objs.size, ?_⟩
  · rw [Heap.get?_update_other _ _ (Ne.symm hb)]
    exact Heap.get?_push_of_some _ hg
  · rw [Heap.get?_update_self _ (Heap.get?_push_of_some _ he) rfl]
    rfl
end
end
section
open PySem.Builtin PySem.Builtin.ObjectAttr

section
variable {prog : Program} {w : World} {M : Model} {A : Around} {E : Value → Shared → Prop} {R : Result → Shared → Prop} {h : Heap} {g : Array GenState} {d : Drawn} {t : Nat} {os : OsState}
variable {nm q : Str} {C N D₀ : Addr} {bs : List Value} {sn : List Str} {sub : List Value} {ab : Bool} {col : Option Bool} {dd : Option Addr} {k0 k1 k2 k3 k5 : Option Value}

theorem exc_check_sa {x : Addr} {o : Obj} {nameV v : Value} {Q : Unit → Shared → Prop} (hC : IsExc h nm q C N D₀ bs true sn sub ab col dd k0 k1 k2 k3 k5) (hx : h.get? x = some o) (hc : o.cls = .ref C) (hq : Q () ⟨h, g, d, t, os⟩) :
    wpAny M A (checkBuiltinCall "object.__setattr__" ⟨[.ref x, nameV, v], []⟩) Q E ⟨h, g, d, t, os⟩ := by
  have SF := F.store_Exception
  have hcB : (Value.ref C :: .ref D₀ :: excMro).contains (.type "object") = true := by rw [exc_has]; exact SF.hasOwner
  have ha := SF.args (.ref x) nameV v
  simp only [checkBuiltinCall, SF.kind, SF.split]
  refine wpAny_bind ?_
  unfold isInstance
  repeat (first | (with_reducible refine wpAny_loadPart_at hx ?_; rw [hc]) | (with_reducible refine wpAny_isSubtype_exc hC ?_; rw [hcB]) | wp_step)
  exact hq
theorem exc_store_entry {x : Addr} {o : Obj} {name : Str} {tk : Tok} {v : Value} {Q : PySem.Fin → Shared → Prop} (hC : IsExc h nm q C N D₀ bs true sn sub ab col dd k0 k1 k2 k3 k5)
    (hlk : Looks (model prog w) h (typeLookup (.ref C) name) none) (hx : h.get? x = some o) (hc : o.cls = .ref C) (hdn : o.dict = none) (hnc : ∀ c, o.data ≠ .cls c)
    (hq : ∀ h' tk' dx, (∀ b ob, b ≠ x → h.get? b = some ob → h'.get? b = some ob) → h'.get? x = some { cls := o.cls, dict := some dx, data := o.data, slots := o.slots } → Q (.done (.ret .none)) ⟨h', g, d, tk', os⟩) :
    wpAny (model prog w) A (Builtin.«object.__setattr__» ⟨[.ref x, .str name tk, v], []⟩) Q E ⟨h, g, d, t, os⟩ := by
  have hpass := F.store_Exception.passes (.ref x)
  unfold Builtin.«object.__setattr__»
  repeat (first | rw [refuse_eq] | (rw [refuseLoop_ref, refuseLoop_ref, hpass]) | (with_reducible refine wpAny_loadPart_at hx ?_; rw [hc]) | with_reducible refine wpAny_mroOf_exc hC ?_ | (with_reducible refine Looks.at hlk ?_) | wp_step)
  rw [hdn, if_neg (by simp [typeHasDict])]
  split
  · rename_i hcd
    cases hcd
  split
  · rename_i c hcd
    exact absurd hcd (hnc c)
  · have hx₁ : (h.push { cls := .type "dict", data := .dict #[] }).get? x = some o := Heap.get?_push_of_some _ hx
    have hxs : x ≠ h.objs.size := Nat.ne_of_lt (Heap.lt_size hx)
    refine wpAny_bind (wpAny_alloc' ?_)
    refine wpAny_bind (wpAny_update' hx₁ ?_)
    refine wpAny_pure ?_
    have hgd : ((h.push { cls := .type "dict", data := .dict #[] }).update x fun o => { cls := o.cls, dict := some h.objs.size, data := o.data, slots := o.slots }).get? h.objs.size
        = some { cls := .type "dict", data := .dict #[] } :=
      (Heap.get?_update_ne _ _ _ _ hxs.symm).trans (Heap.get?_push_at rfl rfl)
    have hnd : ((h.push { cls := .type "dict", data := .dict #[] }).update x fun o => { cls := o.cls, dict := some h.objs.size, data := o.data, slots := o.slots }).Ns h.objs.size (fun _ => none) :=
      ⟨_, #[], _, hgd, rfl, fun e he => absurd he (by simp), fun _ => rfl⟩
    show wpAny _ _ (storeInDict h.objs.size (.str name tk) name v) _ _ _
    unfold storeInDict newKeyGuard
    refine wpAny_bind (wpAny_pure (wpAny_bind (wpAny_nsSet1 (Heap.Ns1.of_empty hnd) fun h' hn' hs => ?_)))
    obtain ⟨oD, esD, epD, hoD, hdD, hcD⟩ := hn'.count (Within.cons name v Within.nil)
    refine wpAny_bind (wpAny_lookBehind hoD (by rw [hdD]; exact pastItsLine_dict (Nat.le_trans hcD (by rw [List.length_cons, List.length_nil, sizeLine_eq]; lia))) ?_)
    wp_walk
    refine hq h' _ h.objs.size (fun b ob hbx hb => ?_) ?_
    · exact (hs.2 b (Nat.ne_of_lt (Heap.lt_size hb))).trans ((Heap.get?_update_ne _ _ _ _ hbx).trans (Heap.get?_push_of_some _ hb))
    · refine (hs.2 x hxs).trans (Heap.get?_update_self _ hx₁ ?_)
      have hfr := (Heap.get?_some_iff.mp hx).2
      obtain ⟨oc, od, odt, osl⟩ := o
      cases odt <;> first | rfl | exact hfr
theorem exc_setAttr {x : Addr} {o : Obj} {name : Str} {v : Value} {Q : Unit → Shared → Prop} (hC : IsExc h nm q C N D₀ bs true sn sub ab col dd k0 k1 k2 k3 k5)
    (hsa : Looks (model prog w) h (typeLookup (.ref C) "__setattr__") (some (.builtin "object.__setattr__")))
    (hlk : Looks (model prog w) h (typeLookup (.ref C) name) none) (hx : h.get? x = some o) (hc : o.cls = .ref C) (hdn : o.dict = none) (hnc : ∀ c, o.data ≠ .cls c)
    (hq : ∀ h' tk' dx, (∀ b ob, b ≠ x → h.get? b = some ob → h'.get? b = some ob) → h'.get? x = some { cls := o.cls, dict := some dx, data := o.data, slots := o.slots } → Q () ⟨h', g, d, tk', os⟩) :
    wpAny (model prog w) A (setAttr (.ref x) name v) Q E ⟨h, g, d, t, os⟩ := by
  have SF := F.store_Exception
  have f3 := SF.slot.bind (.ref x)
  unfold setAttr callSpecial? specialOf
  repeat (any_goals (first | assumption | (with_reducible refine wpAny_loadPart_at hx ?_; rw [hc]) | (with_reducible refine Looks.at hsa ?_) | wp_step))
  refine codeAny_call_builtin SF.slot.plain SF.entry (exc_check_sa hC hx hc (exc_store_entry hC hlk hx hc hdn hnc fun h' tk' dx hk hx' => ?_))
  repeat (any_goals (first | assumption | wp_step))
  exact hq h' tk' dx hk hx'
end
end
section
set_option compiler.extract_closed false
local macro_rules | `(tactic| fold_side6M) => `(tactic| (first
  | rfl
  | assumption
  | ((repeat (refine (upd_ne _ _ (by decide)).trans ?_)); first | exact upd_same .. | assumption | rfl)))
local macro_rules | `(tactic| frow_left) => do
  let is (s : String) : Array (Lean.TSyntax `term) := (s.splitOn " ").toArray.map fun s => ⟨Lean.mkIdent s.toName⟩
  let ts := is "Exs.nil Exs.cons Ex.assign Ex.setitem Ex.iff Ex.ret Ev.cint Ev.cstr Ev.cnone Ev.cbool Ev.neg Ev.bin Ev.ifexp Ev.meth Ex.expr Ev.tup EvArgs.nil EvArgs.cons Te.cmp Te.cmp2 Te.or2 Te.and2 Te.not Ev.slice Ev.rev Ev.sub EvO.none EvO.some Sto.name"
  let us := is "Op2.add Op2.sub Op.range1 iteT iteF"
  let vs := is "Op2.lt Op2.gt Op2.ge Op2.le Op2.nei"
  let ws := is "Ev.nameB Ev.callB Ev.callT"
  `(tactic| first
  | with_reducible (first $[| refine $ts ?_]*)
  | ((with_reducible show StoN ..); refine StoN.loc ?_)
  | ((with_reducible show Ev (e := .Name ..) ..); refine Ev.nameL (by fold_side6M) ?_)
  | with_reducible (first
    $[| refine $ws (by with_unfolding_all exact Fx.nB (by assumption) _ (by decide)) (by with_unfolding_all rfl) ?_]*
    $[| refine $vs ⟨_, rfl, ?_⟩]*
    $[| refine $us ?_]*))

section
noncomputable def T.posI : Nat → T → List Int → Option Nat
  | i, _, [] => some i
  | i, u, k :: r => if 0 ≤ k then (match u.kids[k.toNat]? with | some v => T.posI (kpos i u k.toNat) v r | none => none) else none
noncomputable def spotI (t : T) (way : List Int) : Int := match T.posI 0 t way with | some i => i | none => -1
theorem intsD'_cons {l : List Int} {d : D} {rest : List D} (h : d :: rest = intsD' l) : ∃ k r, l = k :: r ∧ d = .int k ∧ rest = intsD' r := by
  cases l with
  | nil => cases h
  | cons k r => simp only [intsD', List.map_cons, List.cons.injEq] at h; exact ⟨k, r, rfl, h.1, h.2⟩
theorem intsD'_nil {l : List Int} (h : [] = intsD' l) : l = [] := by
  cases l with
  | nil => rfl
  | cons k r => cases h
theorem rowD_get {l : List (Str × Nat)} {i : Nat} {p : Str × Nat} (h : l[i]? = some p) : (rowD l)[(i : Int).toNat]? = some (.tup [.str p.1, .int p.2]) := by
  unfold rowD
  rw [Int.toNat_natCast, List.getElem?_map, h]
  rfl
theorem natsD_get {l : List Nat} {i : Nat} {p : Nat} (h : l[i]? = some p) : (natsD l)[(i : Int).toNat]? = some (.int p) := by
  unfold natsD
  rw [Int.toNat_natCast, List.getElem?_map, h]
  rfl

section
variable {prog : Program} {w : World} {W : Gd} {A : Around} {X : Value → PH → Shared → Prop} {S : Sig}
theorem spot_ok (F : Fx W) (ha : Ar A 1) {t : T} (ht : t.size ≤ 1000) {way : List Int} {Q : D → Sig → Prop} (q : Q (.int (spotI t way)) S) :
    OpL (model prog w) W A (fun vs => call (.ref F.aSpot) vs) RepV [.lst (rowD t.row), .lst (natsD t.ends), .tup (intsD' way)] S X Q := by
  have hh : ∀ env, (A.deeper env).handled = none := fun _ => ha.hh
  refine Op.fn F.fSpot ha.room ["row", "ends", "way"] ?_ rfl (by decide) (by decide) fun L qual cd => ?_
  · exact fun name qual doc pm an cdv ct => vs3 fun a b c => rfl
  refine Exs.cons ?_
  repeat frow_left
  let Iv1 : List D → Sig → Prop := fun rest S' => ∃ ρ, S' = (L, .frame ρ) :: S ∧ ρ "row" = some (.lst (rowD t.row)) ∧ ρ "ends" = some (.lst (natsD t.ends)) ∧ ∃ (i : Nat) (u : T) (r : List Int), ρ "at" = some (.int i) ∧ rest = intsD' r ∧ At t.pre i u ∧ T.posI i u r = T.posI 0 t way
  refine Ex.for_ (I := Iv1) ?_ ?_ ?_ XF.passes
  · frow_left
    refine ItW.tup (hh _) ?_
    exact ⟨_, rfl, by fold_side6M, by fold_side6M, 0, t, way, by fold_side6M, rfl, At.root t, rfl⟩
  · refine hide4 fun Pg hPg => ?_
    intro d rest S' F₀ hIv
    obtain ⟨ρ, rfl, hrow, hends, i, u, r, hat, hr, hA, hpos⟩ := hIv
    obtain ⟨k, r', rfl, rfl, rfl⟩ := intsD'_cons hr
    have hb := hA.bound
    rw [T.pre_len] at hb
    have hi : (i : Int) < 2 ^ 63 := by lia
    refine hPg _ _ _ _ ?_
    repeat frow_left
    refine iteB (fun hk => ?_) (fun hk => ?_)
    · repeat frow_left
      refine ⟨_, List.Sublist.trans (List.sublist_append_left _ _) (List.sublist_cons_self _ _), ?_⟩
      rw [show (-1 : Int) = spotI t way by unfold spotI; rw [← hpos]; dsimp only [T.posI]; rw [if_neg (by lia)]]
      exact q
    · repeat frow_left
      refine Op2.item_lst (by lia) hi (rowD_get hA.row) ?_
      repeat frow_left
      refine Op2.item_tup (d := .int u.kids.length) (by decide) (by decide) rfl ?_
      repeat frow_left
      refine iteB (fun hk2 => ?_) (fun hk2 => ?_)
      · repeat frow_left
        refine ⟨_, List.Sublist.trans (List.sublist_append_left _ _) (List.sublist_cons_self _ _), ?_⟩
        rw [show (-1 : Int) = spotI t way by
          unfold spotI; rw [← hpos]; dsimp only [T.posI]; rw [if_pos (by lia), List.getElem?_eq_none (by lia)]]
        exact q
      · repeat frow_left
        have hkl : k.toNat < u.kids.length := by lia
        have hkn : ((k.toNat : Nat) : Int) = k := by lia
        have hul := u.kids_lt
        let Iv2 : List D → Sig → Prop := fun rest S' => ∃ ρ, S' = (L, .frame ρ) :: (S ++ F₀) ∧ ρ "row" = some (.lst (rowD t.row)) ∧ ρ "ends" = some (.lst (natsD t.ends)) ∧ ∃ j m : Nat, rest = upN j m ∧ j + m = k.toNat ∧ ρ "spot" = some (.int (kpos i u j))
        refine Ex.for_ (I := Iv2) ?_ ?_ ?_ XF.passes
        · repeat frow_left
          rw [← hkn]
          refine ItW.up (hh _) ?_ ?_
          · unfold sizeLine; lia
          exact ⟨_, rfl, by fold_side6M, by fold_side6M, 0, _, rfl, by lia, by rw [kpos_zero]; fold_side6M⟩
        · refine hide4 fun Pg hPg => ?_
          intro d rest S' F₁ hIv
          obtain ⟨ρ', rfl, hrow, hends, j, m, hr, hjm, hspot⟩ := hIv
          obtain ⟨m', rfl, rfl, rfl⟩ := upN_cons hr
          obtain ⟨v, hv⟩ : ∃ v, u.kids[j]? = some v := ⟨_, List.getElem?_eq_getElem (by lia)⟩
          have hB := hA.kid hv
          have hb2 := hB.bound
          rw [T.pre_len] at hb2
          refine hPg _ _ _ _ ?_
          repeat frow_left
          refine Op2.item_lst (by lia) (by lia) (natsD_get hB.ends) ?_
          repeat frow_left
          refine ⟨(L, .frame _) :: (S ++ F₀), rfl, _, rfl, by fold_side6M, by fold_side6M, j + 1, m', rfl, by lia, ?_⟩
          rw [kpos_succ hv]
          exact upd_same ..
        · refine hide1 fun Pg hPg => ?_
          intro S' hIv
          obtain ⟨ρ', rfl, hrow, hends, j, m, hr, hjm, hspot⟩ := hIv
          obtain rfl := upN_nil hr
          obtain ⟨v, hv⟩ : ∃ v, u.kids[k.toNat]? = some v := ⟨_, List.getElem?_eq_getElem hkl⟩
          rw [Nat.add_zero] at hjm
          subst hjm
          refine hPg _ ?_
          repeat frow_left
          refine ⟨(L, .frame _) :: S, rfl, _, rfl, by fold_side6M, by fold_side6M, _, v, r', by exact upd_same .., rfl, hA.kid hv, ?_⟩
          rw [← hpos]
          dsimp only [T.posI]
          rw [if_pos (by lia), hv]
  · refine hide1 fun Pg hPg => ?_
    intro S' hIv
    obtain ⟨ρ, rfl, hrow, hends, i, u, r, hat, hr, hA, hpos⟩ := hIv
    obtain rfl := intsD'_nil hr
    refine hPg _ ?_
    repeat frow_left
    refine ⟨_, List.sublist_cons_self _ _, ?_⟩
    rw [show (i : Int) = spotI t way by unfold spotI; rw [← hpos]; rfl]
    exact q
end
end
section
theorem len1 {x : D} : [x].length ≤ sizeLine := by show 1 ≤ sizeLine; decide
theorem len2 {x y : D} : [x, y].length ≤ sizeLine := by show 2 ≤ sizeLine; decide
theorem natsD_len (l : List Nat) : (natsD l).length = l.length := by unfold natsD; rw [List.length_map]
theorem rowD_len (l : List (Str × Nat)) : (rowD l).length = l.length := by unfold rowD; rw [List.length_map]
theorem natsD_set (l : List Nat) (i v : Nat) : (natsD l).set i (.int v) = natsD (l.set i v) := by unfold natsD; rw [List.map_set]
theorem natsD_rep (n v : Nat) : List.replicate n (D.int v) = natsD (List.replicate n v) := by unfold natsD; rw [List.map_replicate]
theorem ends_len (t : T) : t.ends.length = t.size := by
  have h : ∀ (l : List T) (i : Nat), (endsFrom i l).length = l.length := by
    intro l
    induction l with
    | nil => intro i; rfl
    | cons u r ih => intro i; simp only [endsFrom, List.length_cons, ih]
  unfold T.ends
  rw [h, T.pre_len]

section
variable {prog : Program} {w : World} {W : Gd} {A : Around} {X : Value → PH → Shared → Prop} {S : Sig}
theorem ends_ok (F : Fx W) (ha : Ar A 1) {t : T} (ht : t.size ≤ 1000) {Q : D → Sig → Prop} (q : Q (.lst (natsD t.ends)) S) :
    OpL (model prog w) W A (fun vs => call (.ref F.aEnds) vs) RepV [.lst (rowD t.row)] S X Q := by
  have hh : ∀ env, (A.deeper env).handled = none := fun _ => ha.hh
  refine Op.fn F.fEnds ha.room ["row"] ?_ rfl (by decide) (by decide) fun L qual cd => ?_
  · exact fun name qual doc pm an cdv ct => vs1 fun a => rfl
  refine Exs.cons ?_
  repeat frow_left
  refine Ev.lst ?_
  repeat frow_left
  refine ⟨by decide, ?_⟩
  repeat frow_left
  have hsz : (rowD t.row).length = t.size := by rw [rowD_len, row_len]
  refine Op.len_lst (by rw [hsz]; unfold sizeLine; lia) ?_
  refine Op2.lmul rfl (by rw [hsz]; unfold sizeLine; lia) fun a => ?_
  rw [hsz]
  repeat frow_left
  let Iv3 : List D → Sig → Prop := fun rest S' => ∃ ρ k e, rest = downN k ∧ S' = (L, .frame ρ) :: (a, .list (natsD e)) :: S ∧ ρ "row" = some (.lst (rowD t.row)) ∧ ρ "ends" = some (.raw (.ref a)) ∧ k ≤ t.size ∧ e.length = t.size ∧ ∀ j, k ≤ j → e[j]? = t.ends[j]?
  refine Ex.for_ (I := Iv3) ?_ ?_ ?_ XF.passes
  · repeat frow_left
    refine Op.len_lst (by rw [hsz]; unfold sizeLine; lia) ?_
    repeat frow_left
    rw [hsz]
    refine Op.range3 (by decide) (PyProof.noPylong_small (by lia)) ?_
    refine ItW.down (hh _) (by unfold sizeLine; lia) ?_
    refine ⟨_, t.size, List.replicate t.size 0, rfl, by rw [← natsD_rep]; rfl, ?_, ?_, Nat.le_refl _, by simp, fun j hj => ?_⟩
    · fold_side6M
    · fold_side6M
    · rw [List.getElem?_eq_none (by simp; lia), List.getElem?_eq_none (by rw [ends_len]; lia)]
  · refine hide4 fun Pg hPg => ?_
    intro d rest S' F₀ hIv
    obtain ⟨ρ, k', e, hr, rfl, hrow, hends, hk, hle, he⟩ := hIv
    obtain ⟨k, rfl, rfl, rfl⟩ := downN_cons hr
    obtain ⟨p, u, _, _, hA, _, _⟩ := all_get (t := t) (j := k) (by lia)
    have hb := hA.bound
    rw [T.pre_len] at hb
    have hul := u.kids_lt
    refine hPg _ _ _ _ ?_
    repeat frow_left
    let Iv4 : List D → Sig → Prop := fun rest S' => ∃ ρ j m, rest = upN j m ∧ j + m = u.kids.length ∧ S' = (L, .frame ρ) :: (a, .list (natsD e)) :: (S ++ F₀) ∧ ρ "row" = some (.lst (rowD t.row)) ∧ ρ "ends" = some (.raw (.ref a)) ∧ ρ "at" = some (.int k) ∧ ρ "end" = some (.int (kpos k u j))
    refine Ex.for_ (I := Iv4) ?_ ?_ ?_ XF.passes
    · repeat frow_left
      refine Op2.item_lst (by lia) (by lia) (rowD_get hA.row) ?_
      repeat frow_left
      refine Op2.item_tup (d := .int u.kids.length) (by decide) (by decide) rfl ?_
      repeat frow_left
      refine ItW.up (hh _) ?_ ?_
      · unfold sizeLine; lia
      exact ⟨_, 0, _, rfl, by lia, rfl, by fold_side6M, by fold_side6M, by fold_side6M, by rw [kpos_zero]; fold_side6M⟩
    · refine hide4 fun Pg hPg => ?_
      intro d rest S' F₁ hIv
      obtain ⟨ρ', j, m, hr, hjm, rfl, hrow, hends, hat, hend⟩ := hIv
      obtain ⟨m', rfl, rfl, rfl⟩ := upN_cons hr
      obtain ⟨v, hv⟩ : ∃ v, u.kids[j]? = some v := ⟨_, List.getElem?_eq_getElem (by lia)⟩
      have hB := hA.kid hv
      have hb2 := hB.bound
      rw [T.pre_len] at hb2
      refine hPg _ _ _ _ ?_
      repeat frow_left
      refine Op2.item_raw (l := natsD e) (List.mem_cons_of_mem _ (List.mem_cons_self ..)) (by lia) (by lia) (natsD_get (p := kpos k u j + v.size) ?_) ?_
      · rw [he _ (by unfold kpos; lia)]
        exact hB.ends
      repeat frow_left
      refine ⟨(L, .frame _) :: (a, .list (natsD e)) :: (S ++ F₀), rfl, _, j + 1, m', rfl, by lia, rfl, by fold_side6M, by fold_side6M, by fold_side6M, ?_⟩
      rw [kpos_succ hv]
      exact upd_same ..
    · refine hide1 fun Pg hPg => ?_
      intro S' hIv
      obtain ⟨ρ', j, m, hr, hjm, rfl, hrow, hends, hat, hend⟩ := hIv
      obtain rfl := upN_nil hr
      rw [Nat.add_zero] at hjm
      subst hjm
      rw [kpos_all] at hend
      refine hPg _ ?_
      repeat frow_left
      refine Op3.setitem_raw (j := 1) rfl (by lia) (by rw [natsD_len]; lia) (by rw [natsD_len]; unfold sizeLine; lia) ?_
      repeat frow_left
      refine ⟨(L, .frame _) :: (a, .list (natsD (e.set k (k + u.size)))) :: S, ?_, _, k, e.set k (k + u.size), rfl, rfl, by fold_side6M, by fold_side6M, by lia, by simpa using hle, fun i hi => ?_⟩
      · rw [← natsD_set]; rfl
      · by_cases z : i = k
        · subst z
          rw [hA.ends, List.getElem?_set_self (by lia)]
        · rw [List.getElem?_set_ne (Ne.symm z)]
          exact he i (by lia)
  · refine hide1 fun Pg hPg => ?_
    intro S' hIv
    obtain ⟨ρ, k, e, hr, rfl, hrow, hends, hk, hle, he⟩ := hIv
    obtain rfl := downN_nil hr
    have hee : e = t.ends := List.ext_getElem? fun i => he i (Nat.zero_le _)
    subst hee
    refine hPg _ ?_
    frow_left
    refine Exs.cons (Ex.ret (Ev.frz ?_))
    repeat frow_left
    exact ⟨a, natsD t.ends, (L, .frame ρ) :: S, rfl, List.Perm.swap .., _, List.sublist_cons_self _ _, q⟩
end
end
section
noncomputable def waysD (l : List (List Nat)) : List D := l.map fun p => .tup (natsD p)
theorem waysD_len (l : List (List Nat)) : (waysD l).length = l.length := by unfold waysD; rw [List.length_map]
theorem waysD_get {l : List (List Nat)} {i : Nat} {p : List Nat} (h : l[i]? = some p) : (waysD l)[(i : Int).toNat]? = some (.tup (natsD p)) := by
  unfold waysD
  rw [Int.toNat_natCast, List.getElem?_map, h]
  rfl
theorem waysD_set (l : List (List Nat)) (i : Nat) (p : List Nat) : (waysD l).set i (.tup (natsD p)) = waysD (l.set i p) := by unfold waysD; rw [List.map_set]
theorem natsD_snoc (p : List Nat) (k : Nat) : natsD (p ++ [k]) = natsD p ++ [.int k] := by unfold natsD; rw [List.map_append]; rfl

/-- the ways that are laid when i nodes are done, and of the i-th m kids -/
noncomputable def Dn (t : T) (i m : Nat) (p : List Nat) : Prop := ∀ p' k j', p = p' ++ [k] → T.posN 0 t p' = some j' → j' < i ∨ (j' = i ∧ k < m)
noncomputable def WInv (t : T) (i m : Nat) (w : List (List Nat)) : Prop := ∀ p j, T.posN 0 t p = some j → Dn t i m p → w[j]? = some p
theorem posN_uniq {t : T} {p q : List Nat} {j : Nat} (h : T.posN 0 t p = some j) (h' : T.posN 0 t q = some j) : p = q := by
  have h1 := ways_posN h
  rw [ways_posN h'] at h1
  exact (Option.some.inj h1).symm
theorem posN_snoc_inv {t : T} {p : List Nat} {k j : Nat} (h : T.posN 0 t (p ++ [k]) = some j) : ∃ i u v, T.posN 0 t p = some i ∧ t.find p = some u ∧ At t.pre i u ∧ u.kids[k]? = some v ∧ j = kpos i u k := by
  rw [posN_snoc] at h
  cases q : T.posN 0 t p with
  | none => rw [q] at h; cases h
  | some i =>
    obtain ⟨u, hA, hu⟩ := posN_at p t.pre 0 t i (At.root t) q
    rw [q, hu] at h
    dsimp only at h
    cases q2 : u.kids[k]? with
    | none => rw [q2] at h; cases h
    | some v =>
      rw [q2] at h
      exact ⟨i, u, v, rfl, hu, hA, q2, (Option.some.inj h).symm⟩
theorem WInv.start (t : T) (n : Nat) (h : 0 < n) : WInv t 0 0 (List.replicate n []) := fun p j hp hd => by
  rcases List.eq_nil_or_concat p with rfl | ⟨p', k, rfl⟩
  · simp only [T.posN, Option.some.injEq] at hp
    subst hp
    simp [h]
  · rw [List.concat_eq_append] at hp hd
    obtain ⟨i, u, v, h1, _⟩ := posN_snoc_inv hp
    have := hd p' k i rfl h1
    lia
theorem WInv.here {t : T} {i m : Nat} {w : List (List Nat)} {p : List Nat} (h : WInv t i m w) (hp : T.posN 0 t p = some i) : w[i]? = some p := by
  refine h p i hp fun p' k j' e hj => ?_
  subst e
  obtain ⟨i', u, v, h1, _, _, _, h2⟩ := posN_snoc_inv hp
  rw [h1] at hj
  cases hj
  unfold kpos at h2
  lia
theorem WInv.set {t u : T} {i m : Nat} {w : List (List Nat)} {p : List Nat} {v : T} (h : WInv t i m w) (hp : T.posN 0 t p = some i) (hu : t.find p = some u) (hv : u.kids[m]? = some v) (hl : kpos i u m < w.length) :
    WInv t i (m + 1) (w.set (kpos i u m) (p ++ [m])) := fun q j hq hd => by
  have hpm : T.posN 0 t (p ++ [m]) = some (kpos i u m) := by rw [posN_snoc, hp, hu]; dsimp only; rw [hv]
  by_cases z : j = kpos i u m
  · subst z
    rw [posN_uniq hq hpm, List.getElem?_set_self hl]
  · rw [List.getElem?_set_ne (Ne.symm z)]
    refine h q j hq fun p' k j' e hj => ?_
    rcases hd p' k j' e hj with a | ⟨a, b⟩
    · exact .inl a
    · refine .inr ⟨a, ?_⟩
      subst a
      by_cases c : k = m
      · exfalso
        subst c e
        rw [posN_uniq hj hp, hpm] at hq
        exact z (Option.some.inj hq).symm
      · lia
theorem WInv.next {t u : T} {i : Nat} {w : List (List Nat)} {p : List Nat} (h : WInv t i u.kids.length w) (hp : T.posN 0 t p = some i) (hu : t.find p = some u) : WInv t (i + 1) 0 w := fun q j hq hd => by
  refine h q j hq fun p' k j' e hj => ?_
  rcases hd p' k j' e hj with a | ⟨_, b⟩
  · by_cases c : j' < i
    · exact .inl c
    · have : j' = i := by lia
      subst this
      refine .inr ⟨rfl, ?_⟩
      subst e
      obtain ⟨i', u', v, h1, h2, _, h3, _⟩ := posN_snoc_inv hq
      rw [posN_uniq hj hp, hu] at h2
      cases h2
      exact (List.getElem?_eq_some_iff.mp h3).1
  · lia
theorem WInv.all {t : T} {w : List (List Nat)} (h : WInv t t.size 0 w) (hl : w.length = t.size) : w = t.ways := by
  refine List.ext_getElem? fun j => ?_
  by_cases hj : j < t.size
  · obtain ⟨p, u, _, h1, _, h2, _⟩ := all_get hj
    rw [h1]
    refine h p j h2 fun p' k j' e hj' => .inl ?_
    have := posN_lt hj'
    lia
  · rw [List.getElem?_eq_none (by lia), List.getElem?_eq_none (by rw [T.ways_len]; lia)]

section
variable {prog : Program} {w : World} {W : Gd} {A : Around} {X : Value → PH → Shared → Prop} {S : Sig}
theorem ways_ok (F : Fx W) (ha : Ar A 1) {t : T} (ht : t.size ≤ 1000) {Q : D → Sig → Prop} (q : Q (.lst (waysD t.ways)) S) :
    OpL (model prog w) W A (fun vs => call (.ref F.aWays) vs) RepV [.lst (rowD t.row), .lst (natsD t.ends)] S X Q := by
  have hh : ∀ env, (A.deeper env).handled = none := fun _ => ha.hh
  refine Op.fn F.fWays ha.room ["row", "ends"] ?_ rfl (by decide) (by decide) fun L qual cd => ?_
  · exact fun name qual doc pm an cdv ct => vs2 fun a b => rfl
  have hsz : (rowD t.row).length = t.size := by rw [rowD_len, row_len]
  refine Exs.cons ?_
  repeat frow_left
  refine Ev.lst ?_
  repeat frow_left
  refine ⟨(by first | exact len1 | decide), ?_⟩
  repeat frow_left
  refine ⟨(by first | exact len1 | decide), ?_⟩
  repeat frow_left
  refine Op.len_lst (by rw [hsz]; unfold sizeLine; lia) ?_
  refine Op2.lmul rfl (by rw [hsz]; unfold sizeLine; lia) fun a => ?_
  rw [hsz]
  repeat frow_left
  let Iv5 : List D → Sig → Prop := fun rest S' => ∃ ρ i m w, rest = upN i m ∧ i + m = t.size ∧ S' = (L, .frame ρ) :: (a, .list (waysD w)) :: S ∧ ρ "row" = some (.lst (rowD t.row)) ∧ ρ "ends" = some (.lst (natsD t.ends)) ∧ ρ "ways" = some (.raw (.ref a)) ∧ w.length = t.size ∧ WInv t i 0 w
  refine Ex.for_ (I := Iv5) ?_ ?_ ?_ XF.passes
  · repeat frow_left
    refine Op.len_lst (by rw [hsz]; unfold sizeLine; lia) ?_
    rw [hsz]
    repeat frow_left
    refine ItW.up (hh _) (by unfold sizeLine; lia) ?_
    refine ⟨_, 0, t.size, List.replicate t.size [], rfl, by lia, by rw [show waysD (List.replicate t.size []) = List.replicate t.size (.tup []) by unfold waysD; rw [List.map_replicate]; rfl], ?_, ?_, ?_, by simp, WInv.start t _ t.size_pos⟩
    · fold_side6M
    · fold_side6M
    · fold_side6M
  · refine hide4 fun Pg hPg => ?_
    intro d rest S' F₀ hIv
    obtain ⟨ρ, i, m, w, hr, him, rfl, hrow, hends, hways, hlen, hw⟩ := hIv
    obtain ⟨m', rfl, rfl, rfl⟩ := upN_cons hr
    obtain ⟨p, u, _, _, hA, hp, hu⟩ := all_get (t := t) (j := i) (by lia)
    have hb := hA.bound
    rw [T.pre_len] at hb
    have hul := u.kids_lt
    refine hPg _ _ _ _ ?_
    repeat frow_left
    let Iv6 : List D → Sig → Prop := fun rest S' => ∃ ρ j m w, rest = upN j m ∧ j + m = u.kids.length ∧ S' = (L, .frame ρ) :: (a, .list (waysD w)) :: (S ++ F₀) ∧ ρ "row" = some (.lst (rowD t.row)) ∧ ρ "ends" = some (.lst (natsD t.ends)) ∧ ρ "ways" = some (.raw (.ref a)) ∧ ρ "at" = some (.int i) ∧ ρ "spot" = some (.int (kpos i u j)) ∧ w.length = t.size ∧ WInv t i j w
    refine Ex.for_ (I := Iv6) ?_ ?_ ?_ XF.passes
    · repeat frow_left
      refine Op2.item_lst (by lia) (by lia) (rowD_get hA.row) ?_
      repeat frow_left
      refine Op2.item_tup (d := .int u.kids.length) (by decide) (by decide) rfl ?_
      repeat frow_left
      refine ItW.up (hh _) ?_ ?_
      · unfold sizeLine; lia
      refine ⟨_, 0, _, w, rfl, by lia, rfl, ?_, ?_, ?_, ?_, ?_, hlen, hw⟩
      · fold_side6M
      · fold_side6M
      · fold_side6M
      · fold_side6M
      · rw [kpos_zero]; fold_side6M
    · refine hide4 fun Pg hPg => ?_
      intro d rest S' F₁ hIv
      obtain ⟨ρ', j, m, w', hr, hjm, rfl, hrow, hends, hways, hat, hspot, hlen', hw'⟩ := hIv
      obtain ⟨m'', rfl, rfl, rfl⟩ := upN_cons hr
      obtain ⟨v, hv⟩ : ∃ v, u.kids[j]? = some v := ⟨_, List.getElem?_eq_getElem (by lia)⟩
      have hB := hA.kid hv
      have hb2 := hB.bound
      rw [T.pre_len] at hb2
      have hvs := v.size_pos
      refine hPg _ _ _ _ ?_
      repeat frow_left
      refine Op2.item_raw (l := waysD w') (List.mem_cons_of_mem _ (List.mem_cons_self ..)) (by lia) (by lia) (waysD_get (hw'.here hp)) ?_
      repeat frow_left
      refine ⟨len1, Op2.tadd ?_ ?_⟩
      · have hpl : p.length ≤ t.size := by
          have h1 : ∀ (p : List Nat) (i : Nat) (t : T) (j : Nat), T.posN i t p = some j → p.length + i ≤ j := by
            intro p
            induction p with
            | nil => intro i t j h; dsimp only [T.posN, Option.some.injEq] at h; dsimp only [List.length_nil]; lia
            | cons a r ih =>
              intro i t j h
              dsimp only [T.posN] at h
              cases z : t.kids[a]? with
              | none => rw [z] at h; cases h
              | some x =>
                rw [z] at h
                have := ih _ _ _ h
                unfold kpos at this
                dsimp only [List.length_cons]
                lia
          have := h1 p 0 t i hp
          lia
        rw [natsD_len]
        dsimp only [List.length_cons, List.length_nil]
        unfold sizeLine
        lia
      repeat frow_left
      refine Op3.setitem_raw (j := 1) rfl (by lia) (by rw [waysD_len]; lia) (by rw [waysD_len]; unfold sizeLine; lia) ?_
      repeat frow_left
      refine Op2.item_lst (by lia) (by lia) (natsD_get hB.ends) ?_
      repeat frow_left
      refine ⟨(L, .frame _) :: (a, .list (waysD (w'.set (kpos i u j) (p ++ [j])))) :: (S ++ F₀), by rw [← waysD_set, natsD_snoc]; rfl, _, j + 1, m'', w'.set (kpos i u j) (p ++ [j]), rfl, by lia, rfl, ?_, ?_, ?_, ?_, ?_, by simpa using hlen', hw'.set hp hu hv (by lia)⟩
      · fold_side6M
      · fold_side6M
      · fold_side6M
      · fold_side6M
      · rw [kpos_succ hv]; exact upd_same ..
    · refine hide1 fun Pg hPg => ?_
      intro S' hIv
      obtain ⟨ρ', j, m, w', hr, hjm, rfl, hrow, hends, hways, hat, hspot, hlen', hw'⟩ := hIv
      obtain rfl := upN_nil hr
      rw [Nat.add_zero] at hjm
      subst hjm
      refine hPg _ ?_
      repeat frow_left
      exact ⟨(L, .frame ρ') :: (a, .list (waysD w')) :: S, rfl, _, i + 1, m', w', rfl, by lia, rfl, hrow, hends, hways, hlen', hw'.next hp hu⟩
  · refine hide1 fun Pg hPg => ?_
    intro S' hIv
    obtain ⟨ρ, i, m, w, hr, him, rfl, hrow, hends, hways, hlen, hw⟩ := hIv
    obtain rfl := upN_nil hr
    rw [Nat.add_zero] at him
    subst him
    obtain rfl := hw.all hlen
    refine hPg _ ?_
    frow_left
    refine Exs.cons (Ex.ret (Ev.frz ?_))
    repeat frow_left
    exact ⟨a, waysD t.ways, (L, .frame ρ) :: S, rfl, List.Perm.swap .., _, List.sublist_cons_self _ _, q⟩

theorem rowD_rev_cons {R : List (Str × Nat)} {k : Nat} {d : D} {rest : List D} (hk : k ≤ R.length) (h : d :: rest = (rowD (R.take k)).reverse) : ∃ k' p, k = k' + 1 ∧ R[k']? = some p ∧ d = .tup [.str p.1, .int p.2] ∧ rest = (rowD (R.take k')).reverse := by
  cases k with
  | zero => simp [rowD] at h
  | succ k' =>
    obtain ⟨p, hp⟩ : ∃ p, R[k']? = some p := ⟨_, List.getElem?_eq_getElem (by lia)⟩
    refine ⟨k', p, rfl, hp, ?_⟩
    rw [List.take_add_one, hp] at h
    simp only [rowD, Option.toList_some, List.map_append, List.map_cons, List.map_nil, List.reverse_append, List.reverse_cons, List.reverse_nil, List.nil_append, List.cons_append, List.cons.injEq] at h
    exact h
theorem term_ok (F : Fx W) (ha : Ar A 1) {t : T} (ht : t.size ≤ 1000) {Q : D → Sig → Prop} (q : Q t.term S) :
    OpL (model prog w) W A (fun vs => call (.ref F.aTerm) vs) RepV [.lst (rowD t.row)] S X Q := by
  have hh : ∀ env, (A.deeper env).handled = none := fun _ => ha.hh
  refine Op.fn F.fTerm ha.room ["row"] ?_ rfl (by decide) (by decide) fun L qual cd => ?_
  · exact fun name qual doc pm an cdv ct => vs1 fun a => rfl
  have hsz : (rowD t.row).length = t.size := by rw [rowD_len, row_len]
  refine Exs.cons ?_
  repeat frow_left
  refine Ev.lst ?_
  repeat frow_left
  refine ⟨(by first | exact len1 | decide), ?_⟩
  repeat frow_left
  let Iv7 : List D → Sig → Prop := fun rest S' => ∃ ρ k, k ≤ t.row.length ∧ rest = (rowD (t.row.take k)).reverse ∧ S' = (L, .frame ρ) :: S ∧ ρ "stack" = some (.lst (T.terms (build (t.row.drop k))))
  refine Ex.for_ (I := Iv7) ?_ ?_ ?_ XF.passes
  · repeat frow_left
    refine ⟨_, rfl, by rw [hsz]; unfold sizeLine; lia, ?_⟩
    refine ItW.lst (hh _) ?_
    refine ⟨_, t.row.length, Nat.le_refl _, by rw [List.take_length], rfl, ?_⟩
    rw [List.drop_length]
    fold_side6M
  · refine hide4 fun Pg hPg => ?_
    intro d rest S' F₀ hIv
    obtain ⟨ρ, k, hk, hr, rfl, hst⟩ := hIv
    obtain ⟨k', p, rfl, hp, rfl, rfl⟩ := rowD_rev_cons hk hr
    have hbl := build_len (t.row.drop (k' + 1))
    rw [List.length_drop] at hbl
    replace hbl := Nat.le_trans hbl (Nat.le_trans (Nat.sub_le _ _) (row_len t ▸ ht))
    have hl2 : (T.terms (build (t.row.drop (k' + 1)))).length = (build (t.row.drop (k' + 1))).length := by rw [terms_map, List.length_map]
    refine hPg _ _ _ _ ?_
    refine Sto.tup2 (hh _) ?_
    repeat frow_left
    refine Ev.lst ?_
    repeat frow_left
    refine ⟨(by first | exact len1 | decide), ?_⟩
    repeat frow_left
    refine ⟨_, rfl, OpS.lst (by rw [hl2]; unfold sizeLine; lia) ?_⟩
    rw [cutD_upto]
    repeat frow_left
    refine Op.tuple_lst (by rw [List.length_take, hl2]; exact Nat.le_trans (Nat.min_le_right ..) (by unfold sizeLine; lia)) ?_
    refine Op2.tadd (by rw [List.length_take, hl2]; exact Nat.le_trans (Nat.add_le_add_left (Nat.min_le_right ..) _) (by unfold sizeLine; show 0 + 1 + _ ≤ _; lia)) ?_
    repeat frow_left
    refine ⟨(by first | exact len1 | decide), ?_⟩
    repeat frow_left
    refine ⟨_, rfl, ?_⟩
    repeat frow_left
    refine OpS.lst (by rw [hl2]; unfold sizeLine; lia) ?_
    rw [cutD_from]
    refine Op2.ladd (by rw [List.length_drop, hl2]; exact Nat.le_trans (Nat.add_le_add_left (Nat.sub_le ..) _) (by unfold sizeLine; show 0 + 1 + _ ≤ _; lia)) ?_
    repeat frow_left
    refine ⟨(L, .frame _) :: S, rfl, _, k', by lia, rfl, rfl, ?_⟩
    have e : t.row.drop k' = p :: t.row.drop (k' + 1) := by
      obtain ⟨h1, h2⟩ := List.getElem?_eq_some_iff.mp hp
      rw [← h2]
      exact List.drop_eq_getElem_cons h1
    rw [e]
    obtain ⟨o, mm⟩ := p
    dsimp only [build]
    rw [terms_map, terms_map, List.map_cons, term_eq]
    simp only [T.op, T.kids, List.map_take, List.map_drop]
    exact upd_same ..
  · refine hide1 fun Pg hPg => ?_
    intro S' hIv
    obtain ⟨ρ, k, hk, hr, rfl, hst⟩ := hIv
    have : k = 0 := by
      cases k with
      | zero => rfl
      | succ k =>
        have := congrArg List.length hr
        rw [List.length_reverse, rowD_len, List.length_take] at this
        dsimp only [List.length_nil] at this
        lia
    subst this
    rw [List.drop_zero, build_row] at hst
    dsimp only [T.terms] at hst
    refine hPg _ ?_
    repeat frow_left
    refine Op2.item_lst (d := t.term) (by decide) (by decide) rfl ?_
    exact ⟨_, List.sublist_cons_self _ _, q⟩
end
end
section
noncomputable def opOk (x : Str) : Bool := x.cps.all (· < 128) && decide (x ≠ "") && x.cps.toList.all (fun c => !Txt.isspace ⟨#[c]⟩ && (Builtin.Str.occurrences "()[]{},:" ⟨#[c]⟩ 0 (Str.ofString "()[]{},:").length 1).isEmpty) && PyData.strOk x && (x.cps[0]? != some 63) && decide (x.cps.size ≤ 1000)
noncomputable def partD (p : List Nat × T) : D := .tup [.tup (natsD p.1), p.2.term]
noncomputable def partsD (l : List (List Nat × T)) : List D := l.map partD
theorem allL_snoc : ∀ (l : List T) (b : Nat) (x : T), T.allL b (l ++ [x]) = T.allL b l ++ x.all.map fun p => ((b + l.length) :: p.1, p.2)
  | [], b, x => by simp [T.allL]
  | t :: r, b, x => by
    simp only [List.cons_append, T.allL, allL_snoc r (b + 1) x, List.append_assoc, List.length_cons]
    rw [show b + 1 + r.length = b + (r.length + 1) by lia]
theorem depthL_mem : ∀ {l : List T} {k : Nat} {v : T}, l[k]? = some v → v.depth ≤ T.depthL l
  | [], k, v, h => by simp at h
  | t :: r, 0, v, h => by
    simp only [List.getElem?_cons_zero, Option.some.injEq] at h
    subst h
    dsimp only [T.depthL]
    exact Nat.le_max_left ..
  | t :: r, k + 1, v, h => by
    have := depthL_mem (l := r) (k := k) (v := v) h
    dsimp only [T.depthL]
    lia
theorem depth_kid {t v : T} {k : Nat} (h : t.kids[k]? = some v) : v.depth < t.depth := by
  have := depthL_mem h
  cases t
  dsimp only [T.depth, T.kids] at this ⊢
  lia
theorem sizeL_mem : ∀ {l : List T} {k : Nat} {v : T}, l[k]? = some v → v.size ≤ T.sizeL l
  | [], k, v, h => by simp at h
  | t :: r, 0, v, h => by
    simp only [List.getElem?_cons_zero, Option.some.injEq] at h
    subst h
    dsimp only [T.sizeL]
    lia
  | t :: r, k + 1, v, h => by
    have := sizeL_mem (l := r) (k := k) (v := v) h
    dsimp only [T.sizeL]
    lia
theorem size_kid {t v : T} {k : Nat} (h : t.kids[k]? = some v) : v.size < t.size := by
  have := sizeL_mem h
  rw [T.size_eq t]
  lia
theorem all_path_len {t u : T} {j : Nat} {p : List Nat} (h : t.all[j]? = some (p, u)) : p.length ≤ j := by
  have h0 := all_posN p t 0 j u h
  have h1 : ∀ (p : List Nat) (i : Nat) (t : T) (j : Nat), T.posN i t p = some j → p.length + i ≤ j := by
    intro p
    induction p with
    | nil => intro i t j h; dsimp only [T.posN, Option.some.injEq] at h; dsimp only [List.length_nil]; lia
    | cons a r ih =>
      intro i t j h
      dsimp only [T.posN] at h
      cases z : t.kids[a]? with
      | none => rw [z] at h; cases h
      | some x =>
        rw [z] at h
        have := ih _ _ _ h
        unfold kpos at this
        dsimp only [List.length_cons]
        lia
  have := h1 p 0 t _ h0.1
  lia
theorem enumD_drop_cons {l : List T} {k : Nat} {d : D} {rest : List D} (h : d :: rest = enumD k (T.terms (l.drop k))) : ∃ v, l[k]? = some v ∧ d = .tup [.int k, v.term] ∧ rest = enumD (k + 1) (T.terms (l.drop (k + 1))) := by
  cases q : l[k]? with
  | none =>
    rw [List.drop_of_length_le (by simpa using q)] at h
    cases h
  | some v =>
    obtain ⟨hk, e⟩ := List.getElem?_eq_some_iff.mp q
    rw [List.drop_eq_getElem_cons hk, e] at h
    simp only [T.terms, enumD, List.cons.injEq] at h
    exact ⟨v, rfl, h.1, h.2⟩

section
variable {prog : Program} {w : World} {W : Gd} {A : Around} {X : Value → PH → Shared → Prop} {S : Sig}
theorem isop_ok (F : Fx W) (ha : Ar A 1) {x : Str} (hx : opOk x = true) {Q : D → Sig → Prop} (q : Q (.bool true) S) :
    OpL (model prog w) W A (fun vs => call (.ref F.aIsOp) vs) RepV [.str x] S X Q := by
  have hh : ∀ env, (A.deeper env).handled = none := fun _ => ha.hh
  unfold opOk at hx
  simp only [Bool.and_eq_true, decide_eq_true_eq] at hx
  obtain ⟨⟨⟨⟨⟨hasc, hne⟩, hall⟩, hok⟩, _⟩, hlen⟩ := hx
  refine Op.fn F.fIsOp ha.room ["text"] ?_ rfl (by decide) (by decide) fun L qual cd => ?_
  · exact fun name qual doc pm an cdv ct => vs1 fun a => rfl
  refine Exs.cons ?_
  frow_left
  refine Ev.and2 ?_
  refine Ev.cmp ?_
  repeat frow_left
  refine Op2.neT (n := 0) (k := 0) (by simpa using hne) (by simpa [plain] using hok) (by dsimp only [plain]; decide +kernel) (by decide) (by decide) (ha.deeper _).eqU ?_
  refine ⟨true, rfl, ?_⟩
  refine iteT ?_
  refine Ev.cmp ?_
  let Iv8 : List D → List D → Sig → Prop := fun rest acc S' => acc = [] ∧ S' = (L, .frame fun y => ((["text"] : List Str).zip [D.str x]).reverse.lookup y) :: S ∧ ∃ cs : List Nat, rest = cs.map (fun c => D.str ⟨#[c]⟩) ∧ ∀ c ∈ cs, c ∈ x.cps.toList
  refine Ev.comp (I := Iv8) ?_ ?_ ?_
  · repeat frow_left
    refine ItW.str (hh _) hasc ?_
    refine ⟨by simp only [List.length_map, Array.length_toList]; unfold sizeLine; lia, rfl, rfl, _, rfl, fun c hc => hc⟩
  · refine hide7 fun Pg hPg => ?_
    intro C d rest acc S' ρ F₀ hIv
    obtain ⟨rfl, rfl, cs, hr, hcs⟩ := hIv
    cases cs with
    | nil => cases hr
    | cons c cs =>
      simp only [List.map_cons, List.cons.injEq] at hr
      obtain ⟨rfl, rfl⟩ := hr
      have hc := List.all_eq_true.mp hall c (hcs c (List.mem_cons_self ..))
      rw [Bool.and_eq_true, Bool.not_eq_true'] at hc
      refine hPg _ _ _ _ _ _ _ ?_
      repeat frow_left
      refine Tests.one ?_
      frow_left
      refine Te.value ?_
      repeat frow_left
      refine Me.isspace ?_
      refine Op1.truthy_bool ?_
      rw [hc.1]
      refine iteF ?_
      repeat frow_left
      refine Op2.in_str ⟨_, rfl, ?_⟩
      rw [hc.2]
      refine iteF ?_
      exact ⟨_, _, rfl, rfl, rfl, cs, rfl, fun c hc => hcs c (List.mem_cons_of_mem _ hc)⟩
  · refine hide2 fun Pg hPg => ?_
    intro acc S' hIv
    obtain ⟨rfl, rfl, cs, hr, _⟩ := hIv
    refine hPg _ _ ?_
    refine Ev.lst ?_
    repeat frow_left
    refine ⟨by decide, ?_⟩
    refine Op2.eqT (n := 1) (by simp [plain]) (by decide) (ha.deeper _).eqU ?_
    exact ⟨_, List.sublist_cons_self _ _, q⟩

theorem parts_ok (F : Fx W) {n : Nat} : ∀ {A : Around} {S : Sig} {X : Value → PH → Shared → Prop} (ha : Ar A (n + 1)) {t : T} (hd : t.depth ≤ n) (ht : t.size ≤ 1000) {Q : D → Sig → Prop} (q : Q (.lst (partsD t.all)) S),
    OpL (model prog w) W A (fun vs => call (.ref F.aParts) vs) RepV [t.term] S X Q := by
  induction n with
  | zero =>
    intro A S X ha t hd
    cases t
    dsimp only [T.depth] at hd
    lia
  | succ n ih =>
  intro A S X ha t hd ht Q q
  have hh : ∀ env, (A.deeper env).handled = none := fun _ => ha.hh
  refine Op.fnC F.fParts ha.room ["t"] ?_ rfl (by decide) ?_ fun L qual cd => ?_
  · exact fun name qual doc pm an cdv ct => vs1 fun a => rfl
  · intro x hx
    rw [List.mem_singleton] at hx
    subst hx
    exact .inl (by decide)
  show Exs _ _ _ _ _ ((L, .frame (bindLD (kindS (scopeS (topS 6))) ((["t"] : List Str).zip [t.term]) fun _ => none)) :: (L + 1, .cell none) :: S) _ _
  refine Exs.cons ?_
  frow_left
  refine Ev.lstM ?_
  repeat frow_left
  refine ⟨by decide, ?_⟩
  repeat frow_left
  refine ⟨len2, ?_⟩
  repeat frow_left
  refine ⟨len1, fun a => ?_⟩
  repeat frow_left
  let Iv9 : List D → Sig → Prop := fun rest S' => ∃ ρ k kk, k ≤ t.kids.length ∧ rest = enumD k (T.terms (t.kids.drop k)) ∧ S' = (L, .frame ρ) :: (a, .list (partsD (([], t) :: T.allL 0 (t.kids.take k)))) :: (L + 1, .cell kk) :: S ∧ ρ "found" = some (.raw (.ref a))
  refine Ex.for_ (I := Iv9) ?_ ?_ ?_ XF.passes
  · repeat frow_left
    rw [term_eq]
    refine ⟨_, rfl, ?_⟩
    repeat frow_left
    refine OpS.tup ?_ ?_
    · have := t.kids_lt
      simp only [List.length_cons, List.length_map]; unfold sizeLine; lia
    repeat frow_left
    refine Op.enum fun e it => ?_
    refine ItW.enum (hh _) ?_
    refine ⟨_, 0, none, Nat.zero_le _, ?_, by rw [show partsD (([], t) :: T.allL 0 (t.kids.take 0)) = [.tup [.tup [], .tup (.str t.op :: t.kids.map T.term)]] by rw [← term_eq]; rfl], ?_⟩
    rotate_left
    · fold_side6M
    have := cutD_from (D.str t.op :: t.kids.map T.term) 1
    rw [show (((1 : Nat) : Int)) = 1 from rfl] at this
    rw [this, terms_map]
    rfl
  · refine hide4 fun Pg hPg => ?_
    intro d rest S' F₀ hIv
    obtain ⟨ρ, k, kk, hk, hr, rfl, hf⟩ := hIv
    obtain ⟨v, hv, rfl, rfl⟩ := enumD_drop_cons hr
    have hvs := size_kid hv
    have hvd := depth_kid hv
    have hklt : k < t.kids.length := (List.getElem?_eq_some_iff.mp hv).1
    have hlen : (partsD (([], t) :: T.allL 0 (t.kids.take k))).length ≤ t.size := by
      have h1 := congrArg List.length (T.allL_snd 0 (t.kids.take k))
      rw [List.length_map, T.preL_len] at h1
      have h2 := T.sizeL_take_le t.kids k
      unfold partsD
      rw [List.length_map, List.length_cons, h1, T.size_eq]
      lia
    refine hPg _ _ _ _ ?_
    refine Sto.tup2 (hh _) (Sto.name (StoN.cell (i := 2) (c := L + 1) rfl rfl ?_))
    repeat frow_left
    refine Me.extend (l := partsD (([], t) :: T.allL 0 (t.kids.take k))) (List.mem_cons_of_mem _ (List.mem_cons_self ..)) ?_
    let Iv10 : List D → List D → Sig → Prop := fun rest acc S' => ∃ l1 l2 ρ', v.all = l1 ++ l2 ∧ rest = partsD l2 ∧ acc = partsD (l1.map fun p => (k :: p.1, p.2)) ∧ ρ' "found" = some (.raw (.ref a)) ∧ S' = (L, .frame ρ') :: (a, .list (partsD (([], t) :: T.allL 0 (t.kids.take k)))) :: (L + 1, .cell (some (.int k))) :: (S ++ F₀)
    refine Ev.comp (cl := [("k", L + 1)]) (I := Iv10) ?_ ?_ ?_
    · refine Ev.callG F.gParts F.fParts ?_
      repeat frow_left
      refine ih (ha.deeper _) (by lia) (by lia) ?_
      refine ItW.lst (hh _) ?_
      refine ⟨by unfold partsD; rw [List.length_map, T.all_len]; unfold sizeLine; lia, [], v.all, _, rfl, rfl, rfl, ?_, rfl⟩
      fold_side6M
    · refine hide7 fun Pg hPg => ?_
      intro C d rest acc S' ρ' F₁ hIv
      obtain ⟨l1, l2, ρ₂, hv', hr', rfl, hf2, rfl⟩ := hIv
      cases l2 with
      | nil => cases hr'
      | cons x l2 =>
        dsimp only [partsD, List.map_cons, List.cons.injEq] at hr'
        obtain ⟨rfl, rfl⟩ := hr'
        have hxl : x.1.length ≤ 1000 := by
          have h1 : v.all[l1.length]? = some (x.1, x.2) := by rw [hv']; simp
          have h2 := all_path_len h1
          have h3 := (List.getElem?_eq_some_iff.mp h1).1
          rw [T.all_len] at h3
          lia
        refine hPg _ _ _ _ _ _ _ ?_
        unfold partD
        refine Sto.tup2 (hh _) ?_
        repeat frow_left
        refine Tests.nil ?_
        refine iteT ?_
        repeat frow_left
        refine Ev.nameC (c := L + 1) (d := .int k) rfl (by simp) ?_
        repeat frow_left
        refine ⟨len1, ?_⟩
        repeat frow_left
        refine Op2.tadd ?_ ?_
        · rw [natsD_len]; dsimp only [List.length_cons, List.length_nil]; unfold sizeLine; lia
        repeat frow_left
        refine ⟨len2, _, _, rfl, l1 ++ [x], l2, ρ₂, by rw [hv']; simp, rfl, ?_, hf2, rfl⟩
        simp only [List.map_append, List.map_cons, List.map_nil, partsD, partD]
        rfl
    · refine hide2 fun Pg hPg => ?_
      intro acc S' hIv
      obtain ⟨l1, l2, ρ', hv', hr', rfl, hf2, rfl⟩ := hIv
      have : l2 = [] := by cases l2 with | nil => rfl | cons x l2 => cases hr'
      subst this
      rw [List.append_nil] at hv'
      refine hPg _ _ ?_
      refine ⟨1, _, _, rfl, rfl, ?_, rfl, ?_⟩
      · have h1 : l1.length = v.size := by rw [← hv', T.all_len]
        unfold partsD at hlen ⊢
        simp only [List.length_map] at hlen ⊢
        unfold sizeLine; lia
      repeat frow_left
      refine ⟨(L, .frame ρ') :: (a, .list (partsD (([], t) :: T.allL 0 (t.kids.take (k + 1))))) :: (L + 1, .cell (some (.int k))) :: S, ?_, ρ', k + 1, _, by lia, rfl, rfl, hf2⟩
      rw [List.take_add_one, hv, Option.toList_some, allL_snoc, List.length_take, Nat.min_eq_left (by lia), Nat.zero_add, hv']
      have e : ∀ (x : List Nat × T) (a b : List (List Nat × T)), partsD (x :: (a ++ b)) = partsD (x :: a) ++ partsD b := fun x a b => by
        unfold partsD
        rw [← List.map_append]
        rfl
      rw [e]
      rfl
  · refine hide1 fun Pg hPg => ?_
    intro S' hIv
    obtain ⟨ρ, k, kk, hk, hr, rfl, hf⟩ := hIv
    have hkl : k = t.kids.length := by
      have := enumD_nil hr
      rw [terms_map, List.map_eq_nil_iff, List.drop_eq_nil_iff] at this
      lia
    subst hkl
    refine hPg _ ?_
    frow_left
    refine Exs.cons (Ex.ret (Ev.frz ?_))
    repeat frow_left
    refine ⟨a, _, (L, .frame ρ) :: (L + 1, .cell kk) :: S, rfl, List.Perm.swap .., S, ?_, ?_⟩
    · exact (List.sublist_cons_self _ _).trans (List.sublist_cons_self _ _)
    · rw [List.take_length, ← T.all_cons]
      exact q
end
end
section
set_option genInjectivity false
set_option genSizeOf false
noncomputable abbrev exO (C t : Addr) (dx : Option Addr) : Obj := { cls := .ref C, dict := dx, data := .fields #[.ref t, .none, .none, .none, .bool false, .none] }
structure Exf (prog : Program) (w : World) (W : Gd) where
  C : Addr
  D : Addr
  fI : Addr
  cda : Addr
  cc : Addr
  isC : ∃ nm q N bs sn sub ab col dd k0 k1 k2 k3 k5, IsExc W.G nm q C N D bs true sn sub ab col dd k0 k1 k2 k3 k5
  lookInit : Looks (model prog w) W.G (typeLookup (.ref C) "__init__") (some (.ref fI))
  lookSet : Looks (model prog w) W.G (typeLookup (.ref C) "__setattr__") (some (.builtin "object.__setattr__"))
  lookWhat : Looks (model prog w) W.G (typeLookup (.ref C) "what") none
  opq : Looks (model prog w) W.G (opaqueClassAbove (.ref C)) none
  isD : ∃ oD cdD, W.G.get? D = some oD ∧ oD.data = .cls cdD
  fn : ∃ od osl name qual doc pm an ct, W.G.get? fI = some ⟨.type "function", od, .func (ksFn name qual (argsS (metS 2 0)) (bodyS (metS 2 0)) (scopeS (metS 2 0)) .none .none doc pm an (.ref cda) ct cc), osl⟩ ∧ W.G.CodeRec (.ref cda) qual
  code : ∃ ocd vs file tf, W.G.get? cda = some ocd ∧ ocd.data = .fields vs ∧ vs[2]? = some (.str file tf) ∧ ((prog.main.file : Str) == file) = true
  cell : W.G.IsCell cc (some (.ref D))
  top : (prog.main.scope.names.lookup ("super" : Str)).isSome = false
  gSuper : W.mg "super" = none
  gC : W.mg "TermFault" = some (.ref C)
  neCD : C ≠ D

section
variable {prog : Program} {w : World} {W : Gd} {A : Around} {E : Value → Shared → Prop} {S : Sig}
theorem exc_init (F : Exf prog w W) (hroom : A.depth < recursionLimit) {s : Shared} {B : PH} {e t0 : Addr} {v : Value} (y : St W s B ((e, .obj (exO F.C t0 none)) :: S)) {Q : Value → Shared → Prop}
    (hq : ∀ s' t1 dx B', PH.le B B' → St W s' B' ((e, .obj (exO F.C t1 (some dx))) :: S) → Q .none s') : wpAny (model prog w) A (call (.ref F.fI) [.ref e, v]) Q E s := by
  obtain ⟨nm, q, N, bs, sn, sub, ab, col, dd, k0, k1, k2, k3, k5, hC⟩ := F.isC
  obtain ⟨oD, cdD, hD, hDd⟩ := F.isD
  obtain ⟨od, osl, name, qual, doc, pm, an, ct, hf, hcd⟩ := F.fn
  obtain ⟨ocd, vs, file, tf, hcda, hcdd, hvs, hfile⟩ := F.code
  have gr := y.ground
  refine wpAny_call (ks_codeAny_call_defAt (fd := ksFn name qual (argsS (metS 2 0)) (bodyS (metS 2 0)) (scopeS (metS 2 0)) .none .none doc pm an (.ref F.cda) ct F.cc) (body := bodyS (metS 2 0)) (binds := [("self", .ref e), ("what", v)]) hroom (gr _ _ hf) rfl
    (W.hlim.keeps gr) (hcd.keeps gr) rfl (.of_eq rfl) (show ∀ x ∈ (scopeS (metS 2 0)).names, x.2 ≠ .cell by decide) (by intro x hx; simp only [List.mem_cons, List.not_mem_nil, or_false] at hx; rcases hx with rfl | rfl <;> rfl) (fun h₁ hns hk₁ => ?_))
  have y₂ := y.addFrame (tk := s.toks + ([("self", .ref e), ("what", v)] : List (Str × Value)).length) (ρ := fun x => ([("self", D.raw (.ref e)), ("what", D.raw v)] : List (Str × D)).reverse.lookup x) hns (by
    have := frame0 (B := B) (ps := ["self", "what"]) (RepL.cons (rep_raw (.ref e)) (RepL.one (rep_raw v)))
    exact this) hk₁
  revert y₂
  generalize hs1 : ({ s with heap := h₁, toks := s.toks + ([("self", .ref e), ("what", v)] : List (Str × Value)).length } : Shared) = s₁
  generalize hL : s.heap.objs.size = L
  intro y₂
  have he : callEnv (ksFn name qual (argsS (metS 2 0)) (bodyS (metS 2 0)) (scopeS (metS 2 0)) .none .none doc pm an (.ref F.cda) ct F.cc) L F.fI = ksEnv qual (scopeS (metS 2 0)) L F.fI (.ref F.cda) F.cc := rfl
  rw [he]
  clear hs1 hns hk₁ he
  show _root_.PySem.wpAt _ _ _ (execs (_ :: _) _) _ _ _
  refine ks_wpAt_execs_cons (ks_wpAt_Expr_any (ks_wpAt_MethodCall ?_))
  have g2 := y₂.ground
  obtain ⟨hh, gg, dr, tk, os⟩ := s₁
  refine ks_wpAt_super_base (oc := ocd) (vs := vs) (file := file) (tf := tf) rfl rfl rfl rfl (g2 _ _ hf) rfl rfl rfl (g2 _ _ hcda) hcdd hvs hfile F.top ?_
  refine ks_loadName_global rfl rfl (loadGlobal_builtin (W.hg.keeps g2) F.gSuper (W.hb.keeps g2) ((W.boot _ (by decide)).trans rfl) ⟨rfl, ?_⟩)
  have hcell : Heap.IsCell hh F.cc (some (.ref F.D)) := by
    obtain ⟨o, ho, hd⟩ := F.cell
    exact ⟨o, g2 _ _ ho, hd⟩
  refine wpAny_loadName_free rfl rfl rfl hcell ?_
  obtain ⟨m, hm, hfm⟩ := y₂.cells (L, _) (.head _)
  obtain ⟨vs1, hself, rself⟩ := hfm "self" (.raw (.ref e)) rfl
  obtain rfl := raw_inv rself
  refine wpAny_loadName_local rfl rfl hm hself ?_
  have hx : Heap.get? hh e = some (exO F.C t0 none) := y₂.cells (e, _) (.tail _ (.head _))
  have hCg := g2 _ _ hC
  refine ks_wpAny_isType_cls (g2 _ _ hD) hDd ⟨rfl, ?_⟩
  have hsub : Looks (model prog w) hh (isSubtype (.ref F.C) (.ref F.D)) true := fun A Q E s k q => by
    obtain ⟨h3, g3, d3, t3, o3⟩ := s
    refine wpAny_isSubtype_exc (k _ _ hCg) ?_
    rw [show (Value.ref F.C :: .ref F.D :: excMro).contains (.ref F.D) = true by simp]
    exact q
  refine ks_wpAny_call_super (g2 _ _ hD) hDd hx rfl (fun c e => by cases e) hsub (fun h3 hso k3 => ?_)
  have hxC : e ≠ F.C := fun q => by
    subst q
    rw [hCg] at hx
    cases hx
  have y3 := y₂.grow (h' := h3) (tk := tk) k3
  refine sup_getMethod (k3 _ _ hCg) (k3 _ _ hx) rfl hso (F.opq.keeps fun b o q => k3 _ _ (g2 _ _ q)) hxC F.neCD ?_
  have y4 := y3.newP (o := { cls := .type "method-wrapper", data := .fields #[.builtin "Exception.__init__", .ref e] }) rfl (tk + 1)
  have hfr := y3.fresh
  have hmw : St.add B h3.objs.size { cls := .type "method-wrapper", data := .fields #[.builtin "Exception.__init__", .ref e] } h3.objs.size = some { cls := .type "method-wrapper", data := .fields #[.builtin "Exception.__init__", .ref e] } := St.add_self
  have hle : PH.le B (St.add B h3.objs.size { cls := .type "method-wrapper", data := .fields #[.builtin "Exception.__init__", .ref e] }) := St.add_le hfr
  revert y4 hmw hle
  dsimp only
  generalize St.add B h3.objs.size { cls := .type "method-wrapper", data := .fields #[.builtin "Exception.__init__", .ref e] } = B4
  generalize h3.push { cls := .type "method-wrapper", data := .fields #[.builtin "Exception.__init__", .ref e] } = h4
  generalize h3.objs.size = mw
  intro y4 hmw hle
  refine callWith_of (P := fun h => h.get? mw = some { cls := .type "method-wrapper", data := .fields #[.builtin "Exception.__init__", .ref e] }) rfl (fun h hp => ⟨.machine, .inr (.inl rfl), (Looks.ld (part := none) hp).andThen .now⟩) (evalArgs_any rfl ?_)
  have hargs : ∀ pos, EvArgs (model prog w) W (A.deeper (ksEnv qual (scopeS (metS 2 0)) L F.fI (.ref F.cda) F.cc)) (ksEnv qual (scopeS (metS 2 0)) L F.fI (.ref F.cda) F.cc) pos [.Name "what" ⟨8, 25, 8, 29⟩]
      ((L, .frame fun x => ([("self", D.raw (.ref e)), ("what", D.raw v)] : List (Str × D)).reverse.lookup x) :: (e, .obj (exO F.C t0 none)) :: S) XF
      fun ds S' => ds = [.raw v] ∧ S' = (L, .frame fun x => ([("self", D.raw (.ref e)), ("what", D.raw v)] : List (Str × D)).reverse.lookup x) :: (e, .obj (exO F.C t0 none)) :: S := fun pos =>
    EvArgs.cons (Ev.nameL rfl (EvArgs.nil ⟨rfl, rfl⟩))
  refine (hargs _).use y4 (fun us s5 B5 ds S5 l5 y5 r5 hq5 => ?_) fun _ _ p => p.false.elim
  obtain ⟨hds, hS5⟩ := hq5
  subst hds hS5
  dsimp only [RepVs, RepL, Rep] at r5
  obtain ⟨v5, us5, rfl, rfl, rfl⟩ := r5
  obtain ⟨h5, g5, d5, t5, o5⟩ := s5
  have hx5 : Heap.get? h5 e = some (exO F.C t0 none) := y5.cells (e, _) (.tail _ (.head _))
  have gr5 := y5.ground
  refine ⟨y5.le _ _ (l5 _ _ hmw), mw_call (gr5 _ _ hC) (y5.le _ _ (l5 _ _ hmw)) hx5 fun h6 hk6 hh1 => ?_⟩
  obtain ⟨t1, hx6⟩ := hh1
  have y6 : St W ⟨h6, g5, d5, t5, o5⟩ B5 ((L, .frame fun x => ([("self", D.raw (.ref e)), ("what", D.raw v5)] : List (Str × D)).reverse.lookup x) :: (e, .obj (exO F.C t1 none)) :: S) :=
    ((y5.perm (List.Perm.swap ..)).turn0 (tk := t5) (c' := .obj (exO F.C t1 none)) hk6 hx6).perm (List.Perm.swap ..)
  show _root_.PySem.wpAt _ _ _ (execs [_] _) _ _ _
  refine ks_wpAt_execs_cons (ks_wpAt_Assign_Attr ?_)
  have hname : ∀ (x : Str) (pos : Pos) (u : Value) (S' : Sig), ([("self", D.raw (.ref e)), ("what", D.raw v5)] : List (Str × D)).reverse.lookup x = some (.raw u) →
      (ksEnv qual (scopeS (metS 2 0)) L F.fI (.ref F.cda) F.cc).kindOf x = some .local → (x == ("__debug__" : Str)) = false →
      Ev (model prog w) W (A.deeper (ksEnv qual (scopeS (metS 2 0)) L F.fI (.ref F.cda) F.cc)) (ksEnv qual (scopeS (metS 2 0)) L F.fI (.ref F.cda) F.cc) (.Name x pos)
        ((L, .frame fun x => ([("self", D.raw (.ref e)), ("what", D.raw v5)] : List (Str × D)).reverse.lookup x) :: S') XF
        fun d S₁ => d = .raw u ∧ S₁ = (L, .frame fun x => ([("self", D.raw (.ref e)), ("what", D.raw v5)] : List (Str × D)).reverse.lookup x) :: S' :=
    fun x pos u S' hl hk hd => Ev.nameL hl ⟨rfl, rfl⟩ rfl rfl hk hd
  refine PySem.wpAt_of_wpAny ((hname "what" _ v5 _ rfl rfl (by decide)).use y6 (fun v7 s7 B7 d7 S7 l7 y7 r7 hq7 => ?_) fun _ _ p => p.false.elim)
  obtain ⟨hd7, hS7⟩ := hq7
  subst hd7 hS7
  obtain rfl := raw_inv r7
  refine (hname "self" _ (.ref e) _ rfl rfl (by decide)).use y7 (fun v8 s8 B8 d8 S8 l8 y8 r8 hq8 => ?_) fun _ _ p => p.false.elim
  obtain ⟨hd8, hS8⟩ := hq8
  subst hd8 hS8
  obtain rfl := raw_inv r8
  obtain ⟨h8, g8, d8, t8, o8⟩ := s8
  have gr8 := y8.ground
  have hx8 : Heap.get? h8 e = some (exO F.C t1 none) := y8.cells (e, _) (.tail _ (.head _))
  refine exc_setAttr (gr8 _ _ hC) (F.lookSet.keeps gr8) (F.lookWhat.keeps gr8) hx8 rfl rfl (fun c e => by cases e) fun h9 tk9 dx hk9 hx9 => ?_
  have y9 : St W ⟨h9, g8, d8, tk9, o8⟩ B8 ((e, .obj (exO F.C t1 (some dx))) :: (L, .frame fun x => ([("self", D.raw (.ref e)), ("what", D.raw v7)] : List (Str × D)).reverse.lookup x) :: S) :=
    (y8.perm (List.Perm.swap ..)).turn0 (tk := tk9) (c' := .obj (exO F.C t1 (some dx))) hk9 hx9
  refine PySem.wpAt_of_wpAny (wpAny_execs_nil ?_)
  have y10 := (y9.perm (List.Perm.swap ..)).sub (List.sublist_cons_self _ _)
  exact hq _ t1 dx B8 (((hle.trans l5).trans l7).trans l8) y10
end
end
section
/-! an exception that flies -/
noncomputable def exFresh (C : Addr) (o : Obj) : Prop := o.cls = .ref C ∧ ∃ vs, o.data = .fields vs ∧ vs[1]? = some .none
noncomputable def exHas (C T : Addr) (o : Obj) : Prop := o.cls = .ref C ∧ ∃ vs, o.data = .fields vs ∧ vs[1]? = some (.ref T)
noncomputable def tbO (o : Obj) : Prop := ∃ ts x, o.data = .fields ts ∧ ts[3]? = some x
/-- it has its first entry -/
noncomputable def XN (W : Gd) (C : Addr) (S : Sig) (e : Value) (B : PH) (s : Shared) : Prop := ∃ ea T, e = .ref ea ∧ St W s B ((ea, .other (exHas C T)) :: (T, .other tbO) :: S)
/-- it has it, or none as yet -/
noncomputable def XE (W : Gd) (C : Addr) (S : Sig) (e : Value) (B : PH) (s : Shared) : Prop := (∃ ea, e = .ref ea ∧ St W s B ((ea, .other (exFresh C)) :: S)) ∨ XN W C S e B s
/-- the frames under way are told -/
noncomputable def FramesIn (A : Around) (S : Sig) : Prop := ∃ l, A.frames = some l ∧ ∀ env ∈ l, env.scope.kind ≠ .module ∧ ∃ L ρ, env.frame = some L ∧ (L, Cell.frame ρ) ∈ S
theorem FramesIn.deeper {A : Around} {S : Sig} (h : FramesIn A S) {env : Env} {L : Addr} {ρ : Str → Option D} (hk : env.scope.kind ≠ .module) (hL : env.frame = some L) : FramesIn (A.deeper env) ((L, .frame ρ) :: S) := by
  obtain ⟨l, h1, h2⟩ := h
  refine ⟨env :: l, Around.frames_deeper h1, fun e he => ?_⟩
  rcases List.mem_cons.mp he with rfl | he
  · exact ⟨hk, L, ρ, hL, .head _⟩
  · obtain ⟨a, L', ρ', b, c⟩ := h2 e he
    exact ⟨a, L', ρ', b, .tail _ c⟩
theorem FramesIn.sub {A : Around} {S S' : Sig} (h : FramesIn A S) (k : ∀ p ∈ S, p ∈ S') : FramesIn A S' := by
  obtain ⟨l, h1, h2⟩ := h
  exact ⟨l, h1, fun e he => let ⟨a, L, ρ, b, c⟩ := h2 e he; ⟨a, L, ρ, b, k _ c⟩⟩

section
variable {prog : Program} {w : World} {W : Gd} {M : Model} {A : Around} {E : Value → Shared → Prop} {S : Sig} {env : Env}
noncomputable abbrev noHeap : Heap := { objs := #[] }
theorem noHeap_get (a : Addr) : noHeap.get? a = none := Heap.get?_none_of_le (Nat.zero_le a)
theorem nodup_uniq {S : Sig} {a : Addr} {c d : Cell} (h : (S.map (·.1)).Nodup) (h1 : (a, c) ∈ S) (h2 : (a, d) ∈ S) : c = d := by
  induction S with
  | nil => cases h1
  | cons p r ih =>
    rw [List.map_cons, List.nodup_cons] at h
    rcases List.mem_cons.mp h1 with e1 | h1 <;> rcases List.mem_cons.mp h2 with e2 | h2
    · rw [← e1] at e2; cases e2; rfl
    · exact absurd (List.mem_map.mpr ⟨_, h2, by rw [← e1]⟩) h.1
    · exact absurd (List.mem_map.mpr ⟨_, h1, by rw [← e2]⟩) h.1
    · exact ih h.2 h1 h2
theorem CellAt.slots {B : PH} {h h' : Heap} {a : Addr} {ρ : Str → Option D} (k : ∀ o : Obj, h.get? a = Option.some o → ∃ sl, h'.get? a = Option.some ({ o with slots := sl } : Obj)) (x : CellAt B h a (.frame ρ)) : CellAt B h' a (.frame ρ) := by
  obtain ⟨m, ⟨o, es, ep, ho, hd, r⟩, hf⟩ := x
  obtain ⟨sl, hs⟩ := k o ho
  exact ⟨m, ⟨_, es, ep, hs, hd, r⟩, hf⟩
/-- the frames' slots turn -/
theorem St.slots {s : Shared} {B : PH} (y : St W s B S) {fs : List Addr} {h' : Heap} (hs : Heap.SlotsOnly fs s.heap h') (hf : ∀ b ∈ fs, ∃ ρ, (b, Cell.frame ρ) ∈ S) : St W { s with heap := h' } B S := by
  have nb : ∀ b o, B b = some o → b ∉ fs := fun b o e q => by
    obtain ⟨ρ, hm⟩ := hf b q
    have := y.apart _ hm
    rw [e] at this
    cases this
  refine ⟨y.gens, y.drawn, y.os, y.base, fun b o e => (hs.2.1 b (nb b o e)).trans (y.le b o e), fun p hp => ?_, y.apart, y.nodup⟩
  by_cases q : p.1 ∈ fs
  · obtain ⟨ρ, hm⟩ := hf _ q
    have hc : p.2 = .frame ρ := nodup_uniq y.nodup (a := p.1) hp hm
    have hx := y.cells p hp
    rw [hc] at hx ⊢
    exact hx.slots fun o ho => hs.2.2 p.1 o ho
  · exact (y.cells p hp).at fun o ho => (hs.2.1 p.1 q).trans ho
theorem funFrames_of {h : Heap} {S : Sig} {B : PH} (hc : ∀ p ∈ S, CellAt B h p.1 p.2) : ∀ {l : List Env}, (∀ env ∈ l, env.scope.kind ≠ .module ∧ ∃ L ρ, env.frame = some L ∧ (L, Cell.frame ρ) ∈ S) → h.FunFrames noHeap l
  | [], _ => trivial
  | env :: l, hl => by
    obtain ⟨hk, L, ρ, hf, hm⟩ := hl env (.head _)
    obtain ⟨m, ⟨o, es, ep, ho, hd, _⟩, _⟩ := hc _ hm
    exact ⟨hk, ⟨L, o, hf, noHeap_get L, ho, fun vs q => by rw [hd] at q; cases q⟩, funFrames_of hc fun e he => hl e (.tail _ he)⟩
theorem frameOf_ok {s : Shared} {B : PH} {outer : List Env} {L : Addr} {Q : Value → Shared → Prop} (y : St W s B S) (hfr : A.frames = some (env :: outer)) (hl : ∀ e ∈ env :: outer, e.scope.kind ≠ .module ∧ ∃ L ρ, e.frame = some L ∧ (L, Cell.frame ρ) ∈ S)
    (hL : env.frame = some L) (hq : ∀ s', St W s' B S → Q (.ref L) s') : wpAny M A (frameOf env) Q E s := by
  refine wpAny_frameOf_fun hfr (funFrames_of y.cells hl) hL fun h' hs => hq _ (y.slots hs fun b hb => ?_)
  obtain ⟨e, he, hb⟩ := List.mem_filterMap.mp hb
  obtain ⟨_, L', ρ, h1, h2⟩ := hl e he
  rw [h1] at hb
  cases hb
  exact ⟨ρ, h2⟩

theorem mapFields_has {C T : Addr} {o : Obj} (hc : o.cls = .ref C) {vs : Array Value} (hd : o.data = .fields vs) (h1 : 1 < vs.size) : exHas C T (o.mapFields (·.setIfInBounds 1 (.ref T))) :=
  ⟨(Obj.cls_mapFields ..).trans hc, _, Obj.data_mapFields hd _, by simp [h1]⟩
/-- a new entry -/
theorem newEntry_ok {s : Shared} {B : PH} {C e L : Addr} {c : Obj → Prop} {outer : List Env} {head : Value} {hn : Bool} {Q : Unit → Shared → Prop} (y : St W s B ((e, .other c) :: S)) (hc : ∀ o, c o → o.cls = .ref C ∧ ∃ vs, o.data = .fields vs ∧ 1 < vs.size)
    (hfr : A.frames = some (env :: outer)) (hl : ∀ e ∈ env :: outer, e.scope.kind ≠ .module ∧ ∃ L ρ, e.frame = some L ∧ (L, Cell.frame ρ) ∈ S) (hL : env.frame = some L)
    (hq : ∀ s', XN W C S (.ref e) B s' → Q () s') : wpAny M A (do let a ← frameOf env; let pl ← entryPlaceOf L hn; let b ← EntryCells.newEntry head a .none (rawInt L) .none pl; setField (.ref e) 1 b) Q E s := by
  refine wpAny_bind (frameOf_ok y hfr (fun x hx => let ⟨a, L, ρ, b, d⟩ := hl x hx; ⟨a, L, ρ, b, .tail _ d⟩) hL fun s₁ y₁ => ?_)
  refine wpAny_bind (wpAny_entryPlaceOf fun pl hpl => ?_)
  unfold EntryCells.newEntry newFields
  refine wpAny_bind (wpAny_newObj_type ?_ (hpl.sizeOk5 _ _ _ _ _))
  obtain ⟨oe, hoe, hcc⟩ := y₁.cells (e, _) (.head _)
  obtain ⟨hcls, vs, hd, hsz⟩ := hc oe hcc
  have y₂ := y₁.newC (o := { cls := .type "traceback", dict := none, data := .fields ([head, .ref L, .none, rawInt L, .none] ++ (if pl.isEmpty then List.replicate 6 Value.none else pl)).toArray }) (c := .other tbO) s₁.toks ⟨_, Heap.get?_push_size _ rfl, _, rawInt L, rfl, by simp⟩
  have hoe₂ := Heap.get?_push_of_some (h := s₁.heap) { cls := .type "traceback", dict := none, data := .fields ([head, .ref L, .none, rawInt L, .none] ++ (if pl.isEmpty then List.replicate 6 Value.none else pl)).toArray } hoe
  refine wpAny_setField hoe₂ hd hsz (hq _ ⟨e, s₁.heap.objs.size, rfl, ?_⟩)
  refine (y₂.perm (List.Perm.swap ..)).turn0 (tk := s₁.toks) (Heap.SameBut.update ..).extBut ⟨_, Heap.get?_update_self _ hoe₂ (Obj.isFreed_of_fields (Obj.data_mapFields hd _)), mapFields_has hcls hd hsz⟩
theorem noteFrame_ok {s : Shared} {B : PH} {C : Addr} {e : Value} {L : Addr} {outer : List Env} {Q : Unit → Shared → Prop} (x : XE W C S e B s)
    (hfr : A.frames = some (env :: outer)) (hl : ∀ e ∈ env :: outer, e.scope.kind ≠ .module ∧ ∃ L ρ, e.frame = some L ∧ (L, Cell.frame ρ) ∈ S) (hL : env.frame = some L)
    (hq : ∀ s', XN W C S e B s' → Q () s') : wpAny M A (noteFrame e env) Q E s := by
  unfold noteFrame
  simp only [hL]
  rcases x with ⟨ea, rfl, y⟩ | ⟨ea, T, rfl, y⟩
  · obtain ⟨oe, hoe, hc, vs, hd, h1⟩ := y.cells (ea, _) (.head _)
    refine wpAny_bind (wpAny_field hoe hd h1 ?_)
    rw [if_neg (by decide)]
    exact newEntry_ok y (fun o ho => by
      obtain ⟨hc, vs, hd, h1⟩ := ho
      exact ⟨hc, vs, hd, (Array.getElem?_eq_some_iff.mp h1).1⟩) hfr hl hL hq
  · obtain ⟨oe, hoe, hc, vs, hd, h1⟩ := y.cells (ea, _) (.head _)
    obtain ⟨ot, hot, ts, x, htd, h3⟩ := y.cells (T, _) (.tail _ (.head _))
    refine wpAny_bind (wpAny_field hoe hd h1 ?_)
    rw [if_pos (show (Value.ref T != Value.none) = true from by simp)]
    refine wpAny_bind (wpAny_field hot htd h3 ?_)
    split
    · exact wpAny_pure (hq _ ⟨ea, T, rfl, y⟩)
    · refine wpAny_bind (wpAny_setField hot htd (Array.getElem?_eq_some_iff.mp h3).1 ?_)
      have y₁ := (y.perm (List.Perm.swap ..)).gone (tk := s.toks) (h' := s.heap.update T (Obj.mapFields (·.setIfInBounds 3 .none))) (Heap.SameBut.update ..).extBut
      exact newEntry_ok y₁ (fun o ho => by
        obtain ⟨hc, vs, hd, h1⟩ := ho
        exact ⟨hc, vs, hd, (Array.getElem?_eq_some_iff.mp h1).1⟩) hfr hl hL hq
theorem setFlight_ok {s : Shared} {B : PH} {C : Addr} {e : Value} {f : Option Addr} {Q : Unit → Shared → Prop} (x : XN W C S e B s) (hq : ∀ s', XN W C S e B s' → Q () s') : wpAny M A (setFlight e f) Q E s := by
  obtain ⟨ea, T, rfl, y⟩ := x
  obtain ⟨oe, hoe, hc, vs, hd, h1⟩ := y.cells (ea, _) (.head _)
  obtain ⟨ot, hot, ts, x, htd, h3⟩ := y.cells (T, _) (.tail _ (.head _))
  unfold setFlight
  refine wpAny_bind (wpAny_field hoe hd h1 ?_)
  rw [if_pos (show (Value.ref T != Value.none) = true from by simp)]
  have hsz := (Array.getElem?_eq_some_iff.mp h3).1
  refine wpAny_setField hot htd hsz (hq _ ⟨ea, T, rfl, ?_⟩)
  refine ((y.perm (List.Perm.swap ..)).turn0 (tk := s.toks) (c' := .other tbO) (Heap.SameBut.update ..).extBut ⟨_, Heap.get?_update_self _ hot (Obj.isFreed_of_fields (Obj.data_mapFields htd _)), _, f.elim .none fun f => rawInt f, Obj.data_mapFields htd _, by simp [hsz]⟩).perm (List.Perm.swap ..)
theorem leaving_ok {s : Shared} {B : PH} {C : Addr} {e : Value} {L : Addr} {outer : List Env} {Q : Unit → Shared → Prop} (x : XE W C S e B s)
    (hfr : A.frames = some (env :: outer)) (hl : ∀ e ∈ env :: outer, e.scope.kind ≠ .module ∧ ∃ L ρ, e.frame = some L ∧ (L, Cell.frame ρ) ∈ S) (hL : env.frame = some L)
    (hq : ∀ s', XN W C S e B s' → Q () s') : wpAny M A (leaving env e) Q E s := by
  unfold leaving
  exact wpAny_bind (noteFrame_ok x hfr hl hL fun s₁ x₁ => setFlight_ok x₁ hq)
/-- what a loop of the frame lets pass -/
theorem XE.passes {C L : Addr} {outer : List Env} (hfr : A.frames = some (env :: outer)) (hL : env.frame = some L) {X : Value → PH → Shared → Prop}
    (hX : ∀ e B s, X e B s → ∃ S', XE W C S' e B s ∧ (∀ e ∈ env :: outer, e.scope.kind ≠ .module ∧ ∃ L ρ, e.frame = some L ∧ (L, Cell.frame ρ) ∈ S') ∧ ∀ s', XN W C S' e B s' → X e B s') (B : PH) : PassesOwn M A env (ExcP B X) := by
  rintro e s ⟨B', l, hx⟩
  obtain ⟨S', x, hs, hk⟩ := hX e B' s hx
  unfold notedBy cameBackBy
  refine noteFrame_ok x hfr hs hL fun s₁ x₁ => ?_
  obtain ⟨ea, T, rfl, y⟩ := id x₁
  obtain ⟨oe, hoe, hc, vs, hd, h1⟩ := y.cells (ea, _) (.head _)
  refine wpAny_bind (wpAny_field hoe hd h1 ?_)
  rw [if_neg (show ¬ ((Value.ref T == Value.none) = true) from by simp)]
  exact setFlight_ok x₁ fun s₂ x₂ => ⟨B', l, hk s₂ x₂⟩
end
end
section
section
variable {prog : Program} {w : World} {W : Gd} {A : Around} {S : Sig} {Q : D → Sig → Prop}
/-- a function that may raise the text's own exception -/
noncomputable abbrev XB (P : Prop) (W : Gd) (C : Addr) (S : Sig) (L : Addr) : Value → PH → Shared → Prop := fun e B s => P ∧ ∃ ρ, XE W C ((L, .frame ρ) :: S) e B s
noncomputable abbrev XO (P : Prop) (W : Gd) (C : Addr) (S : Sig) : Value → PH → Shared → Prop := fun e B s => P ∧ XN W C S e B s
theorem OpL.never {P : Prop} {C : Addr} {f : List Value → Sem Value} {ds : List D} {X : Value → PH → Shared → Prop} (hP : ¬P) (h : OpL (model prog w) W A f RepV ds S (XO P W C S) Q) : OpL (model prog w) W A f RepV ds S X Q := fun s B vs y r =>
  wpAny_mono (h s B vs y r) (fun _ _ q => q) fun _ _ hh1 => (by obtain ⟨_, _, h, _⟩ := hh1; exact (hP h).elim)
theorem Op.fnE {P : Prop} {C : Addr} {f : Addr} {params : Arguments} {body : List Stmt} {scope : Scope} {ds : List D} (hf : FnAt W f params body scope) (hroom : A.depth < recursionLimit) (hfr : FramesIn A S) (ps : List Str)
    (hb : ∀ name qual doc pm an cdv ct vs, vs.length = ps.length → bindArgs (fnOf name qual params body scope .none .none doc pm an cdv ct) ⟨vs, []⟩ = pure (ps.zip vs))
    (hl : ds.length = ps.length) (hloc : ∀ x ∈ ps, scope.names.lookup x = some .local) (hcell : ∀ x ∈ scope.names, x.2 ≠ .cell)
    (h : ∀ L qual cd, Exs (model prog w) W (A.deeper (envOf qual scope L f cd)) (envOf qual scope L f cd) body ((L, .frame (fun x => (ps.zip ds).reverse.lookup x)) :: S) (XB P W C S L) (FnQ Q))
    (hk : scope.kind = .function := by rfl) (hco : scope.isCoroutine = false := by rfl) (hgen : scope.isGenerator = false := by rfl) :
    OpL (model prog w) W A (fun vs => call (.ref f) vs) RepV ds S (XO P W C S) Q := by
  refine Op.fnX hf hroom ps hb hl hloc hcell (XB P W C S) h (fun L qual cd B e s' _ hx => ?_) hk hco hgen
  obtain ⟨hP, ρ, hx⟩ := hx
  have hkm : (envOf qual scope L f cd).scope.kind ≠ .module := by
    show scope.kind ≠ _
    rw [hk]; decide
  obtain ⟨l, h1, h2⟩ := hfr.deeper (env := envOf qual scope L f cd) (L := L) (ρ := ρ) hkm rfl
  obtain ⟨l0, h3, _⟩ := hfr
  have e1 : l = envOf qual scope L f cd :: l0 := by
    have := Around.frames_deeper (env := envOf qual scope L f cd) h3
    rw [h1] at this
    exact Option.some.inj this
  subst e1
  refine leaving_ok hx h1 h2 rfl fun s₂ ⟨ea, T, he, y⟩ => ⟨B, .refl B, hP, ea, T, he, ?_⟩
  exact y.sub (((List.sublist_cons_self _ _).cons_cons _).cons_cons _)
/-- the loops of such a function -/
theorem XB.passes {P : Prop} {C L f : Addr} {qual : Str} {scope : Scope} {cd : Value} (hfr : FramesIn A S) (hk : scope.kind = .function := by rfl) (B : PH) : PassesOwn (model prog w) (A.deeper (envOf qual scope L f cd)) (envOf qual scope L f cd) (ExcP B (XB P W C S L)) := by
  obtain ⟨l0, h3, h4⟩ := hfr
  refine XE.passes (C := C) (L := L) (Around.frames_deeper h3) rfl (fun e B s ⟨hP, ρ, hx⟩ => ⟨(L, .frame ρ) :: S, hx, fun x hx => ?_, fun s' x' => ⟨hP, ρ, .inr x'⟩⟩) B
  rcases List.mem_cons.mp hx with rfl | hx
  · exact ⟨by show scope.kind ≠ _; rw [hk]; decide, L, ρ, rfl, .head _⟩
  · obtain ⟨a, L', ρ', b, c⟩ := h4 x hx
    exact ⟨a, L', ρ', b, .tail _ c⟩

variable {env : Env} {X : Value → PH → Shared → Prop}
theorem St.addObj {s : Shared} {B : PH} (y : St W s B S) {h' : Heap} {tk : Nat} {a : Addr} {o : Obj} (hk : ∀ b o, s.heap.get? b = some o → h'.get? b = some o) (hn : s.heap.get? a = none) (ho : h'.get? a = some o) :
    St W { s with heap := h', toks := tk } B ((a, .obj o) :: S) := by
  have y₁ := y.grow (h' := h') (tk := tk) hk
  refine ⟨y₁.gens, y₁.drawn, y₁.os, y₁.base, y₁.le, fun p hp => ?_, fun p hp => ?_, ?_⟩
  · rcases List.mem_cons.mp hp with rfl | hp
    · exact ho
    · exact y₁.cells p hp
  · rcases List.mem_cons.mp hp with rfl | hp
    · show B a = none
      cases q : B a with
      | none => rfl
      | some o => have := y.le _ _ q; rw [hn] at this; cases this
    · exact y₁.apart p hp
  · rw [List.map_cons, List.nodup_cons]
    refine ⟨fun hm => ?_, y.nodup⟩
    obtain ⟨p, hp, e⟩ := List.mem_map.mp hm
    obtain ⟨o', ho'⟩ := (y.cells p hp).some
    rw [e, hn] at ho'
    cases ho'
/-- raise TermFault(text) -/
theorem Ex.raise (F : Exf prog w W) {x : Str} {np cpos pos : Pos} {e : Expr} {Q : Fl → Sig → Prop} (hx : x = "TermFault") (hh : A.handled = none) (hroom : A.depth + 2 < recursionLimit)
    (h : Ev (model prog w) W A env e S X fun d S₁ => ∀ (B : PH) (ea t : Addr) (dx : Option Addr) (s : Shared), St W s B ((ea, .obj (exO F.C t dx)) :: S₁) → X (.ref ea) B s)
    (hg : env.globals = mainGlobals := by rfl) (hk : env.scope.kind = .function := by rfl) (hl : env.kindOf x = some .globalImplicit := by rfl) (he : backTo cpos (starEach [e] env) = [(false, eval e env)] := by rfl) :
    Ex (model prog w) W A env (.Raise (some (.Call (.Name x np) [e] [] cpos)) none pos) S X Q := fun s B y => by
  obtain ⟨nm, q, N, bs, sn, sub, ab, col, dd, k0, k1, k2, k3, k5, hC⟩ := F.isC
  obtain ⟨od, osl, name, qual, doc, pm, an, ct, hf, hcd⟩ := F.fn
  rw [arm_exec_Raise]
  refine wpAny_bind (wpAny_standAt (exc_raise (C := F.C) (nm := nm) (q := q) (N := N) (D₀ := F.D) (bs := bs) (hdct := true) (sn := sn) (sub := sub) (ab := ab) (col := col) (dd := dd) (k0 := k0) (k1 := k1) (k2 := k2) (k3 := k3) (k5 := k5) hh (wpAny_bind (wpAny_mono (Q := fun v s₁ => ∃ e t t', v = .ref e ∧ IsExc s₁.heap nm q F.C N F.D bs true sn sub ab col dd k0 k1 k2 k3 k5 ∧
      (∃ dct, s₁.heap.get? e = some { cls := .ref F.C, dict := dct, data := .fields #[.ref t, .none, .none, .none, .bool false, t'] }) ∧ ExcP B X (.ref e) s₁) (wpAny_Call_ofName ?_) (fun v s₃ h₃ => wpAny_bind (wpAny_standAt (wpAny_pure h₃))) fun _ _ x => x))))
  subst hx
  refine (Ev.nameG (d := .raw (.ref F.C)) (Q := fun d S₁ => d = .raw (.ref F.C) ∧ S₁ = S) F.gC (rep_raw _) ⟨rfl, rfl⟩ hg hk hl).use y (fun f s₁ B₁ d S₁ l₁ y₁ r₁ hh4 => ?_) fun _ _ p => p
  obtain ⟨hd, hS⟩ := hh4
  subst hd hS
  obtain rfl := raw_inv r₁
  rw [he]
  refine callWith_of (P := fun h => IsExc h nm q F.C N F.D bs true sn sub ab col dd k0 k1 k2 k3 k5) rfl (fun h hp => ⟨.machine, .inr (.inl rfl), fun A Q E s k q => ?_⟩) (evalArgs_plain (spliced_cons (h.use y₁ (fun v s₂ B₂ d₂ S₂ l₂ y₂ r₂ hX => spliced_nil ?_) fun _ _ p => p.up l₁)))
  · obtain ⟨hp1, g1, d1, t1, o1⟩ := s
    exact wpAny_keeperOf_exc (k _ _ hp) q
  · obtain ⟨h2, g2, d2, t2, o2⟩ := s₂
    have gr := y₂.ground
    refine ⟨gr _ _ hC, exc_call (gr _ _ hC) (F.lookInit.keeps gr) (gr _ _ hf) rfl (fun h' ea hm => ?_) (by show 1 ≤ sizeLine; decide)⟩
    obtain ⟨t0, ht, _, _⟩ := hm.there
    have y₃ := y₂.addObj (h' := h') (tk := t2) hm.keeps hm.new ht
    refine exc_init F (by show A.depth + 1 < _; lia) y₃ fun s' t1 dx B' l' y' => ⟨rfl, ea, t1, _, rfl, ?_, ⟨_, y'.cells (ea, _) (.head _)⟩, ?_⟩
    · exact y'.ground _ _ hC
    · exact ⟨B', ((l₁.trans l₂).trans l'), hX B' ea t1 (some dx) s' y'⟩
theorem XB.raise {P : Prop} (hP : P) {C L : Addr} {ρ : Str → Option D} {B : PH} {ea t : Addr} {dx : Option Addr} {s : Shared} (y : St W s B ((ea, .obj (exO C t dx)) :: (L, .frame ρ) :: S)) : XB P W C S L (.ref ea) B s := by
  refine ⟨hP, ρ, .inl ⟨ea, rfl, y.gens, y.drawn, y.os, y.base, y.le, fun p hp => ?_, fun p hp => ?_, y.nodup⟩⟩
  · rcases List.mem_cons.mp hp with rfl | hp
    · exact ⟨_, y.cells (ea, .obj (exO C t dx)) (.head _), rfl, _, rfl, rfl⟩
    · exact y.cells p (.tail _ hp)
  · rcases List.mem_cons.mp hp with rfl | hp
    · exact y.apart (ea, .obj (exO C t dx)) (.head _)
    · exact y.apart p (.tail _ hp)

/-- a text with a number in it -/
theorem Ev.fstr {x : Str} {k : Nat} {value : Expr} {p p2 pos : Pos} (hx : x.length ≤ sizeLine) (h : Ev (model prog w) W A env value S X fun d S₁ => ∃ i : Int, d = .int i ∧ i.natAbs.log2 < 1920 ∧ x.length ≤ sizeLine ∧ (x ++ (toString i : Str)).length ≤ sizeLine ∧ ∀ y, Q (.str y) S₁) :
    Ev (model prog w) W A env (.JoinedStr [.Constant (.str x) k p, .FormattedValue value (-1) none p2] pos) S X Q := fun s B y => by
  have hem : Str.empty ++ x = x := Str.empty_append x
  have key : wpAny (model prog w) A (eval (.FormattedValue value (-1) none p2) env) (fun v s₁ => ∃ z t, v = .str z t ∧ (x ++ z).length ≤ sizeLine ∧
      Joins (model prog w) A (ExcP B X) [] (x ++ z) (fun out s₁ => out.length ≤ sizeLine ∧ Post W B RepV Q (.str out s₁.toks) { s₁ with toks := s₁.toks + 1 }) s₁) (ExcP B X) { s with toks := s.toks + 1 } :=
    wpAny_FormattedValue_plain (h.use (y.tok _) (fun v s₁ B₁ d S₁ l₁ y₁ r₁ hh5 => by
      obtain ⟨i, hd, h1, h2, h3, q⟩ := hh5
      subst hd
      obtain ⟨t, rfl⟩ := int_inv r₁
      exact wpAny_formatField_int h1 ⟨_, _, rfl, h3, h3, B₁, _, S₁, l₁, (y₁.tok _).tok _, by dsimp only [RepV, Rep]; exact ⟨_, rfl⟩, q _⟩) fun _ _ p => p)
  refine wpAny_JoinedStr ?_
  show wpAny _ _ _ _ _ _
  refine wpAny_Constant_str ⟨x, _, rfl, ?_, ?_⟩
  · rw [hem]; exact hx
  · show wpAny _ _ _ _ _ _
    rw [hem]
    exact key
end
end
section
noncomputable def T.findI : T → List Int → Option T
  | t, [] => some t
  | t, k :: r => if 0 ≤ k then (match t.kids[k.toNat]? with | some u => u.findI r | none => none) else none
theorem raise_text (i : Int) (h1 : -1 ≤ i) (h2 : i ≤ 1000) : i.natAbs.log2 < 1920 := by
  have : i.natAbs < 2 ^ 1920 := Nat.lt_of_le_of_lt (show i.natAbs ≤ 1001 by lia) (by decide +kernel)
  by_cases h0 : i.natAbs = 0
  · rw [h0]; decide
  · exact (Nat.log2_lt h0).mpr this
noncomputable def kidNos : List Int := (List.range 52).map fun n : Nat => (n : Int) - 1
theorem raise_size : ∀ i ∈ kidNos, (("there is no kid " : Str) ++ (toString i : Str)).length ≤ sizeLine := by decide +kernel
section
variable {prog : Program} {w : World} {W : Gd} {A : Around} {S : Sig}
theorem partat_ok (F : Fx W) (G : Exf prog w W) (ha : Ar A 5) (hfr : FramesIn A S) {t : T} (ht : t.size ≤ 1000) {way : List Int} (hw : ∀ k ∈ way, -1 ≤ k ∧ k ≤ 50) {Q : D → Sig → Prop} (q : ∀ u, t.findI way = some u → Q u.term S) :
    OpL (model prog w) W A (fun vs => call (.ref F.aPartAt) vs) RepV [t.term, .tup (intsD' way)] S (XO (t.findI way = none) W G.C S) Q := by
  have hh : ∀ env, (A.deeper env).handled = none := fun _ => ha.hh
  refine Op.fnE F.fPartAt ha.room hfr ["t", "path"] ?_ rfl (by decide) (by decide) fun L qual cd => ?_
  · exact fun name qual doc pm an cdv ct => vs2 fun a b => rfl
  refine Exs.cons ?_
  let Iv11 : List D → Sig → Prop := fun rest S' => ∃ ρ u r, S' = (L, .frame ρ) :: S ∧ ρ "t" = some (T.term u) ∧ rest = intsD' r ∧ (∀ k ∈ r, -1 ≤ k ∧ k ≤ 50) ∧ u.findI r = t.findI way ∧ u.size ≤ 1000
  refine Ex.for_ (I := Iv11) ?_ ?_ ?_ (XB.passes hfr)
  · repeat frow_left
    refine ItW.tup (hh _) ?_
    exact ⟨_, t, way, rfl, by fold_side6M, rfl, hw, rfl, ht⟩
  · refine hide4 fun Pg hPg => ?_
    intro d rest S' F₀ hIv
    obtain ⟨ρ, u, r, rfl, hu, hr, hrw, hf, hus⟩ := hIv
    obtain ⟨k, r', rfl, rfl, rfl⟩ := intsD'_cons hr
    have hk := hrw k (List.mem_cons_self ..)
    have hul := u.kids_lt
    rw [term_eq] at hu
    have hlen : (D.str u.op :: u.kids.map T.term).length = u.kids.length + 1 := by simp
    refine hPg _ _ _ _ ?_
    repeat frow_left
    have hraise : ∀ S₁, S₁ = (L, Cell.frame (upd ρ "k" (.int k))) :: (S ++ F₀) → t.findI way = none → ∀ (B : PH) (ea tt : Addr) (dx : Option Addr) (s : Shared), St W s B ((ea, .obj (exO G.C tt dx)) :: S₁) → XB (t.findI way = none) W G.C S L (.ref ea) B s := by
      rintro S₁ rfl hn B ea tt dx s y
      exact XB.raise hn (ρ := upd ρ "k" (.int k)) (y.sub (((List.sublist_append_left _ _).cons_cons _).cons_cons _))
    have hmem : k ∈ kidNos := List.mem_map.mpr ⟨(k + 1).toNat, List.mem_range.mpr (by lia), by lia⟩
    refine ⟨fun h0 => ?_, fun h0 => ?_⟩
    · rw [decide_eq_false_iff_not] at h0
      refine iteT ?_
      refine Exs.cons (Ex.raise G rfl (hh _) (by have := ha.depth; show A.depth + 1 + 2 < _; lia) (Ev.fstr (by decide +kernel) ?_))
      repeat frow_left
      refine ⟨k, rfl, raise_text k (by lia) (by lia), by decide +kernel, raise_size k hmem, fun z => ?_⟩
      refine hraise _ rfl ?_
      rw [← hf]
      dsimp only [T.findI]
      rw [if_neg h0]
    · rw [decide_eq_true_eq] at h0
      repeat frow_left
      refine Op.len_tup (by rw [hlen]; unfold sizeLine; lia) ?_
      repeat frow_left
      refine iteN (fun h1 => ?_) (fun h1 => ?_)
      · rw [hlen] at h1
        repeat frow_left
        obtain ⟨v, hv⟩ : ∃ v, u.kids[k.toNat]? = some v := ⟨_, List.getElem?_eq_getElem (by lia)⟩
        have hvs := size_kid hv
        refine Op2.item_tup (d := v.term) (by lia) (by lia) ?_ ?_
        · rw [show (k + 1).toNat = k.toNat + 1 by lia, List.getElem?_cons_succ, List.getElem?_map, hv]
          rfl
        repeat frow_left
        refine ⟨(L, .frame _) :: S, rfl, _, v, r', rfl, by exact upd_same .., rfl, fun x hx => hrw x (List.mem_cons_of_mem _ hx), ?_, by lia⟩
        rw [← hf]
        dsimp only [T.findI]
        rw [if_pos h0, hv]
      · rw [hlen] at h1
        refine Exs.cons (Ex.raise G rfl (hh _) (by have := ha.depth; show A.depth + 1 + 2 < _; lia) (Ev.fstr (by decide +kernel) ?_))
        repeat frow_left
        refine ⟨k, rfl, raise_text k (by lia) (by lia), by decide +kernel, raise_size k hmem, fun z => ?_⟩
        refine hraise _ rfl ?_
        rw [← hf]
        dsimp only [T.findI]
        rw [if_pos h0, List.getElem?_eq_none (by lia)]
  · refine hide1 fun Pg hPg => ?_
    intro S' hIv
    obtain ⟨ρ, u, r, rfl, hu, hr, hrw, hf, hus⟩ := hIv
    obtain rfl := intsD'_nil hr
    refine hPg _ ?_
    repeat frow_left
    exact ⟨S, List.sublist_cons_self _ _, q u hf.symm⟩
end
end
section
theorem OpL.monoX {W : Gd} {A : Around} {S : Sig} {prog : Program} {w : World} {f : List Value → Sem Value} {ds : List D} {X X' : Value → PH → Shared → Prop} {Q : D → Sig → Prop} (k : ∀ e B s, X e B s → X' e B s) (h : OpL (model prog w) W A f RepV ds S X Q) :
    OpL (model prog w) W A f RepV ds S X' Q := fun s B vs y r => wpAny_mono (h s B vs y r) (fun _ _ q => q) fun e s hh1 => (by obtain ⟨B', l, x⟩ := hh1; exact ⟨B', l, k e B' s x⟩)
theorem XO.toB {W : Gd} {C L : Addr} {S : Sig} {P P' : Prop} (k : P → P') {ρ : Str → Option D} {e : Value} {B : PH} {s : Shared} (h : XO P W C ((L, .frame ρ) :: S) e B s) : XB P' W C S L e B s := ⟨k h.1, ρ, .inr h.2⟩
theorem put_node {t v u : T} {k : Nat} {r : List Nat} (h : t.kids[k]? = some v) : (t.put (k :: r) u).term = .tup (.str t.op :: (t.kids.take k).map T.term ++ (v.put r u).term :: (t.kids.drop (k + 1)).map T.term) := by
  obtain ⟨o, ks⟩ := t
  dsimp only [T.kids] at h
  rw [term_eq]
  dsimp only [T.put, T.op, T.kids]
  rw [putL_eq ks k r u v h]
  simp
section
variable {prog : Program} {w : World} {W : Gd}
theorem repl_ok (F : Fx W) (G : Exf prog w W) {u : T} (hu : u.size ≤ 1000) : ∀ {way : List Int} {A : Around} {S : Sig} (ha : Ar A (way.length + 7)) (hfr : FramesIn A S) {t : T} (ht : t.size ≤ 1000) (hl : way.length ≤ 1000) (hw : ∀ k ∈ way, -1 ≤ k ∧ k ≤ 50)
    {Q : D → Sig → Prop} (q : ∀ v, t.findI way = some v → Q (t.put (way.map Int.toNat) u).term S),
    OpL (model prog w) W A (fun vs => call (.ref F.aRepl) vs) RepV [t.term, .tup (intsD' way), u.term] S (XO (t.findI way = none) W G.C S) Q := by
  intro way
  induction way with
  | nil =>
    intro A S ha hfr t ht hl hw Q q
    refine Op.fnE F.fRepl ha.room hfr ["t", "path", "u"] ?_ rfl (by decide) (by decide) fun L qual cd => ?_
    · exact fun name qual doc pm an cdv ct => vs3 fun a b c => rfl
    refine Exs.cons ?_
    repeat frow_left
    refine ⟨by decide, ?_⟩
    refine Op2.eqT (d := .tup []) (n := 1) (by simp [plain]) (by decide) (ha.deeper _).eqU ?_
    refine ⟨_, rfl, iteT ?_⟩
    repeat frow_left
    have hq := q t rfl
    rw [show t.put (List.map Int.toNat []) u = u by cases t; simp [T.put]] at hq
    exact ⟨S, List.sublist_cons_self _ _, hq⟩
  | cons k r ih =>
    intro A S ha hfr t ht hl hw Q q
    have hk := hw k (List.mem_cons_self ..)
    have hlr : r.length ≤ 1000 := by dsimp only [List.length_cons] at hl; lia
    refine Op.fnE F.fRepl ha.room hfr ["t", "path", "u"] ?_ rfl (by decide) (by decide) fun L qual cd => ?_
    · exact fun name qual doc pm an cdv ct => vs3 fun a b c => rfl
    have hfr' : ∀ ρ, FramesIn (A.deeper (envOf qual (scopeS (topS 8)) L F.aRepl cd)) ((L, .frame ρ) :: S) := fun ρ => hfr.deeper (show (scopeS (topS 8)).kind ≠ .module by decide) rfl
    have hpl : plain 1 (.tup (intsD' (k :: r))) = true := by
      simp only [plain, intsD', List.all_map, List.all_eq_true]
      intro x _
      simp [plain]
    have hil : (intsD' (k :: r)).length = r.length + 1 := by unfold intsD'; simp
    have hc1 : cutD (intsD' (k :: r)) none (some 1) = intsD' [k] := by
      have := cutD_upto (intsD' (k :: r)) 1
      rw [show (((1 : Nat) : Int)) = 1 from rfl] at this
      rw [this]
      rfl
    have hc2 : cutD (intsD' (k :: r)) (some 1) none = intsD' r := by
      have := cutD_from (intsD' (k :: r)) 1
      rw [show (((1 : Nat) : Int)) = 1 from rfl] at this
      rw [this]
      rfl
    refine Exs.cons ?_
    repeat frow_left
    refine ⟨by decide, ?_⟩
    refine Op2.eqF (d := .tup (intsD' (k :: r))) (e := .tup []) (n := 1) (k := 1) (by simp [intsD']) hpl (by simp [plain]) (by decide) (by decide) (ha.deeper _).eqU ?_
    refine ⟨_, rfl, iteF ?_⟩
    repeat frow_left
    refine Ev.callG F.gPartAt F.fPartAt ?_
    repeat frow_left
    refine ⟨_, rfl, ?_⟩
    refine OpS.tup (by rw [hil]; unfold sizeLine; lia) ?_
    rw [hc1]
    repeat frow_left
    refine OpL.monoX (fun e B s h => XO.toB (P' := t.findI (k :: r) = none) (fun hn => ?_) h) (partat_ok F G ((ha.deeper _).less (by dsimp only [List.length_cons]; lia)) (hfr' _) ht (way := [k]) (by
      intro x hx; rw [List.mem_singleton] at hx; subst hx; exact hk) fun v hv => ?_)
    · dsimp only [T.findI] at hn ⊢
      split at hn
      · rename_i h0
        rw [if_pos h0]
        cases z : t.kids[k.toNat]? with
        | none => rfl
        | some v => rw [z] at hn; cases hn
      · rename_i h0
        rw [if_neg h0]
    have h0 : 0 ≤ k := by
      dsimp only [T.findI] at hv
      split at hv
      · assumption
      · cases hv
    have hv' : t.kids[k.toNat]? = some v := by
      dsimp only [T.findI] at hv
      rw [if_pos h0] at hv
      cases z : t.kids[k.toNat]? with
      | none => rw [z] at hv; cases hv
      | some x => rw [z] at hv; exact hv
    have hfi : t.findI (k :: r) = v.findI r := by
      dsimp only [T.findI]
      rw [if_pos h0, hv']
    have hvs := size_kid hv'
    have htl := t.kids_lt
    have hkl := (List.getElem?_eq_some_iff.mp hv').1
    have hk2 : ((k.toNat : Nat) : Int) = k := Int.toNat_of_nonneg h0
    rw [term_eq t]
    have hlen : (D.str t.op :: t.kids.map T.term).length = t.kids.length + 1 := by simp
    repeat frow_left
    refine Op2.item_tup (d := .int k) (by decide) (by decide) rfl ?_
    repeat frow_left
    refine ⟨_, rfl, ?_⟩
    refine OpS.tup (by rw [hlen]; unfold sizeLine; lia) ?_
    rw [← hk2, show (((k.toNat : Nat) : Int) + 1) = ((k.toNat + 1 : Nat) : Int) by lia, cutD_upto, hk2]
    repeat frow_left
    refine Ev.callG F.gRepl F.fRepl ?_
    repeat frow_left
    refine ⟨_, rfl, ?_⟩
    repeat frow_left
    refine OpS.tup (by rw [hil]; unfold sizeLine; lia) ?_
    rw [hc2]
    repeat frow_left
    refine OpL.monoX (fun e B s h => XO.toB (P' := t.findI (k :: r) = none) (fun hn => by rw [hfi]; exact hn) h) (ih ((ha.deeper _).less (by dsimp only [List.length_cons]; lia)) (hfr' _) (by lia) hlr (fun x hx => hw x (List.mem_cons_of_mem _ hx)) fun z hz => ?_)
    repeat frow_left
    refine ⟨len1, ?_⟩
    refine Op2.tadd (by rw [List.length_take, hlen]; dsimp only [List.length_cons, List.length_nil]; unfold sizeLine; exact Nat.le_trans (Nat.add_le_add_right (Nat.min_le_right ..) _) (by lia)) ?_
    repeat frow_left
    refine Op2.item_tup (d := .int k) (by decide) (by decide) rfl ?_
    repeat frow_left
    refine ⟨_, rfl, ?_⟩
    repeat frow_left
    refine OpS.tup (by rw [hlen]; unfold sizeLine; lia) ?_
    rw [← hk2, show (((k.toNat : Nat) : Int) + 2) = ((k.toNat + 2 : Nat) : Int) by lia, cutD_from, hk2]
    refine Op2.tadd (by simp only [List.length_append, List.length_take, List.length_drop, List.length_cons, List.length_nil, List.length_map]; unfold sizeLine; exact Nat.le_trans cut2 (by lia)) ?_
    refine ⟨S, List.sublist_cons_self _ _, ?_⟩
    have := q z (by rw [hfi]; exact hz)
    rw [List.map_cons, put_node hv'] at this
    rw [show List.take (k.toNat + 1) (D.str t.op :: t.kids.map T.term) ++ [(v.put (r.map Int.toNat) u).term] ++ List.drop (k.toNat + 2) (D.str t.op :: t.kids.map T.term)
      = D.str t.op :: (t.kids.take k.toNat).map T.term ++ (v.put (r.map Int.toNat) u).term :: (t.kids.drop (k.toNat + 1)).map T.term by
        simp [List.map_take, List.map_drop]]
    exact this
end
end
section
/-! lambdas -/
noncomputable def CodeP (qual : Str) (o : Obj) : Prop := ∃ vs t, o.data = .fields vs ∧ vs[1]? = some (.str qual t)
structure Lm (W : Gd) (c P : Addr) : Prop where
  code : CodeHd W.G c P
  bi : W.G.BuiltinsAt W.mg P
  ne : mainGlobals ≠ P
noncomputable abbrev pmOf (W : Gd) : Value := (W.mg "__name__").getD .none
section
variable {prog : Program} {w : World} {W : Gd} {A : Around} {S : Sig} {Q : D → Sig → Prop} {X : Value → PH → Shared → Prop} {env : Env}
theorem bi_keeps {h h' : Heap} {mg : Str → Option Value} {P : Addr} (x : h.BuiltinsAt mg P) (k : ∀ b o, h.get? b = some o → h'.get? b = some o) : h'.BuiltinsAt mg P := by
  obtain ⟨bm, o, a, b, c, d, e, f, g, i⟩ := x
  exact ⟨bm, o, a, b, c, d, k _ _ e, f, g, i⟩
theorem Ev.lamMiss {c P : Addr} (Z : Lm W c P) {params : Arguments} {body : Expr} {scope : Scope} {pos : Pos} {ps : Array Value} {i : Nat} {clos : List (Str × Addr)} {qual : Str} (hi : S[i]? = some (P, .obj (tabObj ps))) (ht : TriplesOk ps.toList) (hn : codeAmong pos ps.toList = none)
    (q : ∀ f c' ctv, Q (.raw (.ref f)) (S.set i (P, .obj (tabObj (ps ++ #[rawInt pos.line, rawInt pos.col, .ref c']))) ++ [(c', .other (CodeP qual)), (f, .obj (kla_obj "<lambda>" qual params body scope clos (pmOf W) c' ctv))]))
    (hcode : env.code = .ref c := by rfl) (hcl : closureFor scope env = pure clos := by rfl) (hg : env.globals = mainGlobals := by rfl) (hdef : defaultsOf params env = ([], []) := by rfl) (hq : env.qual ++ "<lambda>" = qual := by rfl) :
    Ev (model prog w) W A env (.Lambda params body scope pos) S X Q := fun s B y => by
  subst hq
  have hP := y.get hi
  refine kla_eval hdef (kla_makeFunction (mg := W.mg) hcl hg (W.hg.keeps y.ground) hcode (Z.code.keeps y.ground) hP ht hn Z.ne (bi_keeps Z.bi y.ground) fun c' ctv h' tk hx hge hlt hrec htab => ?_)
  obtain ⟨c₂, oc, vs, t, e2, hoc, hd, hv⟩ := hrec
  cases e2
  have y₁ := y.turn hi (tk := tk) (c' := .obj (tabObj (ps ++ #[rawInt pos.line, rawInt pos.col, .ref c']))) hx htab
  have hne : ∀ p ∈ S.set i (P, Cell.obj (tabObj (ps ++ #[rawInt pos.line, rawInt pos.col, .ref c']))), p.1 < s.heap.objs.size := by
    intro p hp
    obtain ⟨j, hj⟩ := List.mem_iff_getElem?.mp hp
    rw [List.getElem?_set] at hj
    split at hj
    · split at hj
      · cases hj
        exact Heap.lt_size hP
      · cases hj
    · exact y.ne p (List.mem_of_getElem? hj)
  have y₂ : St W { s with heap := h', toks := tk } B ((c', .other (CodeP (env.qual ++ "<lambda>"))) :: S.set i (P, .obj (tabObj (ps ++ #[rawInt pos.line, rawInt pos.col, .ref c'])))) := by
    refine ⟨y₁.gens, y₁.drawn, y₁.os, y₁.base, y₁.le, fun p hp => ?_, fun p hp => ?_, ?_⟩
    · rcases List.mem_cons.mp hp with rfl | hp
      · exact ⟨oc, hoc, vs, t, hd, hv⟩
      · exact y₁.cells p hp
    · rcases List.mem_cons.mp hp with rfl | hp
      · show B c' = none
        cases q : B c' with
        | none => rfl
        | some o => exact absurd (Heap.lt_size (y.le _ _ q)) (Nat.not_lt.mpr hge)
      · exact y₁.apart p hp
    · rw [List.map_cons, List.nodup_cons]
      refine ⟨fun hm => ?_, y₁.nodup⟩
      obtain ⟨p, hp, e⟩ := List.mem_map.mp hm
      have := hne p hp
      rw [e] at this
      exact absurd hge (Nat.not_le.mpr this)
  have y₃ := y₂.newC (o := kla_obj "<lambda>" (env.qual ++ "<lambda>") params body scope clos (pmOf W) c' ctv) (c := .obj (kla_obj "<lambda>" (env.qual ++ "<lambda>") params body scope clos (pmOf W) c' ctv)) tk (Heap.get?_push_size _ rfl)
  refine ⟨B, _, _, .refl B, y₃.perm ?_, rep_raw _, q h'.objs.size c' ctv⟩
  exact (List.Perm.swap ..).trans (List.perm_append_comm (l₁ := [_, _]))
theorem Ev.lamHit {c P : Addr} (Z : Lm W c P) {params : Arguments} {body : Expr} {scope : Scope} {pos : Pos} {ps : Array Value} {i : Nat} {c' : Addr} {clos : List (Str × Addr)} {qual : Str} (hi : S[i]? = some (P, .obj (tabObj ps))) (ht : TriplesOk ps.toList) (hn : codeAmong pos ps.toList = some (.ref c'))
    (q : ∀ f ctv, Q (.raw (.ref f)) (S ++ [(f, .obj (kla_obj "<lambda>" qual params body scope clos (pmOf W) c' ctv))]))
    (hcode : env.code = .ref c := by rfl) (hcl : closureFor scope env = pure clos := by rfl) (hg : env.globals = mainGlobals := by rfl) (hdef : defaultsOf params env = ([], []) := by rfl) (hq : env.qual ++ "<lambda>" = qual := by rfl) :
    Ev (model prog w) W A env (.Lambda params body scope pos) S X Q := fun s B y => by
  subst hq
  have hP := y.get hi
  refine kla_eval hdef (kla_makeFunctionHit (mg := W.mg) hcl hg (W.hg.keeps y.ground) hcode (Z.code.keeps y.ground) hP ht hn (bi_keeps Z.bi y.ground) fun ctv h' tk hk hsz => ?_)
  have y₁ := y.grow (h' := h') (tk := tk) hk
  have y₃ := y₁.newC (o := kla_obj "<lambda>" (env.qual ++ "<lambda>") params body scope clos (pmOf W) c' ctv) (c := .obj (kla_obj "<lambda>" (env.qual ++ "<lambda>") params body scope clos (pmOf W) c' ctv)) tk (Heap.get?_push_size _ rfl)
  exact ⟨B, _, _, .refl B, y₃.perm append_perm, rep_raw _, q h'.objs.size ctv⟩

/-- a lambda without parameters, called -/
theorem Cw.lam {pos : Pos} {f : Addr} {o : Obj} {fd : FuncData} (hm : (f, .obj o) ∈ S) (hd : o.data = .func fd) (h : OpL (model prog w) W A (fun vs => call (.ref f) vs) RepV [] S X Q) :
    Cw (model prog w) W A env pos (.ref f) [] [] S X Q := fun s B y =>
  callWith_function (o := o) (fd := fd) (evalArgs_nil3 ⟨⟨y.cells _ hm, hd⟩, h s B [] y RepL.nil⟩)
noncomputable abbrev lamEnv (qual : Str) (scope : Scope) (L f : Addr) (cd : Value) (cl : List (Str × Addr)) : Env := envX qual scope L f cd cl
theorem Op.lam {P : Prop} {C f c' : Addr} {qual : Str} {params : Arguments} {body : Expr} {scope : Scope} {clos : List (Str × Addr)} {pm ctv : Value} (hm : (f, .obj (kla_obj "<lambda>" qual params body scope clos pm c' ctv)) ∈ S) (hc : (c', .other (CodeP qual)) ∈ S)
    (hroom : A.depth < recursionLimit) (hfr : FramesIn A S) (hb : ∀ pm cdv ct, bindArgs (kla_fn "<lambda>" qual params body scope clos pm cdv ct) ⟨[], []⟩ = pure []) (hcell : ∀ x ∈ scope.names, x.2 ≠ .cell)
    (h : ∀ L, Ev (model prog w) W (A.deeper (lamEnv qual scope L f (.ref c') clos)) (lamEnv qual scope L f (.ref c') clos) body ((L, .frame fun _ => none) :: S) (XB P W C S L) fun d S' => ∃ S'', S''.Sublist S' ∧ Q d S'')
    (hk : scope.kind = .function := by rfl) (hco : scope.isCoroutine = false := by rfl) (hgen : scope.isGenerator = false := by rfl) :
    OpL (model prog w) W A (fun vs => call (.ref f) vs) RepV [] S (XO P W C S) Q := fun s B vs y r => by
  dsimp only [RepL] at r
  subst r
  obtain ⟨oc, hoc, vs, t, hd, hv⟩ := y.cells _ hc
  refine wpAny_call (kla_callFunE hroom (y.cells _ hm) rfl hco hgen rfl ⟨c', oc, vs, t, rfl, hoc, hd, hv⟩ ?_)
  rw [hb]
  refine wpAny_pure (wpAny_newFunctionEnv hcell (by intro z hz; simp at hz) (fun h₁ hns hsb => ⟨(W.hlim.keeps y.ground).fresh _ hsb, ?_⟩) hk)
  show codeAny _ _ (.expr body (lamEnv qual scope s.heap.objs.size f (.ref c') clos)) _ _
  have y₁ := y.addFrame (tk := s.toks + ([] : List (Str × Value)).length) (ρ := fun _ => none) hns FrameIs.none fun b o e => hsb.extBut b o (Nat.ne_of_lt (Heap.lt_size e)) (Heap.get?_push_of_some _ e)
  refine kla_codeExpr ((h s.heap.objs.size).use y₁ (fun v s' B' d S' l' y' r' hh2 => (by obtain ⟨S'', hsub, q⟩ := hh2; exact ⟨B', d, S'', l', y'.sub hsub, r', q⟩)) fun e s' hh1 => ?_)
  obtain ⟨B', l', hP, ρ, hx⟩ := hh1
  have hkm : (lamEnv qual scope s.heap.objs.size f (.ref c') clos).scope.kind ≠ .module := by
    show scope.kind ≠ _
    rw [hk]; decide
  obtain ⟨l, h1, h2⟩ := hfr.deeper (env := lamEnv qual scope s.heap.objs.size f (.ref c') clos) (L := s.heap.objs.size) (ρ := ρ) hkm rfl
  obtain ⟨l0, h3, _⟩ := hfr
  have e1 : l = lamEnv qual scope s.heap.objs.size f (.ref c') clos :: l0 := by
    have := Around.frames_deeper (env := lamEnv qual scope s.heap.objs.size f (.ref c') clos) h3
    rw [h1] at this
    exact Option.some.inj this
  subst e1
  refine leaving_ok hx h1 h2 rfl fun s₂ ⟨ea, T, he, z⟩ => ⟨B', l', hP, ea, T, he, ?_⟩
  exact z.sub (((List.sublist_cons_self _ _).cons_cons _).cons_cons _)

/-- try: .. except TermFault: .., in a function -/
theorem Ex.try_ (F : Exf prog w W) {P : Prop} {L : Addr} {ρ₀ : Str → Option D} {x : Str} {np pos hpos : Pos} {body suite : List Stmt} {b₀ : Stmt} {outer : List Env} {X' : Value → PH → Shared → Prop} {Q : Fl → Sig → Prop} (hx : x = "TermFault")
    (hfr : A.frames = some (env :: outer)) (hL : env.frame = some L) (hl : ∀ e ∈ env :: outer, e.scope.kind ≠ .module ∧ ∃ L' ρ, e.frame = some L' ∧ ((L', Cell.frame ρ) ∈ S ∨ L' = L))
    (h : Exs (model prog w) W A env body ((L, .frame ρ₀) :: S) (XB P W F.C S L) fun f S₁ => match f with | .next => False | f => Q f S₁)
    (hc : P → ∀ (e : Value) ρ, Exs (model prog w) W (A.mark (some e)) env (b₀ :: suite) ((L, .frame ρ) :: S) XF Q)
    (hg : env.globals = mainGlobals := by rfl) (hk : env.scope.kind = .function := by rfl) (hkx : env.kindOf x = some .globalImplicit := by rfl) :
    Ex (model prog w) W A env (.Try body [.ExceptHandler (some (.Name x np)) none (b₀ :: suite) hpos] [] [] pos) ((L, .frame ρ₀) :: S) X' Q := fun s B y => by
  obtain ⟨nm, q, N, bs, sn, sub, ab, col, dd, k0, k1, k2, k3, k5, hC⟩ := F.isC
  refine wpAny_Try_except (h.use y (fun f s₁ B₁ f' S₁ l₁ y₁ r₁ q => ?_) fun e s₁ ⟨B₁, l₁, hP, ρ, hx₁⟩ => ?_)
  · cases f <;> cases f' <;> dsimp only [RepF] at r₁ <;> first
      | exact q.elim
      | exact ⟨B₁, .brk, S₁, l₁, y₁, trivial, q⟩
      | exact ⟨B₁, .cont, S₁, l₁, y₁, trivial, q⟩
      | exact ⟨B₁, .ret _, S₁, l₁, y₁, r₁, q⟩
  · have hl' : ∀ ρ, ∀ e ∈ env :: outer, e.scope.kind ≠ .module ∧ ∃ L' ρ', e.frame = some L' ∧ (L', Cell.frame ρ') ∈ (L, Cell.frame ρ) :: S := fun ρ e he => by
      obtain ⟨a, L', ρ', b, c⟩ := hl e he
      rcases c with c | rfl
      · exact ⟨a, L', ρ', b, .tail _ c⟩
      · exact ⟨a, L', ρ, b, .head _⟩
    refine noteFrame_ok hx₁ hfr (hl' ρ) hL fun s₂ x₂ => ?_
    refine setFlight_ok x₂ fun s₃ x₃ => ?_
    obtain ⟨ea, T, rfl, y₃⟩ := x₃
    subst hx
    refine wpAny_handleBy_cons (codeAny_handlers_test ?_) (by intro z; cases z)
    have g3 := y₃.ground
    refine (Ev.nameG (d := .raw (.ref F.C)) (Q := fun d S₁ => d = .raw (.ref F.C) ∧ S₁ = (ea, .other (exHas F.C T)) :: (T, .other tbO) :: (L, .frame ρ) :: S) (X := XF) F.gC (rep_raw _) ⟨rfl, rfl⟩ hg hk hkx).use y₃ (fun c s₄ B₄ d S₄ l₄ y₄ r₄ hh5 => ?_) fun _ _ p => p.false.elim
    obtain ⟨hd, hS⟩ := hh5
    subst hd hS
    obtain rfl := raw_inv r₄
    obtain ⟨oe, hoe, hce, _⟩ := y₄.cells (ea, _) (.head _)
    obtain ⟨h4, gg4, d4, t4, o4⟩ := s₄
    have g4 := y₄.ground
    refine wpAny_excMatches_sub_self (g4 _ _ hC) hoe hce (by rw [List.contains_cons]; rfl) (codeAny_handlers_suite ?_)
    refine setFlight_ok (C := F.C) (S := (L, .frame ρ) :: S) ⟨ea, T, rfl, y₄⟩ fun s₅ x₅ => ?_
    obtain ⟨ea', T', he, y₅⟩ := x₅
    cases he
    refine (hc hP (.ref ea) ρ).use (y₅.sub ((List.sublist_cons_self _ _).trans (List.sublist_cons_self _ _))) (fun f s₆ B₆ f' S₆ l₆ y₆ r₆ q => ?_) fun _ _ p => p.false.elim
    exact ⟨B₆, f', S₆, (l₁.trans l₄).trans l₆, y₆, r₆, q⟩
end
end
section
section
variable {prog : Program} {w : World} {W : Gd} {A : Around} {S : Sig}
/-- work() tells d, or raises, and then None is told -/
theorem told_ok (F : Fx W) (G : Exf prog w W) (ha : Ar A 3) (hfr : FramesIn A S) {P : Prop} {f : Addr} {o : Obj} {fd : FuncData} (hm : (f, .obj o) ∈ S) (hd : o.data = .func fd) {Q : D → Sig → Prop}
    (h : ∀ A' S', Ar A' 2 → (∃ env, A' = A.deeper env) → FramesIn A' S' → (∃ p, S' = p :: S) → OpL (model prog w) W A' (fun vs => call (.ref f) vs) RepV [] S' (XO P W G.C S') fun d S'' => S'' = S' ∧ Q d S)
    (hn : P → Q .none S) : OpL (model prog w) W A (fun vs => call (.ref F.aTold) vs) RepV [.raw (.ref f)] S XF Q := by
  refine Op.fn F.fTold ha.room ["work"] ?_ rfl (by decide) (by decide) fun L qual cd => ?_
  · exact fun name qual doc pm an cdv ct => vs1 fun a => rfl
  have hkm : (envOf qual (scopeS (topS 18)) L F.aTold cd).scope.kind ≠ .module := (show (scopeS (topS 18)).kind ≠ .module by decide)
  refine Exs.cons ?_
  obtain ⟨l0, h3, h4⟩ := id hfr
  refine Ex.try_ G (P := P) (L := L) (outer := l0) rfl (Around.frames_deeper h3) rfl (fun e he => ?_) ?_ (fun hP e ρ => ?_)
  · rcases List.mem_cons.mp he with rfl | he
    · exact ⟨hkm, L, fun _ => none, rfl, .inr rfl⟩
    · obtain ⟨a, L', ρ', b, c⟩ := h4 e he
      exact ⟨a, L', ρ', b, .inl c⟩
  · refine Exs.cons (Ex.ret (Ev.call ?_))
    frow_left
    refine ⟨_, rfl, Cw.lam (List.mem_cons_of_mem _ hm) hd ?_⟩
    refine OpL.monoX (X := XO P W G.C ((L, .frame fun x => (((["work"] : List Str).zip [D.raw (.ref f)]).reverse.lookup x)) :: S)) (fun e B s h => XO.toB (P' := P) (fun x => x) h) ?_
    have hfr' := hfr.deeper (env := envOf qual (scopeS (topS 18)) L F.aTold cd) (L := L) (ρ := fun x => ((["work"] : List Str).zip [D.raw (.ref f)]).reverse.lookup x) hkm rfl
    intro s B vs y r
    refine wpAny_mono (h _ _ (ha.deeper _) ⟨_, rfl⟩ hfr' ⟨_, rfl⟩ s B vs y r) (fun v s' hh1 => ?_) fun _ _ p => p
    obtain ⟨B', d, S', l, y', r', hS, q⟩ := hh1
    subst hS
    exact ⟨B', d, _, l, y', r', S, List.sublist_cons_self _ _, q⟩
  · repeat frow_left
    exact ⟨S, List.sublist_cons_self _ _, hn hP⟩
end
end
section
/-- the deck -/
noncomputable abbrev deckL (cells : List Int) (a l : Int) : List (Str × D) := [("cells", .lst (cells.map .int)), ("at", .int a), ("left", .int l)]
noncomputable abbrev deckC (prog : Program) (w : World) (cells : List Int) (a l : Int) : Cell := .any (DKV (strKind prog w) (deckL cells a l))
theorem deckL_len {cells : List Int} {a l : Int} : (deckL cells a l).length ≤ sizeLine := by rw [show (deckL cells a l).length = 3 from rfl]; decide
theorem mod_in {a b : Int} (hb : 0 < b) : 0 ≤ a.fmod b ∧ a.fmod b < b := ⟨Int.fmod_nonneg_of_pos a hb, Int.fmod_lt_of_pos a hb⟩
section
variable {prog : Program} {w : World} {W : Gd} {A : Around} {X : Value → PH → Shared → Prop} {S : Sig}
theorem number_ok (F : Fx W) (ha : Ar A 1) {cells : List Int} {n l wide : Int} {c : Addr} {j : Nat} (hj : S[j]? = some (c, deckC prog w cells n l)) (hn : 0 ≤ n) (hn2 : n ≤ 1000000) (hw : 0 < wide) (hw2 : wide ≤ 100) (hc : cells.length ≤ 1000)
    {Q : D → Sig → Prop} (q : ∀ i : Int, 0 ≤ i → i < wide → Q (.int i) (S.set j (c, deckC prog w cells (n + 1) l))) :
    OpL (model prog w) W A (fun vs => call (.ref F.aNum) vs) RepV [.raw (.ref c), .int wide] S X Q := by
  have hh : ∀ env, (A.deeper env).handled = none := fun _ => ha.hh
  refine Op.fn F.fNum ha.room ["deck", "wide"] ?_ rfl (by decide) (by decide) fun L qual cd => ?_
  · exact fun name qual doc pm an cdv ct => vs2 fun a b => rfl
  have hj' : ∀ p : Addr × Cell, (p :: S)[j + 1]? = some (c, deckC prog w cells n l) := fun p => by simpa using hj
  have hm : ∀ p : Addr × Cell, (c, deckC prog w cells n l) ∈ p :: S := fun p => List.mem_of_getElem? (hj' p)
  have hjl : j < S.length := (List.getElem?_eq_some_iff.mp hj).1
  have hm2 : ∀ p : Addr × Cell, (c, deckC prog w cells (n + 1) l) ∈ p :: S.set j (c, deckC prog w cells (n + 1) l) := fun p => by
    refine List.mem_cons_of_mem _ (List.mem_of_getElem? (i := j) ?_)
    rw [List.getElem?_set_self hjl]
  refine Exs.cons ?_
  repeat frow_left
  refine Op2.item_dic (hm _) (isK_str _) (e := .int n) (by rfl) ?_
  repeat frow_left
  refine Op3.setitem_dic (hj' _) (isK_str _) deckL_len ?_
  repeat frow_left
  refine Op2.item_dic (hm2 _) (isK_str _) (e := .lst (cells.map .int)) (by rfl) ?_
  repeat frow_left
  refine Op.len_lst (by rw [List.length_map]; unfold sizeLine; lia) ?_
  repeat frow_left
  rw [List.length_map]
  refine iteB (fun hb => ?_) fun hb => ?_
  · repeat frow_left
    repeat frow_left
    refine Op2.item_dic (hm2 _) (isK_str _) (e := .lst (cells.map .int)) (by rfl) ?_
    repeat frow_left
    obtain ⟨x, hx⟩ : ∃ x, cells[n.toNat]? = some x := ⟨_, List.getElem?_eq_getElem (by lia)⟩
    refine Op2.item_lst (d := .int x) hn (by lia) (by rw [List.getElem?_map, hx]; rfl) ?_
    repeat frow_left
    refine Op2.mod (by lia) ?_
    exact ⟨_, List.sublist_cons_self _ _, q _ (mod_in hw).1 (mod_in hw).2⟩
  · repeat frow_left
    refine Op2.mul (IntMulOk.of_left ?_) ?_
    · have h0 : 0 ≤ (n + 3) := by lia
      exact intBits_le_64 (by lia) (by lia)
    repeat frow_left
    refine Op2.fdiv (by decide) (PyProof.noPylong_small (by decide)) ?_
    repeat frow_left
    refine Op2.mod (by lia) ?_
    exact ⟨_, List.sublist_cons_self _ _, q _ (mod_in hw).1 (mod_in hw).2⟩
end
end
section
set_option maxHeartbeats 2000000
noncomputable def lawS : List Str := ["a", "b", "f", "long"]
noncomputable def lawT (t : T) : Prop := ∀ u ∈ t.pre, u.op ∈ lawS
theorem lawOps_get {i : Int} (h0 : 0 ≤ i) (h4 : i < 4) : ∃ o ∈ lawS, lawOps[i.toNat]? = some (.str o) := by
  obtain h | h | h | h : i = 0 ∨ i = 1 ∨ i = 2 ∨ i = 3 := by lia
  · subst h; exact ⟨"a", by decide, rfl⟩
  · subst h; exact ⟨"b", by decide, rfl⟩
  · subst h; exact ⟨"f", by decide, rfl⟩
  · subst h; exact ⟨"long", by decide, rfl⟩
theorem set_set_app {S F₀ : Sig} {j : Nat} (h : j < S.length) (x y : Addr × Cell) : (S.set j x ++ F₀).set j y = S.set j y ++ F₀ := by
  rw [List.set_append, if_pos (by rw [List.length_set]; exact h), List.set_set]
theorem set_set_app' {S F₀ : Sig} {j : Nat} (h : j < S.length) (x y : Addr × Cell) : ((S.set j x).append F₀).set j y = S.set j y ++ F₀ := set_set_app h x y
theorem get_set_app {S F₀ : Sig} {j : Nat} (h : j < S.length) (x : Addr × Cell) : (S.set j x ++ F₀)[j]? = some x := by
  rw [List.getElem?_append_left (by rw [List.length_set]; exact h), List.getElem?_set_self h]
theorem rowD_app (a b : List (Str × Nat)) : rowD (a ++ b) = rowD a ++ rowD b := by unfold rowD; rw [List.map_append]
theorem preL_snoc : ∀ (l : List T) (t : T), T.preL (l ++ [t]) = T.preL l ++ t.pre
  | [], t => by simp [T.preL]
  | a :: r, t => by simp only [List.cons_append, T.preL, preL_snoc r t, List.append_assoc]
theorem depthL_snoc : ∀ (l : List T) (t : T), T.depthL (l ++ [t]) = max (T.depthL l) t.depth
  | [], t => Nat.max_comm _ _
  | a :: r, t => by
    show max a.depth (T.depthL (r ++ [t])) = max (max a.depth (T.depthL r)) t.depth
    rw [depthL_snoc r t, Nat.max_assoc]
theorem sizeL_snoc (l : List T) (t : T) : T.sizeL (l ++ [t]) = T.sizeL l + t.size := by rw [T.sizeL_app]; simp [T.sizeL]
section
variable {prog : Program} {w : World} {W : Gd}
theorem row_ok (F : Fx W) {cells : List Int} (hc : cells.length ≤ 1000) {c : Addr} : ∀ {f : Nat} {A : Around} {X : Value → PH → Shared → Prop} {S : Sig} (ha : Ar A (f + 1)) {j : Nat} {n l : Int} (hj : S[j]? = some (c, deckC prog w cells n l))
    (h1 : 1 ≤ f) (h6 : f ≤ 6) (hl : l ≤ 14) (hn : 0 ≤ n) (hn2 : n + 400 * f ≤ 100000)
    {Q : D → Sig → Prop} (q : ∀ (t : T) (n' : Int), t.depth ≤ f → lawT t → (l - 1 ≤ l - t.size ∨ -2 * ((f : Int) - 1) ≤ l - t.size) → n ≤ n' → n' ≤ n + 2 * t.size → Q (.lst (rowD t.row)) (S.set j (c, deckC prog w cells n' (l - t.size)))),
    OpL (model prog w) W A (fun vs => call (.ref F.aRow) vs) RepV [.raw (.ref c), .int f] S X Q := by
  intro f
  induction f with
  | zero => intro A X S ha j n l hj h1; lia
  | succ f ih =>
  intro A X S ha j n l hj h1 h6 hl hn hn2 Q q
  have hh : ∀ env, (A.deeper env).handled = none := fun _ => ha.hh
  refine Op.fn F.fRow ha.room ["deck", "floors"] ?_ rfl (by decide) (by decide) fun L qual cd => ?_
  · exact fun name qual doc pm an cdv ct => vs2 fun a b => rfl
  have hjl : j < S.length := (List.getElem?_eq_some_iff.mp hj).1
  have hj' : ∀ p : Addr × Cell, (p :: S)[j + 1]? = some (c, deckC prog w cells n l) := fun p => by simpa using hj
  have hm : ∀ p : Addr × Cell, (c, deckC prog w cells n l) ∈ p :: S := fun p => List.mem_of_getElem? (hj' p)
  have hj2 : ∀ (p : Addr × Cell) x, (p :: S.set j x)[j + 1]? = some x := fun p x => by simp [hjl]
  have hm2 : ∀ (p : Addr × Cell) x, x ∈ p :: S.set j x := fun p x => List.mem_of_getElem? (hj2 p x)
  refine Exs.cons ?_
  repeat frow_left
  refine Op2.item_dic (hm _) (isK_str _) (e := .int l) (by rfl) ?_
  repeat frow_left
  refine Op3.setitem_dic (hj' _) (isK_str _) deckL_len ?_
  rw [List.set_cons_succ, show sto (deckL cells n l) "left" (.int (l - 1)) = deckL cells n (l - 1) by rfl]
  refine Exs.cons (Ex.assign (TX.mono (Q := fun d S' => ∃ (m : Nat) (n1 : Int), d = .int m ∧ m ≤ 3 ∧ (0 < m → 2 ≤ l ∧ 1 ≤ f) ∧ n ≤ n1 ∧ n1 ≤ n + 1 ∧
    S' = (L, .frame fun y => ((["deck", "floors"] : List Str).zip [D.raw (.ref c), .int ((f + 1 : Nat) : Int)]).reverse.lookup y) :: S.set j (c, deckC prog w cells n1 (l - 1))) ?_ ?_))
  · repeat frow_left
    refine iteB (fun hf => ?_) fun hf => ?_
    · repeat frow_left
      refine Op2.item_dic (hm2 _ _) (isK_str _) (e := .int (l - 1)) (by rfl) ?_
      repeat frow_left
      refine iteB (fun hl1 => ?_) fun hl1 => ?_
      · refine Ev.callG F.gNum F.fNum ?_
        repeat frow_left
        refine number_ok F ((ha.deeper _).less (by lia)) (hj2 _ _) hn (by lia) (by decide) (by decide) hc fun i h0 h4 => ?_
        refine ⟨i.toNat, n + 1, by congr 1; lia, by lia, fun _ => ⟨by lia, by lia⟩, by lia, by lia, ?_⟩
        rw [List.set_cons_succ, List.set_set]
      · repeat frow_left
        exact ⟨0, n, rfl, by lia, fun h => absurd h (by decide), by lia, by lia, rfl⟩
    · repeat frow_left
      exact ⟨0, n, rfl, by lia, fun h => absurd h (by decide), by lia, by lia, rfl⟩
  refine hide2 fun Pg hPg => ?_
  intro d S' hIv
  obtain ⟨m, n1, rfl, hm3, hmp, hn1, hn1', rfl⟩ := hIv
  refine hPg _ _ ?_
  repeat frow_left
  refine Ev.lst ?_
  repeat frow_left
  refine Ev.nameG F.gOps F.rOps ?_
  refine Ev.callG F.gNum F.fNum ?_
  repeat frow_left
  refine number_ok F ((ha.deeper _).less (by lia)) (hj2 _ _) (by lia) (by lia) (by decide) (by decide) hc fun i h0 h4 => ?_
  rw [List.set_cons_succ, List.set_set]
  obtain ⟨o, ho, hoe⟩ := lawOps_get h0 h4
  refine Op2.item_tup h0 (by lia) hoe ?_
  repeat frow_left
  refine ⟨len2, ?_⟩
  repeat frow_left
  refine ⟨len1, ?_⟩
  repeat frow_left
  let Iv12 : List D → Sig → Prop := fun rest S' => ∃ ρ k m' ks n', rest = upN k m' ∧ k + m' = m ∧ ks.length = k ∧ S' = (L, .frame ρ) :: S.set j (c, deckC prog w cells n' (l - 1 - T.sizeL ks)) ∧ ρ "deck" = some (.raw (.ref c)) ∧ ρ "floors" = some (.int ((f + 1 : Nat) : Int)) ∧ ρ "found" = some (.lst (rowD ((o, m) :: T.rowOf (T.preL ks)))) ∧ n ≤ n' ∧ n' ≤ n + 2 + 2 * T.sizeL ks ∧ T.depthL ks ≤ f ∧ (∀ u ∈ T.preL ks, u.op ∈ lawS) ∧ (l - 1 - (k : Int) ≤ l - 1 - T.sizeL ks ∨ -2 * ((f : Int) - 1) - ((k : Int) - 1) ≤ l - 1 - T.sizeL ks)
  refine Ex.for_ (I := Iv12) ?_ ?_ ?_ XF.passes
  · repeat frow_left
    refine ItW.up (hh _) (by unfold sizeLine; lia) ?_
    refine ⟨_, 0, m, [], n1 + 1, rfl, by lia, rfl, by rw [show ((T.sizeL [] : Nat) : Int) = 0 from rfl, Int.sub_zero], ?_, ?_, ?_, by lia, ?_, by simp [T.depthL], fun u hu => by simp [T.preL] at hu, .inl (by simp [T.sizeL])⟩
    · fold_side6M
    · fold_side6M
    · fold_side6M
    · dsimp only [T.sizeL]; lia
  · refine hide4 fun Pg hPg => ?_
    intro d rest S' F₀ hIv
    obtain ⟨ρ, k, m', ks, n', hr, hkm, hks, rfl, hdeck, hfl, hfound, hn', hn'', hdep, hlaw, hbd⟩ := hIv
    obtain ⟨m'', rfl, rfl, rfl⟩ := upN_cons hr
    have hkl := T.len_sizeL ks
    obtain ⟨hl2, hf1⟩ := hmp (by lia)
    have hsz : (T.sizeL ks : Int) ≤ 40 := by lia
    refine hPg _ _ _ _ ?_
    repeat frow_left
    refine Ev.callG F.gRow F.fRow ?_
    repeat frow_left
    rw [show (((f + 1 : Nat) : Int) - 1) = (f : Int) by lia]
    refine ih (j := j + 1) ((ha.deeper _).less (by lia)) (n := n') (l := l - 1 - T.sizeL ks) ?_ hf1 (by lia) (by lia) (by lia) (by lia) fun t n2 hd2 hl2' hb2 hn2 hn2' => ?_
    · rw [List.getElem?_cons_succ]; exact get_set_app hjl _
    rw [List.set_cons_succ, set_set_app' hjl]
    have hts := t.size_pos
    have hrl : (rowD ((o, m) :: T.rowOf (T.preL ks))).length = T.sizeL ks + 1 := by
      unfold rowD T.rowOf
      rw [List.length_map, List.length_cons, List.length_map, T.preL_len]
    refine Op2.ladd (by rw [hrl, rowD_len, row_len]; unfold sizeLine; lia) ?_
    repeat frow_left
    refine ⟨(L, .frame _) :: S.set j (c, deckC prog w cells n2 (l - 1 - T.sizeL ks - t.size)), rfl, _, k + 1, m'', ks ++ [t], n2, rfl, by lia, by rw [List.length_append, hks]; rfl, congrArg (fun z => (L, Cell.frame _) :: S.set j (c, deckC prog w cells n2 z)) (by rw [sizeL_snoc]; lia), ?_, ?_, ?_, by lia, ?_, ?_, ?_, ?_⟩
    · fold_side6M
    · fold_side6M
    · refine (upd_same _ _ _).trans ?_
      rw [preL_snoc]
      simp [T.rowOf, rowD]
    · rw [sizeL_snoc]; lia
    · rw [depthL_snoc]; lia
    · intro u hu
      rw [preL_snoc] at hu
      rcases List.mem_append.mp hu with hu | hu
      · exact hlaw u hu
      · exact hl2' u hu
    · rw [sizeL_snoc]; lia
  · refine hide1 fun Pg hPg => ?_
    intro S' hIv
    obtain ⟨ρ, k, m', ks, n', hr, hkm, hks, rfl, hdeck, hfl, hfound, hn', hn'', hdep, hlaw, hbd⟩ := hIv
    cases m' with
    | succ m' => cases hr
    | zero =>
    refine hPg _ ?_
    repeat frow_left
    have hq := q (.node o ks) n' (by dsimp only [T.depth]; lia) (fun u hu => ?_) ?_ hn' (by dsimp only [T.size]; lia)
    · rw [show (T.node o ks).row = (o, m) :: T.rowOf (T.preL ks) by simp only [T.row, T.pre, T.rowOf, List.map_cons, T.op, T.kids]; rw [hks]; congr 2 <;> lia] at hq
      rw [show (l - ((T.node o ks).size : Nat) : Int) = l - 1 - T.sizeL ks by dsimp only [T.size]; lia] at hq
      exact ⟨_, List.sublist_cons_self _ _, hq⟩
    · simp only [T.pre, List.mem_cons] at hu
      rcases hu with rfl | hu
      · exact ho
      · exact hlaw u hu
    · dsimp only [T.size]
      by_cases h0 : m = 0
      · left
        have : ks = [] := List.eq_nil_of_length_eq_zero (by lia)
        subst this
        dsimp only [T.sizeL]
        lia
      · right
        have := hmp (by lia)
        lia
end
end
section
set_option genInjectivity false
set_option genSizeOf false
/-! the bank -/
open Classical in
noncomputable def ix : List T → T → Nat
  | [], _ => 0
  | a :: r, t => if a = t then 0 else ix r t + 1
theorem ix_get : ∀ {ts : List T} {t : T}, t ∈ ts → ts[ix ts t]? = some t
  | [], _, h => by simp at h
  | a :: r, t, h => by
    by_cases e : a = t
    · subst e; simp [ix]
    · rcases List.mem_cons.mp h with rfl | h
      · exact absurd rfl e
      · simp [ix, e, ix_get h]
theorem ix_lt {ts : List T} {t : T} (h : t ∈ ts) : ix ts t < ts.length := (List.getElem?_eq_some_iff.mp (ix_get h)).1
theorem ix_app : ∀ {ts r : List T} {t : T}, t ∈ ts → ix (ts ++ r) t = ix ts t
  | [], _, _, h => by simp at h
  | a :: l, r, t, h => by
    by_cases e : a = t
    · subst e; simp [ix]
    · rcases List.mem_cons.mp h with rfl | h
      · exact absurd rfl e
      · simp [ix, e, ix_app h]
theorem ix_new : ∀ {ts : List T} {t : T}, t ∉ ts → ix (ts ++ [t]) t = ts.length
  | [], t, _ => by simp [ix]
  | a :: l, t, h => by
    simp only [List.mem_cons, not_or] at h
    have e : ¬ a = t := fun e => h.1 e.symm
    simp [ix, e, ix_new h.2]
theorem ix_inj {ts : List T} {t u : T} (h : t ∈ ts) (h' : u ∈ ts) (e : ix ts t = ix ts u) : t = u := by
  have := ix_get h
  rw [e, ix_get h'] at this
  exact (Option.some.inj this).symm
theorem ix_nodup {ts : List T} (hn : ts.Nodup) {i : Nat} {t : T} (h : ts[i]? = some t) : ix ts t = i := by
  have hm := List.mem_of_getElem? h
  have h1 := ix_get hm
  have hl := (List.getElem?_eq_some_iff.mp h1).1
  exact (List.getElem?_inj hl hn).mp (h1.trans h.symm)
noncomputable def keyOf (ts : List T) (t : T) : List Atom := .inl t.op :: t.kids.map fun k => .inr ((ix ts k : Nat) : Int)
noncomputable def nodesD (ts : List T) : List D := ts.map fun t => keyD (keyOf ts t)
noncomputable def numsL (ts : List T) : List (List Atom × D) := ts.map fun t => (keyOf ts t, .int ((ix ts t : Nat) : Int))
noncomputable def wtsD (ts : List T) : List D := ts.map fun t => .int ((t.size : Nat) : Int)
noncomputable def dpsD (ts : List T) : List D := ts.map fun t => .int ((t.depth : Nat) : Int)
structure Wf (ts : List T) : Prop where
  nodup : ts.Nodup
  kids : ∀ (i : Nat) (t : T), ts[i]? = some t → ∀ k ∈ t.kids, ∃ j : Nat, j < i ∧ ts[j]? = some k
theorem Wf.nil : Wf [] := ⟨List.nodup_nil, fun i t h => by simp at h⟩
theorem Wf.kid {ts : List T} (h : Wf ts) {t : T} (ht : t ∈ ts) {k : T} (hk : k ∈ t.kids) : k ∈ ts := by
  obtain ⟨i, hi⟩ := List.mem_iff_getElem?.mp ht
  obtain ⟨j, _, hj⟩ := h.kids i t hi k hk
  exact List.mem_of_getElem? hj
theorem Wf.snoc {ts : List T} (h : Wf ts) {t : T} (hk : ∀ k ∈ t.kids, k ∈ ts) (hn : t ∉ ts) : Wf (ts ++ [t]) := by
  refine ⟨?_, fun i u hi k hku => ?_⟩
  · rw [List.nodup_append]
    refine ⟨h.nodup, by simp, fun a ha b hb e => ?_⟩
    rw [List.mem_singleton] at hb
    subst hb e
    exact hn ha
  · by_cases hl : i < ts.length
    · rw [List.getElem?_append_left hl] at hi
      obtain ⟨j, hj, hjk⟩ := h.kids i u hi k hku
      exact ⟨j, hj, by rw [List.getElem?_append_left (by lia)]; exact hjk⟩
    · rw [List.getElem?_append_right (by lia)] at hi
      have : i - ts.length = 0 := by
        by_cases z : i - ts.length = 0
        · exact z
        · rw [List.getElem?_eq_none (by simp; lia)] at hi; cases hi
      rw [this] at hi
      simp only [List.getElem?_cons_zero, Option.some.injEq] at hi
      subst hi
      obtain ⟨j, hj⟩ := List.mem_iff_getElem?.mp (hk k hku)
      have hjl := (List.getElem?_eq_some_iff.mp hj).1
      exact ⟨j, by lia, by rw [List.getElem?_append_left hjl]; exact hj⟩
theorem keyOf_app {ts r : List T} {t : T} (hk : ∀ k ∈ t.kids, k ∈ ts) : keyOf (ts ++ r) t = keyOf ts t := by
  unfold keyOf
  congr 1
  exact List.map_congr_left fun k hk' => by rw [ix_app (hk k hk')]
theorem keyOf_inj {ts : List T} {t u : T} (ht : ∀ k ∈ t.kids, k ∈ ts) (hu : ∀ k ∈ u.kids, k ∈ ts) (e : keyOf ts t = keyOf ts u) : t = u := by
  obtain ⟨o, ks⟩ := t
  obtain ⟨p, ls⟩ := u
  simp only [keyOf, T.op, T.kids, List.cons.injEq, Sum.inl.injEq] at e ht hu
  obtain ⟨rfl, e⟩ := e
  congr 1
  have key : ∀ (ks ls : List T), (∀ k ∈ ks, k ∈ ts) → (∀ k ∈ ls, k ∈ ts) → ks.map (fun k => (Sum.inr ((ix ts k : Nat) : Int) : Atom)) = ls.map (fun k => Sum.inr ((ix ts k : Nat) : Int)) → ks = ls := by
    intro ks
    induction ks with
    | nil => intro ls _ _ e; cases ls with | nil => rfl | cons _ _ => cases e
    | cons k ks ih =>
      intro ls h1 h2 e
      cases ls with
      | nil => cases e
      | cons l ls =>
        simp only [List.map_cons, List.cons.injEq, Sum.inr.injEq] at e
        rw [ix_inj (h1 k (.head _)) (h2 l (.head _)) (by lia), ih ls (fun k hk => h1 k (.tail _ hk)) (fun k hk => h2 k (.tail _ hk)) e.2]
  exact key ks ls ht hu e
theorem nodesD_snoc {ts : List T} (h : Wf ts) {t : T} (hk : ∀ k ∈ t.kids, k ∈ ts) : nodesD (ts ++ [t]) = nodesD ts ++ [keyD (keyOf ts t)] := by
  unfold nodesD
  rw [List.map_append]
  congr 1
  · exact List.map_congr_left fun u hu => by rw [keyOf_app fun k hk => h.kid hu hk]
  · simp only [List.map_cons, List.map_nil]
    rw [keyOf_app hk]
theorem numsL_snoc {ts : List T} (h : Wf ts) {t : T} (hk : ∀ k ∈ t.kids, k ∈ ts) (hn : t ∉ ts) : numsL (ts ++ [t]) = numsL ts ++ [(keyOf ts t, .int ((ts.length : Nat) : Int))] := by
  unfold numsL
  rw [List.map_append]
  congr 1
  · exact List.map_congr_left fun u hu => by rw [keyOf_app fun k hk => h.kid hu hk, ix_app hu]
  · simp only [List.map_cons, List.map_nil]
    rw [keyOf_app hk, ix_new hn]
theorem lk_nums_some {ts : List T} (h : Wf ts) {t : T} (ht : t ∈ ts) : lk (numsL ts) (keyOf ts t) = some (.int ((ix ts t : Nat) : Int)) := by
  have key : ∀ l : List T, (∀ u ∈ l, u ∈ ts) → t ∈ l → lk (l.map fun t => (keyOf ts t, D.int ((ix ts t : Nat) : Int))) (keyOf ts t) = some (.int ((ix ts t : Nat) : Int)) := by
    intro l
    induction l with
    | nil => intro _ h; simp at h
    | cons a l ih =>
      intro hl hm
      by_cases e : keyOf ts a = keyOf ts t
      · have := keyOf_inj (fun k hk => h.kid (hl a (.head _)) hk) (fun k hk => h.kid ht hk) e
        subst this
        simp [lk]
      · have hm' : t ∈ l := by
          rcases List.mem_cons.mp hm with rfl | hm
          · exact absurd rfl e
          · exact hm
        have := ih (fun u hu => hl u (.tail _ hu)) hm'
        simpa [lk, e] using this
  exact key ts (fun _ h => h) ht
theorem lk_nums_none {ts : List T} (h : Wf ts) {t : T} (hk : ∀ k ∈ t.kids, k ∈ ts) (ht : t ∉ ts) : lk (numsL ts) (keyOf ts t) = none := by
  unfold lk
  rw [Option.map_eq_none_iff, List.find?_eq_none]
  intro p hp e
  obtain ⟨u, hu, rfl⟩ := List.mem_map.mp hp
  have e := of_decide_eq_true e
  have := keyOf_inj (fun k hk => h.kid hu hk) hk e
  exact ht (this ▸ hu)

structure BA where
  (x dx n m wt dp : Addr)
noncomputable def mAB (b : BA) : Str → Option Value := fun y => if y = "depths" then some (.ref b.dp) else if y = "weights" then some (.ref b.wt) else if y = "numbers" then some (.ref b.m) else if y = "nodes" then some (.ref b.n) else none
structure Mt {W : Gd} (K : Own W "Bank") (name : Str) (j : Nat) where
  a : Addr
  m : K.mN name = some (.ref a)
  f : FnS W a (metS 9 j)
  c : ∃ of, W.G.get? a = some of ∧ of.cls = .type "function"
structure Bk (W : Gd) where
  K : Own W "Bank"
  sm : SMod W
  init : Mt K "__init__" 0
  size : Mt K "size" 1
  take : Mt K "take" 2
  req : Mt K "require" 3
  put : Mt K "put" 4
  all : Mt K "put_all" 5
  op : Mt K "op" 7
  kids : Mt K "kids" 8
  term : Mt K "term" 10
  weight : Mt K "weight" 11
  nNodes : K.mN "nodes" = none
  nNumbers : K.mN "numbers" = none
  nWeights : K.mN "weights" = none
  nDepths : K.mN "depths" = none
noncomputable abbrev bankR (prog : Program) (w : World) {W : Gd} (K : Own W "Bank") (b : BA) (nd : List D) (nm : List (List Atom × D)) (wt dp : List D) (R : Sig) : Sig :=
  (b.x, insC K.C b.x b.dx) :: (b.dx, nsC (mAB b)) :: (b.n, .list nd) :: (b.m, .any (DKH prog w nm)) :: (b.wt, .list wt) :: (b.dp, .list dp) :: R
noncomputable abbrev bankT (prog : Program) (w : World) {W : Gd} (K : Own W "Bank") (b : BA) (ts : List T) (R : Sig) : Sig := bankR prog w K b (nodesD ts) (numsL ts) (wtsD ts) (dpsD ts) R
section
variable {prog : Program} {w : World} {W : Gd} {A : Around} {X : Value → PH → Shared → Prop} {S R : Sig} {env : Env} {Q : D → Sig → Prop}
theorem OpL.perm2 {S₂ : Sig} {f : List Value → Sem Value} {ds : List D} (k : S.Perm S₂) (h : OpL (model prog w) W A f RepV ds S₂ X fun d S' => ∃ S'', S'.Perm S'' ∧ Q d S'') : OpL (model prog w) W A f RepV ds S X Q := fun s B vs y r =>
  wpAny_mono (h s B vs (y.perm k) r) (fun _ _ hh1 => (by obtain ⟨B', d, S', l, y', r', S'', k', q⟩ := hh1; exact ⟨B', d, S'', l, y'.perm k', r', q⟩)) fun _ _ p => p
/-- an attribute of the bank -/
theorem Ev.slf (bk : Bk W) {b : BA} {nd : List D} {nm : List (List Atom × D)} {wt dp : List D} {L : Addr} {ρ : Str → Option D} {attr : Str} {p p' : Pos} {v : Addr} (hs : ρ "self" = some (.raw (.ref b.x))) (hv : mAB b attr = some (.ref v)) (hN : bk.K.mN attr = none)
    (q : Q (.raw (.ref v)) ((L, .frame ρ) :: bankR prog w bk.K b nd nm wt dp R)) (hB : typeLookup (.type "object") attr = pure none := by rw [typeLookup_type, builtinLookup_eq_fast]; kernel_rfl)
    (hL : env.locals = L := by rfl) (hk : env.scope.kind = .function := by rfl) (hl : env.kindOf "self" = some .local := by rfl)
    (hbase : attributeBase (.Name "self" p) attr env (eval (.Name "self" p) env) = eval (.Name "self" p) env := by rfl) :
    Ev (model prog w) W A env (.Attribute (.Name "self" p) attr p') ((L, .frame ρ) :: bankR prog w bk.K b nd nm wt dp R) X Q :=
  Ev.attr bk.K (Ev.nameL hs ⟨b.x, b.dx, mAB b, _, rfl, List.mem_cons_of_mem _ (List.mem_cons_self ..), List.mem_cons_of_mem _ (List.mem_cons_of_mem _ (List.mem_cons_self ..)), hv, rfl, q⟩ hL hk hl) hN hB hbase
/-- a method of the bank -/
theorem Ev.slfM (bk : Bk W) {name : Str} {j : Nat} (mt : Mt bk.K name j) {b : BA} {nd : List D} {nm : List (List Atom × D)} {wt dp : List D} {L : Addr} {ρ : Str → Option D} {p apos pos : Pos} {args : List Expr} (hs : ρ "self" = some (.raw (.ref b.x))) (hv : mAB b name = none)
    (h : EvArgs (model prog w) W A env pos args ((L, .frame ρ) :: bankR prog w bk.K b nd nm wt dp R) X fun ds S₂ => OpL (model prog w) W A (fun vs => PySem.call (.ref mt.a) vs) RepV (.raw (.ref b.x) :: ds) S₂ X Q)
    (hB : typeLookup (.type "object") name = pure none := by rw [typeLookup_type, builtinLookup_eq_fast]; kernel_rfl)
    (hL : env.locals = L := by rfl) (hk : env.scope.kind = .function := by rfl) (hl : env.kindOf "self" = some .local := by rfl)
    (hbase : attributeBase (.Name "self" p) name env (eval (.Name "self" p) env) = eval (.Name "self" p) env := by rfl)
    (hfew : ((backTo pos (starEach args env)).all (fun x => !x.1) && (backToKw pos (keywordEach [] env)).all (fun x => x.1.isSome)
      && decide (args.length + ([] : List Keyword).length + (if ([] : List Keyword).isEmpty then 0 else 1) < 30)) = true := by rfl)
    (hline : (apos.endLine == pos.line) = true := by rfl) (hp : (backTo pos (starEach args env)).any (·.1) = false := by rfl) :
    Ev (model prog w) W A env (.Call (.Attribute (.Name "self" p) name apos) args [] pos) ((L, .frame ρ) :: bankR prog w bk.K b nd nm wt dp R) X Q :=
  Ev.methI bk.K mt.m mt.f mt.c (Ev.nameL hs ⟨b.x, b.dx, mAB b, rfl, List.mem_cons_of_mem _ (List.mem_cons_self ..), List.mem_cons_of_mem _ (List.mem_cons_of_mem _ (List.mem_cons_self ..)), hv, h⟩ hL hk hl) hB hbase hfew hline hp

/-- a new bank -/
theorem init_ok (bk : Bk W) (ha : Ar A 1) {x dx : Addr} {Q : D → Sig → Prop}
    (q : ∀ b : BA, b.x = x → Q .none (bankT prog w bk.K b [] S)) : OpL (model prog w) W A (fun vs => call (.ref bk.init.a) vs) RepV [.raw (.ref x)] ((dx, nsC fun _ => none) :: (x, insC bk.K.C x dx) :: S) X Q := by
  have hh : ∀ env, (A.deeper env).handled = none := fun _ => ha.hh
  refine OpL.perm2 (S₂ := (dx, nsC fun _ => none) :: (x, insC bk.K.C x dx) :: S) (.refl _) ?_
  refine Op.fn bk.init.f ha.room ["self"] ?_ rfl (by decide) (by decide) fun L qual cd => ?_
  · exact fun name qual doc pm an cdv ct => vs1 fun a => rfl
  refine Exs.cons ?_
  refine Ex.setattr bk.K (Ev.lstM ?_) bk.nNodes
  repeat frow_left
  refine ⟨by decide, fun n => ?_⟩
  repeat frow_left
  refine ⟨x, dx, fun _ => none, .ref n, 2, rfl, rfl, by simp [ins1], rfl, ⟨[], Within.nil, by decide⟩, ?_⟩
  refine Exs.cons ?_
  refine Ex.setattr bk.K (Ev.dic0 (DKH prog w []) dkh_new fun m => ?_) bk.nNumbers
  repeat frow_left
  refine ⟨x, dx, _, .ref m, 3, rfl, rfl, by simp [ins1], rfl, ⟨["nodes"], Within.cons _ _ Within.nil, by decide⟩, ?_⟩
  refine Exs.cons ?_
  refine Ex.setattr bk.K (Ev.lstM ?_) bk.nWeights
  repeat frow_left
  refine ⟨by decide, fun wt => ?_⟩
  repeat frow_left
  refine ⟨x, dx, _, .ref wt, 4, rfl, rfl, by simp [ins1], rfl, ⟨["numbers", "nodes"], Within.cons _ _ (Within.cons _ _ Within.nil), by decide⟩, ?_⟩
  refine Exs.cons ?_
  refine Ex.setattr bk.K (Ev.lstM ?_) bk.nDepths
  repeat frow_left
  refine ⟨by decide, fun dp => ?_⟩
  repeat frow_left
  refine ⟨x, dx, _, .ref dp, 5, rfl, rfl, by simp [ins1], rfl, ⟨["weights", "numbers", "nodes"], Within.cons _ _ (Within.cons _ _ (Within.cons _ _ Within.nil)), by decide⟩, ?_⟩
  repeat frow_left
  refine ⟨_, List.sublist_cons_self _ _, _, ?_, q ⟨x, dx, n, m, wt, dp⟩ rfl⟩
  exact (List.reverse_perm [(x, insC bk.K.C x dx), (dx, nsC (mAB ⟨x, dx, n, m, wt, dp⟩)), (n, Cell.list []), (m, .any (DKH prog w [])), (wt, .list []), (dp, .list [])]).append_right S

end
end
section
section
variable {prog : Program} {w : World} {W : Gd} {A : Around} {X : Value → PH → Shared → Prop} {S R : Sig} {env : Env} {Q : D → Sig → Prop}
theorem size_ok (bk : Bk W) (F : Fx W) (ha : Ar A 1) {b : BA} {ts : List T} (hl : ts.length ≤ 1000) (q : Q (.int ts.length) (bankT prog w bk.K b ts R)) :
    OpL (model prog w) W A (fun vs => call (.ref bk.size.a) vs) RepV [.raw (.ref b.x)] (bankT prog w bk.K b ts R) X Q := by
  have hh : ∀ env, (A.deeper env).handled = none := fun _ => ha.hh
  refine Op.fn bk.size.f ha.room ["self"] ?_ rfl (by decide) (by decide) fun L qual cd => ?_
  · exact fun name qual doc pm an cdv ct => vs1 fun a => rfl
  refine Exs.cons ?_
  repeat frow_left
  refine Ev.slf bk (b := b) (by fold_side6M) rfl bk.nNodes ?_
  repeat frow_left
  refine Op.len_raw (l := nodesD ts) (List.mem_of_getElem? (i := 3) rfl) (by unfold nodesD; rw [List.length_map]; unfold sizeLine; lia) ?_
  refine ⟨_, List.sublist_cons_self _ _, ?_⟩
  rw [show (nodesD ts).length = ts.length by unfold nodesD; rw [List.length_map]]
  exact q
theorem op_ok (bk : Bk W) (ha : Ar A 1) {b : BA} {ts : List T} {i : Nat} {t : T} (hi : ts[i]? = some t) (hl : ts.length ≤ 1000) (q : Q (.str t.op) (bankT prog w bk.K b ts R)) :
    OpL (model prog w) W A (fun vs => call (.ref bk.op.a) vs) RepV [.raw (.ref b.x), .int i] (bankT prog w bk.K b ts R) X Q := by
  have hh : ∀ env, (A.deeper env).handled = none := fun _ => ha.hh
  have hlt := (List.getElem?_eq_some_iff.mp hi).1
  refine Op.fn bk.op.f ha.room ["self", "n"] ?_ rfl (by decide) (by decide) fun L qual cd => ?_
  · exact fun name qual doc pm an cdv ct => vs2 fun a b => rfl
  refine Exs.cons ?_
  repeat frow_left
  refine Ev.slf bk (b := b) (by fold_side6M) rfl bk.nNodes ?_
  repeat frow_left
  refine Op2.item_raw (l := nodesD ts) (d := keyD (keyOf ts t)) (List.mem_of_getElem? (i := 3) rfl) (by lia) (by lia) (by unfold nodesD; rw [List.getElem?_map, Int.toNat_natCast, hi]; rfl) ?_
  repeat frow_left
  refine Op2.item_tup (d := .str t.op) (by decide) (by decide) rfl ?_
  exact ⟨_, List.sublist_cons_self _ _, q⟩
theorem kids_ok (bk : Bk W) (ha : Ar A 1) {b : BA} {ts : List T} {i : Nat} {t : T} (hi : ts[i]? = some t) (hl : ts.length ≤ 1000) (ht : t.kids.length ≤ 1000) (q : Q (.tup (t.kids.map fun k => .int ((ix ts k : Nat) : Int))) (bankT prog w bk.K b ts R)) :
    OpL (model prog w) W A (fun vs => call (.ref bk.kids.a) vs) RepV [.raw (.ref b.x), .int i] (bankT prog w bk.K b ts R) X Q := by
  have hh : ∀ env, (A.deeper env).handled = none := fun _ => ha.hh
  have hlt := (List.getElem?_eq_some_iff.mp hi).1
  refine Op.fn bk.kids.f ha.room ["self", "n"] ?_ rfl (by decide) (by decide) fun L qual cd => ?_
  · exact fun name qual doc pm an cdv ct => vs2 fun a b => rfl
  refine Exs.cons ?_
  repeat frow_left
  refine Ev.slf bk (b := b) (by fold_side6M) rfl bk.nNodes ?_
  repeat frow_left
  refine Op2.item_raw (l := nodesD ts) (d := keyD (keyOf ts t)) (List.mem_of_getElem? (i := 3) rfl) (by lia) (by lia) (by unfold nodesD; rw [List.getElem?_map, Int.toNat_natCast, hi]; rfl) ?_
  repeat frow_left
  refine ⟨_, rfl, ?_⟩
  repeat frow_left
  refine OpS.tup (by show (List.map Atom.toD (keyOf ts t)).length ≤ _; rw [List.length_map]; show (t.kids.map _).length + 1 ≤ _; rw [List.length_map]; unfold sizeLine; lia) ?_
  refine ⟨_, List.sublist_cons_self _ _, ?_⟩
  have := cutD_from ((keyOf ts t).map Atom.toD) 1
  rw [show (((1 : Nat) : Int)) = 1 from rfl] at this
  rw [this, show ((keyOf ts t).map Atom.toD).drop 1 = t.kids.map fun k => .int ((ix ts k : Nat) : Int) by show List.map _ (List.map _ _) = _; rw [List.map_map]; rfl]
  exact q
theorem weight_ok (bk : Bk W) (ha : Ar A 1) {b : BA} {ts : List T} {i : Nat} {t : T} (hi : ts[i]? = some t) (hl : ts.length ≤ 1000) (q : Q (.int t.size) (bankT prog w bk.K b ts R)) :
    OpL (model prog w) W A (fun vs => call (.ref bk.weight.a) vs) RepV [.raw (.ref b.x), .int i] (bankT prog w bk.K b ts R) X Q := by
  have hh : ∀ env, (A.deeper env).handled = none := fun _ => ha.hh
  have hlt := (List.getElem?_eq_some_iff.mp hi).1
  refine Op.fn bk.weight.f ha.room ["self", "n"] ?_ rfl (by decide) (by decide) fun L qual cd => ?_
  · exact fun name qual doc pm an cdv ct => vs2 fun a b => rfl
  refine Exs.cons ?_
  repeat frow_left
  refine Ev.slf bk (b := b) (by fold_side6M) rfl bk.nWeights ?_
  repeat frow_left
  refine Op2.item_raw (l := wtsD ts) (d := .int t.size) (List.mem_of_getElem? (i := 5) rfl) (by lia) (by lia) (by unfold wtsD; rw [List.getElem?_map, Int.toNat_natCast, hi]; rfl) ?_
  exact ⟨_, List.sublist_cons_self _ _, q⟩
theorem req_ok (bk : Bk W) (F : Fx W) (ha : Ar A 2) {b : BA} {x : Str} (hx : opOk x = true) (q : Q .none S) :
    OpL (model prog w) W A (fun vs => call (.ref bk.req.a) vs) RepV [.raw (.ref b.x), .str x] S X Q := by
  have hh : ∀ env, (A.deeper env).handled = none := fun _ => ha.hh
  have hx' := hx
  unfold opOk at hx'
  simp only [Bool.and_eq_true, decide_eq_true_eq] at hx'
  obtain ⟨⟨⟨⟨⟨hasc, hne⟩, hall⟩, hok⟩, h63⟩, hlen⟩ := hx'
  refine Op.fn bk.req.f ha.room ["self", "op"] ?_ rfl (by decide) (by decide) fun L qual cd => ?_
  · exact fun name qual doc pm an cdv ct => vs2 fun a b => rfl
  refine Exs.cons ?_
  repeat frow_left
  refine Te.value ?_
  refine Ev.callG F.gIsOp F.fIsOp ?_
  repeat frow_left
  refine isop_ok F ((ha.deeper _).less (by lia)) hx ?_
  refine Op1.truthy_bool ?_
  repeat frow_left
  refine iteF ?_
  obtain ⟨c, hc⟩ : ∃ c, x.cps[0]? = some c := by
    cases z : x.cps[0]? with
    | some c => exact ⟨c, rfl⟩
    | none =>
      exfalso
      apply hne
      have h0 : x.cps.size = 0 := by simpa using z
      obtain ⟨cs⟩ := x
      have : cs = #[] := Array.eq_empty_of_size_eq_zero h0
      subst this
      rfl
  repeat frow_left
  refine Op2.item_str hc ?_
  repeat frow_left
  have hc63 : c ≠ 63 := fun e => by
    rw [hc, e] at h63
    exact absurd h63 (by decide)
  refine Op2.eqF (d := .str ⟨#[c]⟩) (e := .str "?") (n := 0) (k := 0) (fun e => ?_) ?_ ?_ (by decide) (by decide) (ha.deeper _).eqU ?_
  · have e : (⟨#[c]⟩ : Str) = "?" := by injection e
    have e2 := congrArg (fun z : Str => z.cps[0]?) e
    exact hc63 (by rw [show (Str.ofString "?").cps[0]? = some 63 by decide +kernel] at e2; simpa using e2)
  · obtain ⟨h0, e⟩ := Array.getElem?_eq_some_iff.mp hc
    have h128 := Array.all_eq_true.mp hasc 0 h0
    rw [e] at h128
    have h128 := of_decide_eq_true h128
    dsimp only [plain, PyData.strOk]
    simp
    lia
  · dsimp only [plain]; decide +kernel
  refine ⟨_, rfl, iteF ?_⟩
  repeat frow_left
  exact ⟨_, List.sublist_cons_self _ _, q⟩
end
end
section
section
variable {prog : Program} {w : World} {W : Gd} {A : Around} {X : Value → PH → Shared → Prop} {S R : Sig} {env : Env} {Q : D → Sig → Prop}
theorem Ev.slfC (bk : Bk W) {b : BA} {attr : Str} {p p' : Pos} {v c : Addr} (hc : env.cells.lookup ("self" : Str) = some c) (m0 : (c, .cell (some (.raw (.ref b.x)))) ∈ S) (m1 : (b.x, insC bk.K.C b.x b.dx) ∈ S) (m2 : (b.dx, nsC (mAB b)) ∈ S) (hv : mAB b attr = some (.ref v)) (hN : bk.K.mN attr = none)
    (q : Q (.raw (.ref v)) S) (hB : typeLookup (.type "object") attr = pure none := by rw [typeLookup_type, builtinLookup_eq_fast]; kernel_rfl)
    (hk : env.scope.kind = .function := by rfl) (hl : env.kindOf "self" = some .cell := by rfl)
    (hbase : attributeBase (.Name "self" p) attr env (eval (.Name "self" p) env) = eval (.Name "self" p) env := by rfl) :
    Ev (model prog w) W A env (.Attribute (.Name "self" p) attr p') S X Q :=
  Ev.attr bk.K (Ev.nameC hc m0 ⟨b.x, b.dx, mAB b, _, rfl, m1, m2, hv, rfl, q⟩ hk hl) hN hB hbase
theorem Ev.slfMC (bk : Bk W) {name : Str} {j : Nat} (mt : Mt bk.K name j) {b : BA} {c : Addr} {p apos pos : Pos} {args : List Expr} (hc : env.cells.lookup ("self" : Str) = some c) (m0 : (c, .cell (some (.raw (.ref b.x)))) ∈ S) (m1 : (b.x, insC bk.K.C b.x b.dx) ∈ S) (m2 : (b.dx, nsC (mAB b)) ∈ S) (hv : mAB b name = none)
    (h : EvArgs (model prog w) W A env pos args S X fun ds S₂ => OpL (model prog w) W A (fun vs => PySem.call (.ref mt.a) vs) RepV (.raw (.ref b.x) :: ds) S₂ X Q)
    (hB : typeLookup (.type "object") name = pure none := by rw [typeLookup_type, builtinLookup_eq_fast]; kernel_rfl)
    (hk : env.scope.kind = .function := by rfl) (hl : env.kindOf "self" = some .cell := by rfl)
    (hbase : attributeBase (.Name "self" p) name env (eval (.Name "self" p) env) = eval (.Name "self" p) env := by rfl)
    (hfew : ((backTo pos (starEach args env)).all (fun x => !x.1) && (backToKw pos (keywordEach [] env)).all (fun x => x.1.isSome)
      && decide (args.length + ([] : List Keyword).length + (if ([] : List Keyword).isEmpty then 0 else 1) < 30)) = true := by rfl)
    (hline : (apos.endLine == pos.line) = true := by rfl) (hp : (backTo pos (starEach args env)).any (·.1) = false := by rfl) :
    Ev (model prog w) W A env (.Call (.Attribute (.Name "self" p) name apos) args [] pos) S X Q :=
  Ev.methI bk.K mt.m mt.f mt.c (Ev.nameC hc m0 ⟨b.x, b.dx, mAB b, rfl, m1, m2, hv, h⟩ hk hl) hB hbase hfew hline hp
theorem sum_sizes : ∀ us : List T, (us.map fun u => ((u.size : Nat) : Int)).sum = ((T.sizeL us : Nat) : Int)
  | [] => rfl
  | u :: us => by simp only [List.map_cons, List.sum_cons, sum_sizes us, T.sizeL]; lia
theorem wts_get {ts : List T} {u : T} (h : u ∈ ts) : (wtsD ts)[((ix ts u : Nat) : Int).toNat]? = some (.int ((u.size : Nat) : Int)) := by
  unfold wtsD
  rw [Int.toNat_natCast, List.getElem?_map, ix_get h]
  rfl
theorem dps_get {ts : List T} {u : T} (h : u ∈ ts) : (dpsD ts)[((ix ts u : Nat) : Int).toNat]? = some (.int ((u.depth : Nat) : Int)) := by
  unfold dpsD
  rw [Int.toNat_natCast, List.getElem?_map, ix_get h]
  rfl
theorem max_depth {us : List T} {M : Int} (hm : M ∈ us.map (fun u => ((u.depth : Nat) : Int)) ++ [0]) (hle : ∀ a ∈ us.map (fun u => ((u.depth : Nat) : Int)) ++ [0], a ≤ M) : M = ((T.depthL us : Nat) : Int) := by
  have h1 : ∀ us : List T, (∀ u ∈ us, ((u.depth : Nat) : Int) ≤ ((T.depthL us : Nat) : Int)) := fun us u hu => by
    obtain ⟨k, hk⟩ := List.mem_iff_getElem?.mp hu
    have := depthL_mem hk
    lia
  have h2 : ∀ (us : List T) (M : Int), 0 ≤ M → (∀ u ∈ us, ((u.depth : Nat) : Int) ≤ M) → ((T.depthL us : Nat) : Int) ≤ M := by
    intro us
    induction us with
    | nil => intro M h0 _; simpa [T.depthL] using h0
    | cons u us ih =>
      intro M h0 h
      have a := h u (.head _)
      have b := ih M h0 fun v hv => h v (.tail _ hv)
      dsimp only [T.depthL]
      lia
  have h0 : 0 ≤ M := hle 0 (by simp)
  have h3 := h2 us M h0 fun u hu => hle _ (List.mem_append_left _ (List.mem_map.mpr ⟨u, hu, rfl⟩))
  rcases List.mem_append.mp hm with hm | hm
  · obtain ⟨u, hu, rfl⟩ := List.mem_map.mp hm
    have := h1 us u hu
    lia
  · rw [List.mem_singleton] at hm
    subst hm
    lia

theorem take_ok (bk : Bk W) (F : Fx W) (G : Exf prog w W) (ha : Ar A 4) {b : BA} {ts : List T} (hw : Wf ts) (hl : ts.length ≤ 500) {op : Str} (hop : opOk op = true) {us : List T} (hus : ∀ u ∈ us, u ∈ ts) (hul : us.length ≤ 500)
    (q1 : T.node op us ∈ ts → Q (.int ((ix ts (.node op us) : Nat) : Int)) (bankT prog w bk.K b ts R))
    (q2 : T.node op us ∉ ts → Q (.int ((ts.length : Nat) : Int)) (bankT prog w bk.K b (ts ++ [.node op us]) R)) :
    OpL (model prog w) W A (fun vs => call (.ref bk.take.a) vs) RepV [.raw (.ref b.x), .str op, .tup (us.map fun u => .int ((ix ts u : Nat) : Int))] (bankT prog w bk.K b ts R) X Q := by
  have hh : ∀ env, (A.deeper env).handled = none := fun _ => ha.hh
  refine Op.fnC bk.take.f ha.room ["self", "op", "kids"] ?_ rfl (by decide) ?_ fun L qual cd => ?_
  · exact fun name qual doc pm an cdv ct => vs3 fun a b c => rfl
  · intro x hx
    simp only [List.mem_cons, List.not_mem_nil, or_false] at hx
    rcases hx with rfl | rfl | rfl
    · exact .inr ⟨by decide, fun n => by rfl⟩
    · exact .inl (by decide)
    · exact .inl (by decide)
  show Exs _ _ _ _ _ ((L, .frame (bindLD (kindS (scopeS (metS 9 2))) ((["self", "op", "kids"] : List Str).zip [.raw (.ref b.x), .str op, .tup (us.map fun u => .int ((ix ts u : Nat) : Int))]) fun _ => none)) :: (L + 1, .cell (some (.raw (.ref b.x)))) :: bankT prog w bk.K b ts R) _ _
  have hkey : ([D.str op] ++ us.map fun u => D.int ((ix ts u : Nat) : Int)) = (keyOf ts (.node op us)).map Atom.toD := by
    show _ :: _ = _ :: List.map _ (List.map _ _)
    rw [List.map_map]
    rfl
  refine Exs.cons ?_
  repeat frow_left
  refine ⟨len1, ?_⟩
  repeat frow_left
  refine Op.tuple_tup ?_
  refine Op2.tadd (by rw [List.length_map]; show 1 + _ ≤ _; unfold sizeLine; lia) ?_
  rw [hkey]
  repeat frow_left
  refine Ev.slfC bk (b := b) (c := L + 1) rfl (List.mem_of_getElem? (i := 1) rfl) (List.mem_of_getElem? (i := 2) rfl) (List.mem_of_getElem? (i := 3) rfl) rfl bk.nNumbers ?_
  have hkids : ∀ k ∈ (T.node op us).kids, k ∈ ts := hus
  by_cases hin : T.node op us ∈ ts
  · refine Op2.in_dkh bk.sm (ha.deeper _).eqU (List.mem_of_getElem? (i := 5) rfl) ?_
    rw [lk_nums_some hw hin]
    refine ⟨_, rfl, ?_⟩
    refine iteT ?_
    repeat frow_left
    refine Ev.slfC bk (b := b) (c := L + 1) rfl (List.mem_of_getElem? (i := 1) rfl) (List.mem_of_getElem? (i := 2) rfl) (List.mem_of_getElem? (i := 3) rfl) rfl bk.nNumbers ?_
    repeat frow_left
    refine Op2.item_dkh (ha.deeper _).eqU (List.mem_of_getElem? (i := 5) rfl) (lk_nums_some hw hin) ?_
    exact ⟨_, (List.sublist_cons_self _ _).trans (List.sublist_cons_self _ _), q1 hin⟩
  · refine Op2.in_dkh bk.sm (ha.deeper _).eqU (List.mem_of_getElem? (i := 5) rfl) ?_
    rw [lk_nums_none hw hkids hin]
    refine ⟨_, rfl, ?_⟩
    refine iteF ?_
    refine Exs.nil ?_
    refine Exs.cons (Ex.expr ?_)
    refine Ev.slfMC bk bk.req (b := b) (c := L + 1) rfl (List.mem_of_getElem? (i := 1) rfl) (List.mem_of_getElem? (i := 2) rfl) (List.mem_of_getElem? (i := 3) rfl) rfl ?_
    repeat frow_left
    refine req_ok bk F ((ha.deeper _).less (by lia)) hop ?_
    refine ⟨rfl, ?_⟩
    have hnl : (nodesD ts).length = ts.length := by unfold nodesD; rw [List.length_map]
    have hcut : cutD ((keyOf ts (.node op us)).map Atom.toD) (some 1) none = us.map fun u => .int ((ix ts u : Nat) : Int) := by
      have := cutD_from ((keyOf ts (.node op us)).map Atom.toD) 1
      rw [show (((1 : Nat) : Int)) = 1 from rfl] at this
      rw [this]
      show List.map _ (List.map _ _) = _
      rw [List.map_map]
      rfl
    have hkl : ((keyOf ts (.node op us)).map Atom.toD).length ≤ sizeLine := by
      show (List.map _ (_ :: List.map _ _)).length ≤ _
      rw [List.length_map, List.length_cons, List.length_map]
      show us.length + 1 ≤ _
      unfold sizeLine
      lia
    refine Exs.cons ?_
    let Iv13 : List D → Sig → Prop := fun rest S' => ∃ (ρ : Str → Option D) (us' : List T), rest = us'.map (fun u => D.int ((ix ts u : Nat) : Int)) ∧ (∀ u ∈ us', u ∈ ts) ∧ S' = (L, .frame ρ) :: (L + 1, .cell (some (.raw (.ref b.x)))) :: bankT prog w bk.K b ts R ∧ ρ "node" = some (keyD (keyOf ts (.node op us)))
    refine Ex.for_ (I := Iv13) ?_ ?_ ?_ XF.passes
    · repeat frow_left
      refine ⟨_, rfl, ?_⟩
      repeat frow_left
      refine OpS.tup hkl ?_
      rw [hcut]
      refine ItW.tup (hh _) ?_
      refine ⟨_, us, rfl, hus, rfl, ?_⟩
      fold_side6M
    · refine hide4 fun Pg hPg => ?_
      intro d rest S' F₀ hIv
      obtain ⟨ρ, us', hr, hus', rfl, hnode⟩ := hIv
      cases us' with
      | nil => cases hr
      | cons u us' =>
      simp only [List.map_cons, List.cons.injEq] at hr
      obtain ⟨rfl, rfl⟩ := hr
      have hu := ix_lt (hus' u (.head _))
      refine hPg _ _ _ _ ?_
      repeat frow_left
      refine ⟨fun h0 => absurd h0 (by rw [decide_eq_false_iff_not]; lia), fun _ => ?_⟩
      repeat frow_left
      refine Ev.slfC bk (b := b) (c := L + 1) rfl (List.mem_of_getElem? (i := 1) rfl) (List.mem_of_getElem? (i := 2) rfl) (List.mem_of_getElem? (i := 3) rfl) rfl bk.nNodes ?_
      repeat frow_left
      refine Op.len_raw (l := nodesD ts) (List.mem_of_getElem? (i := 4) rfl) (by rw [hnl]; unfold sizeLine; lia) ?_
      rw [hnl]
      repeat frow_left
      refine iteN (fun _ => ?_) fun h1 => absurd (by lia) h1
      repeat frow_left
      exact ⟨(L, .frame _) :: (L + 1, .cell (some (.raw (.ref b.x)))) :: bankT prog w bk.K b ts R, rfl, _, us', rfl, fun v hv => hus' v (.tail _ hv), rfl, (upd_ne _ _ (by decide)).trans hnode⟩
    · refine hide1 fun Pg hPg => ?_
      intro S' hIv
      obtain ⟨ρ, us', hr, hus', rfl, hnode⟩ := hIv
      clear hr hus'
      refine hPg _ ?_
      refine Exs.nil ?_
      refine Exs.cons (Ex.setitem ?_)
      repeat frow_left
      refine Ev.slfC bk (b := b) (c := L + 1) rfl (List.mem_of_getElem? (i := 1) rfl) (List.mem_of_getElem? (i := 2) rfl) (List.mem_of_getElem? (i := 3) rfl) rfl bk.nNodes ?_
      repeat frow_left
      refine Op.len_raw (l := nodesD ts) (List.mem_of_getElem? (i := 4) rfl) (by rw [hnl]; unfold sizeLine; lia) ?_
      rw [hnl]
      refine Ev.slfC bk (b := b) (c := L + 1) rfl (List.mem_of_getElem? (i := 1) rfl) (List.mem_of_getElem? (i := 2) rfl) (List.mem_of_getElem? (i := 3) rfl) rfl bk.nNumbers ?_
      repeat frow_left
      refine Op3.setitem_dkh (j := 5) (ha.deeper _).eqU rfl (by unfold numsL; rw [List.length_map]; unfold sizeLine; lia) ?_
      rw [sto_new (lk_nums_none hw hkids hin), ← numsL_snoc hw hkids hin]
      refine Exs.cons (Ex.expr (Ev.meth ?_))
      refine Ev.slfC bk (b := b) (c := L + 1) rfl (List.mem_of_getElem? (i := 1) rfl) (List.mem_of_getElem? (i := 2) rfl) (List.mem_of_getElem? (i := 3) rfl) rfl bk.nNodes ?_
      refine Me.append (l := nodesD ts) (List.mem_of_getElem? (i := 4) rfl) ?_
      repeat frow_left
      refine ⟨4, nodesD ts, rfl, by rw [hnl]; unfold sizeLine; lia, rfl, ?_⟩
      rw [← nodesD_snoc hw hkids]
      show Exs _ _ _ _ _ ((L, .frame ρ) :: (L + 1, .cell (some (.raw (.ref b.x)))) :: bankR prog w bk.K b (nodesD (ts ++ [.node op us])) (numsL (ts ++ [.node op us])) (wtsD ts) (dpsD ts) R) _ _
      refine Exs.cons (Ex.expr (Ev.meth ?_))
      refine Ev.slfC bk (b := b) (c := L + 1) rfl (List.mem_of_getElem? (i := 1) rfl) (List.mem_of_getElem? (i := 2) rfl) (List.mem_of_getElem? (i := 3) rfl) rfl bk.nWeights ?_
      refine Me.append (l := wtsD ts) (List.mem_of_getElem? (i := 6) rfl) ?_
      repeat frow_left
      let Iv14 : List D → List D → Sig → Prop := fun rest acc S' => ∃ done us', us = done ++ us' ∧ rest = us'.map (fun u => D.int ((ix ts u : Nat) : Int)) ∧ acc = done.map (fun u => D.int ((u.size : Nat) : Int)) ∧ S' = (L, .frame ρ) :: (L + 1, .cell (some (.raw (.ref b.x)))) :: bankR prog w bk.K b (nodesD (ts ++ [.node op us])) (numsL (ts ++ [.node op us])) (wtsD ts) (dpsD ts) R
      refine Ev.comp (cl := [("self", L + 1)]) (I := Iv14) ?_ ?_ ?_
      · repeat frow_left
        refine ⟨_, rfl, ?_⟩
        repeat frow_left
        refine OpS.tup hkl ?_
        rw [hcut]
        refine ItW.tup (hh _) ?_
        exact ⟨by rw [List.length_map]; unfold sizeLine; lia, [], us, rfl, rfl, rfl, rfl⟩
      · refine hide7 fun Pg hPg => ?_
        intro C d rest acc S' ρ' F₁ hIv
        obtain ⟨done, us', hsp, hr, rfl, rfl⟩ := hIv
        cases us' with
        | nil => cases hr
        | cons u us' =>
        simp only [List.map_cons, List.cons.injEq] at hr
        obtain ⟨rfl, rfl⟩ := hr
        have hu : u ∈ ts := hus u (by rw [hsp]; simp)
        have hu' := ix_lt hu
        refine hPg _ _ _ _ _ _ _ ?_
        repeat frow_left
        refine Tests.nil ?_
        refine iteT ?_
        refine Ev.sub ?_
        refine Ev.slfC bk (b := b) (c := L + 1) rfl (List.mem_of_getElem? (i := 2) rfl) (List.mem_of_getElem? (i := 3) rfl) (List.mem_of_getElem? (i := 4) rfl) rfl bk.nWeights ?_
        repeat frow_left
        refine Op2.item_raw (l := wtsD ts) (List.mem_of_getElem? (i := 7) rfl) (by lia) (by lia) (wts_get hu) ?_
        exact ⟨_, _, rfl, done ++ [u], us', by rw [hsp]; simp, rfl, by simp, rfl⟩
      refine hide2 fun Pg hPg => ?_
      intro acc S' hIv
      obtain ⟨done, us', hsp, hr, rfl, rfl⟩ := hIv
      have h0 : us' = [] := by
        cases us' with
        | nil => rfl
        | cons _ _ => cases hr
      subst h0
      rw [List.append_nil] at hsp
      subst hsp
      clear hr
      refine hPg _ _ ?_
      repeat frow_left
      rw [show us.map (fun u => D.int ((u.size : Nat) : Int)) = (us.map fun u => ((u.size : Nat) : Int)).map D.int by rw [List.map_map]; rfl]
      refine Op.sum (hh _) ?_
      rw [sum_sizes]
      repeat frow_left
      refine ⟨6, wtsD ts, rfl, by unfold wtsD; rw [List.length_map]; unfold sizeLine; lia, rfl, ?_⟩
      rw [show wtsD ts ++ [D.int (1 + ((T.sizeL us : Nat) : Int))] = wtsD (ts ++ [.node op us]) by
        unfold wtsD
        rw [List.map_append, List.map_cons, List.map_nil]
        dsimp only [T.size]
        rw [show (1 + ((T.sizeL us : Nat) : Int)) = ((T.sizeL us + 1 : Nat) : Int) by lia]]
      show Exs _ _ _ _ _ ((L, .frame ρ) :: (L + 1, .cell (some (.raw (.ref b.x)))) :: bankR prog w bk.K b (nodesD (ts ++ [.node op us])) (numsL (ts ++ [.node op us])) (wtsD (ts ++ [.node op us])) (dpsD ts) R) _ _
      refine Exs.cons (Ex.expr (Ev.meth ?_))
      refine Ev.slfC bk (b := b) (c := L + 1) rfl (List.mem_of_getElem? (i := 1) rfl) (List.mem_of_getElem? (i := 2) rfl) (List.mem_of_getElem? (i := 3) rfl) rfl bk.nDepths ?_
      refine Me.append (l := dpsD ts) (List.mem_of_getElem? (i := 7) rfl) ?_
      repeat frow_left
      let Iv15 : List D → List D → Sig → Prop := fun rest acc S' => ∃ done us', us = done ++ us' ∧ rest = us'.map (fun u => D.int ((ix ts u : Nat) : Int)) ∧ acc = done.map (fun u => D.int ((u.depth : Nat) : Int)) ∧ S' = (L, .frame ρ) :: (L + 1, .cell (some (.raw (.ref b.x)))) :: bankR prog w bk.K b (nodesD (ts ++ [.node op us])) (numsL (ts ++ [.node op us])) (wtsD (ts ++ [.node op us])) (dpsD ts) R
      refine Ev.comp (cl := [("self", L + 1)]) (I := Iv15) ?_ ?_ ?_
      · repeat frow_left
        refine ⟨_, rfl, ?_⟩
        repeat frow_left
        refine OpS.tup hkl ?_
        rw [hcut]
        refine ItW.tup (hh _) ?_
        exact ⟨by rw [List.length_map]; unfold sizeLine; lia, [], us, rfl, rfl, rfl, rfl⟩
      · refine hide7 fun Pg hPg => ?_
        intro C d rest acc S' ρ' F₁ hIv
        obtain ⟨done, us', hsp, hr, rfl, rfl⟩ := hIv
        cases us' with
        | nil => cases hr
        | cons u us' =>
        simp only [List.map_cons, List.cons.injEq] at hr
        obtain ⟨rfl, rfl⟩ := hr
        have hu : u ∈ ts := hus u (by rw [hsp]; simp)
        have hu' := ix_lt hu
        refine hPg _ _ _ _ _ _ _ ?_
        repeat frow_left
        refine Tests.nil ?_
        refine iteT ?_
        refine Ev.sub ?_
        refine Ev.slfC bk (b := b) (c := L + 1) rfl (List.mem_of_getElem? (i := 2) rfl) (List.mem_of_getElem? (i := 3) rfl) (List.mem_of_getElem? (i := 4) rfl) rfl bk.nDepths ?_
        repeat frow_left
        refine Op2.item_raw (l := dpsD ts) (List.mem_of_getElem? (i := 8) rfl) (by lia) (by lia) (dps_get hu) ?_
        exact ⟨_, _, rfl, done ++ [u], us', by rw [hsp]; simp, rfl, by simp, rfl⟩
      refine hide2 fun Pg hPg => ?_
      intro acc S' hIv
      obtain ⟨done, us', hsp, hr, rfl, rfl⟩ := hIv
      have h0 : us' = [] := by
        cases us' with
        | nil => rfl
        | cons _ _ => cases hr
      subst h0
      rw [List.append_nil] at hsp
      subst hsp
      clear hr
      refine hPg _ _ ?_
      refine Ev.lst ?_
      repeat frow_left
      refine ⟨len1, ?_⟩
      refine Op2.ladd (by rw [List.length_map]; show _ + 1 ≤ _; unfold sizeLine; lia) ?_
      repeat frow_left
      rw [show us.map (fun u : T => D.int ((u.depth : Nat) : Int)) ++ [D.int 0] = (us.map (fun u : T => ((u.depth : Nat) : Int)) ++ [0]).map D.int by rw [List.map_append, List.map_map]; rfl]
      refine Op.max (hh _) (by simp) fun M hM hle => ?_
      rw [max_depth hM hle]
      repeat frow_left
      refine ⟨7, dpsD ts, rfl, by unfold dpsD; rw [List.length_map]; unfold sizeLine; lia, rfl, ?_⟩
      rw [show dpsD ts ++ [D.int (1 + ((T.depthL us : Nat) : Int))] = dpsD (ts ++ [.node op us]) by
        unfold dpsD
        rw [List.map_append, List.map_cons, List.map_nil]
        dsimp only [T.depth]
        rw [show (1 + ((T.depthL us : Nat) : Int)) = ((T.depthL us + 1 : Nat) : Int) by lia]]
      show Exs _ _ _ _ _ ((L, .frame ρ) :: (L + 1, .cell (some (.raw (.ref b.x)))) :: bankT prog w bk.K b (ts ++ [.node op us]) R) _ _
      repeat frow_left
      refine Ev.slfC bk (b := b) (c := L + 1) rfl (List.mem_of_getElem? (i := 1) rfl) (List.mem_of_getElem? (i := 2) rfl) (List.mem_of_getElem? (i := 3) rfl) rfl bk.nNodes ?_
      repeat frow_left
      have hnl2 : (nodesD (ts ++ [.node op us])).length = ts.length + 1 := by unfold nodesD; rw [List.length_map, List.length_append]; rfl
      refine Op.len_raw (l := nodesD (ts ++ [.node op us])) (List.mem_of_getElem? (i := 4) rfl) (by rw [hnl2]; unfold sizeLine; lia) ?_
      rw [hnl2]
      repeat frow_left
      rw [show (((ts.length + 1 : Nat) : Int) - 1) = ((ts.length : Nat) : Int) by lia]
      exact ⟨_, (List.sublist_cons_self _ _).trans (List.sublist_cons_self _ _), q2 hin⟩
end
end
section
section
variable {prog : Program} {w : World} {W : Gd} {A : Around} {X : Value → PH → Shared → Prop} {S R : Sig} {env : Env} {Q : D → Sig → Prop}
theorem bank_perm {K : Own W "Bank"} {b : BA} {nd : List D} {nm : List (List Atom × D)} {wt dp : List D} (F R : Sig) : (F ++ bankR prog w K b nd nm wt dp R).Perm (bankR prog w K b nd nm wt dp (F ++ R)) :=
  List.perm_append_comm_assoc F [(b.x, insC K.C b.x b.dx), (b.dx, nsC (mAB b)), (b.n, .list nd), (b.m, .any (DKH prog w nm)), (b.wt, .list wt), (b.dp, .list dp)] R
theorem bank_permT (bk : Bk W) (b : BA) (ts : List T) (F R : Sig) : (F ++ bankT prog w bk.K b ts R).Perm (bankT prog w bk.K b ts (F ++ R)) := bank_perm F R
theorem ix_pre {ts ts' : List T} (h : ts <+: ts') {u : T} (hu : u ∈ ts) : ix ts' u = ix ts u := by
  obtain ⟨r, rfl⟩ := h
  exact ix_app hu
theorem mem_pre_self (t : T) : t ∈ t.pre := by rw [T.pre_cons]; exact .head _
theorem preL_mem : ∀ {l : List T} {u v : T}, u ∈ l → v ∈ u.pre → v ∈ T.preL l
  | a :: l, u, v, hu, hv => by
    dsimp only [T.preL]
    rcases List.mem_cons.mp hu with rfl | hu
    · exact List.mem_append_left _ hv
    · exact List.mem_append_right _ (preL_mem hu hv)
theorem all_ok (bk : Bk W) (F : Fx W) (G : Exf prog w W) {b : BA} : ∀ {n : Nat} {A : Around} {X : Value → PH → Shared → Prop} {R : Sig} (ha : Ar A (n + 6)) {ts : List T} (hw : Wf ts) {t : T} (hd : t.depth ≤ n) (hop : ∀ u ∈ t.pre, opOk u.op = true) (hl : ts.length + t.size ≤ 400)
    {Q : D → Sig → Prop} (q : ∀ ts', Wf ts' → ts <+: ts' → t ∈ ts' → (∀ u, u ∈ ts' ↔ u ∈ ts ∨ u ∈ t.pre) → ts'.length ≤ ts.length + t.size → Q (.int ((ix ts' t : Nat) : Int)) (bankT prog w bk.K b ts' R)),
    OpL (model prog w) W A (fun vs => call (.ref bk.all.a) vs) RepV [.raw (.ref b.x), t.term] (bankT prog w bk.K b ts R) X Q := by
  intro n
  induction n with
  | zero => intro A X R ha ts hw t hd; cases t; dsimp only [T.depth] at hd; lia
  | succ n ih =>
  intro A X R ha ts hw t hd hop hl Q q
  have hh : ∀ env, (A.deeper env).handled = none := fun _ => ha.hh
  refine Op.fnC bk.all.f ha.room ["self", "t"] ?_ rfl (by decide) ?_ fun L qual cd => ?_
  · exact fun name qual doc pm an cdv ct => vs2 fun a b => rfl
  · intro x hx
    simp only [List.mem_cons, List.not_mem_nil, or_false] at hx
    rcases hx with rfl | rfl
    · exact .inr ⟨by decide, fun n => by rfl⟩
    · exact .inl (by decide)
  show Exs _ _ _ _ _ ((L, .frame (bindLD (kindS (scopeS (metS 9 5))) ((["self", "t"] : List Str).zip [.raw (.ref b.x), t.term]) fun _ => none)) :: (L + 1, .cell (some (.raw (.ref b.x)))) :: bankT prog w bk.K b ts R) _ _
  generalize hρ : bindLD (kindS (scopeS (metS 9 5))) ((["self", "t"] : List Str).zip [.raw (.ref b.x), t.term]) (fun _ => none) = ρ
  have ht : ρ "t" = some (.tup (.str t.op :: t.kids.map T.term)) := by rw [← hρ, ← term_eq]; rfl
  clear hρ
  have hkl := t.kids_lt
  refine Exs.cons (Ex.ret ?_)
  refine Ev.slfMC bk bk.take (b := b) (c := L + 1) rfl (List.mem_of_getElem? (i := 1) rfl) (List.mem_of_getElem? (i := 2) rfl) (List.mem_of_getElem? (i := 3) rfl) rfl ?_
  repeat frow_left
  refine Op2.item_tup (d := .str t.op) (by decide) (by decide) rfl ?_
  repeat frow_left
  let Iv16 : List D → List D → Sig → Prop := fun rest acc S' => ∃ (dn us : List T) (ts1 : List T), t.kids = dn ++ us ∧ rest = us.map T.term ∧ Wf ts1 ∧ ts <+: ts1 ∧ (∀ u ∈ dn, u ∈ ts1) ∧ acc = dn.map (fun u => D.int ((ix ts1 u : Nat) : Int)) ∧ (∀ u, u ∈ ts1 ↔ u ∈ ts ∨ u ∈ T.preL dn) ∧ ts1.length ≤ ts.length + T.sizeL dn ∧ S' = (L, .frame ρ) :: (L + 1, .cell (some (.raw (.ref b.x)))) :: bankT prog w bk.K b ts1 R
  refine Ev.comp (cl := [("self", L + 1)]) (I := Iv16) ?_ ?_ ?_
  · repeat frow_left
    refine ⟨_, rfl, ?_⟩
    repeat frow_left
    refine OpS.tup (by rw [List.length_cons, List.length_map]; unfold sizeLine; lia) ?_
    have := cutD_from (D.str t.op :: t.kids.map T.term) 1
    rw [show (((1 : Nat) : Int)) = 1 from rfl] at this
    rw [this]
    refine ItW.tup (hh _) ?_
    exact ⟨by show (t.kids.map T.term).length ≤ _; rw [List.length_map]; unfold sizeLine; lia, [], t.kids, ts, rfl, rfl, hw, List.prefix_refl _, (fun u hu => by cases hu), rfl, (fun u => by simp [T.preL]), (by simp [T.sizeL]), rfl⟩
  · refine hide7 fun Pg hPg => ?_
    intro C d rest acc S' ρ' F₁ hIv
    obtain ⟨dn, us, ts1, hsp, hr, hw1, hp1, hdn, rfl, hmem, hlen, rfl⟩ := hIv
    cases us with
    | nil => cases hr
    | cons u us =>
    simp only [List.map_cons, List.cons.injEq] at hr
    obtain ⟨rfl, rfl⟩ := hr
    have hu : u ∈ t.kids := by rw [hsp]; simp
    obtain ⟨k, hk⟩ := List.mem_iff_getElem?.mp hu
    have hud := depth_kid hk
    have hts : T.sizeL t.kids = T.sizeL dn + (u.size + T.sizeL us) := by rw [hsp, T.sizeL_app]; dsimp only [T.sizeL]
    have htz := T.size_eq t
    have huop : ∀ v ∈ u.pre, opOk v.op = true := fun v hv => hop v (by rw [T.pre_cons]; exact .tail _ (preL_mem hu hv))
    refine hPg _ _ _ _ _ _ _ ?_
    repeat frow_left
    refine Tests.nil ?_
    refine iteT ?_
    refine Ev.slfMC bk bk.all (b := b) (c := L + 1) rfl (List.mem_of_getElem? (i := 2) rfl) (List.mem_of_getElem? (i := 3) rfl) (List.mem_of_getElem? (i := 4) rfl) rfl ?_
    repeat frow_left
    refine OpL.perm2 (S₂ := bankT prog w bk.K b ts1 ([(C, Cell.frame (upd ρ' "kid" u.term)), (L, Cell.frame ρ), (L + 1, Cell.cell (some (D.raw (.ref b.x))))] ++ (R ++ F₁))) (bank_permT bk b ts1 [(C, Cell.frame (upd ρ' "kid" u.term)), (L, Cell.frame ρ), (L + 1, Cell.cell (some (D.raw (.ref b.x))))] (R ++ F₁)) ?_
    refine ih ((ha.deeper _).less (by lia)) hw1 (by lia) huop (by lia) fun ts2 hw2 hp2 hu2 hm2 hl2 => ?_
    refine ⟨_, (bank_permT bk b ts2 [(C, Cell.frame (upd ρ' "kid" u.term)), (L, Cell.frame ρ), (L + 1, Cell.cell (some (D.raw (.ref b.x))))] (R ++ F₁)).symm, ?_⟩
    refine ⟨_, (L, .frame ρ) :: (L + 1, .cell (some (.raw (.ref b.x)))) :: bankT prog w bk.K b ts2 R, rfl, dn ++ [u], us, ts2, by rw [hsp]; simp, rfl, hw2, hp1.trans hp2, fun v hv => ?_, ?_, fun v => ?_, ?_, rfl⟩
    · rcases List.mem_append.mp hv with hv | hv
      · exact (hm2 v).mpr (.inl (hdn v hv))
      · rw [List.mem_singleton] at hv; subst hv; exact hu2
    · rw [List.map_append]
      congr 1
      exact List.map_congr_left fun v hv => by rw [ix_pre hp2 (hdn v hv)]
    · rw [hm2 v, hmem v, preL_snoc, List.mem_append, or_assoc]
    · rw [sizeL_snoc]; lia
  refine hide2 fun Pg hPg => ?_
  intro acc S' hIv
  obtain ⟨dn, us, ts1, hsp, hr, hw1, hp1, hdn, rfl, hmem, hlen, rfl⟩ := hIv
  have h0 : us = [] := by
    cases us with
    | nil => rfl
    | cons _ _ => cases hr
  subst h0
  rw [List.append_nil] at hsp
  subst hsp
  have htz := T.size_eq t
  refine hPg _ _ ?_
  repeat frow_left
  refine Op.tuple_lst (l := t.kids.map (fun u => D.int ((ix ts1 u : Nat) : Int))) (by rw [List.length_map]; unfold sizeLine; lia) ?_
  repeat frow_left
  refine OpL.perm2 (S₂ := bankT prog w bk.K b ts1 ([(L, Cell.frame ρ), (L + 1, Cell.cell (some (D.raw (.ref b.x))))] ++ R)) (bank_permT bk b ts1 [(L, Cell.frame ρ), (L + 1, Cell.cell (some (D.raw (.ref b.x))))] R) ?_
  have hmt : ∀ u, u ∈ t.pre ↔ u = t ∨ u ∈ T.preL t.kids := fun u => by rw [T.pre_cons]; exact List.mem_cons
  have htn : T.node t.op t.kids = t := (T.eta t).symm
  refine take_ok bk F G ((ha.deeper _).less (by lia)) hw1 (by lia) (hop t (mem_pre_self t)) hdn (by lia) (fun hin => ?_) fun hin => ?_
  · rw [htn] at hin ⊢
    refine ⟨_, (bank_permT bk b ts1 [(L, Cell.frame ρ), (L + 1, Cell.cell (some (D.raw (.ref b.x))))] R).symm, ?_⟩
    refine ⟨_, (List.sublist_cons_self _ _).trans (List.sublist_cons_self _ _), q ts1 hw1 hp1 hin (fun u => ?_) (by lia)⟩
    rw [hmem u, hmt u]
    constructor
    · rintro (h | h)
      · exact .inl h
      · exact .inr (.inr h)
    · rintro (h | rfl | h)
      · exact .inl h
      · exact (hmem _).mp hin
      · exact .inr h
  · rw [htn] at hin ⊢
    refine ⟨_, (bank_permT bk b (ts1 ++ [t]) [(L, Cell.frame ρ), (L + 1, Cell.cell (some (D.raw (.ref b.x))))] R).symm, ?_⟩
    refine ⟨_, (List.sublist_cons_self _ _).trans (List.sublist_cons_self _ _), ?_⟩
    have := q (ts1 ++ [t]) (hw1.snoc hdn hin) (hp1.trans (List.prefix_append _ _)) (by simp) (fun u => ?_) (by rw [List.length_append]; show _ + 1 ≤ _; lia)
    · rw [ix_new hin] at this
      exact this
    · rw [List.mem_append, List.mem_singleton, hmem u, hmt u, or_assoc]
      constructor
      · rintro (h | h | h)
        · exact .inl h
        · exact .inr (.inr h)
        · exact .inr (.inl h)
      · rintro (h | h | h)
        · exact .inl h
        · exact .inr (.inr h)
        · exact .inr (.inl h)
theorem put_ok (bk : Bk W) (F : Fx W) (G : Exf prog w W) {b : BA} {n : Nat} (ha : Ar A (n + 7)) {ts : List T} (hw : Wf ts) {t : T} (hd : t.depth ≤ n) (hop : ∀ u ∈ t.pre, opOk u.op = true) (hl : ts.length + t.size ≤ 400)
    (q : ∀ ts', Wf ts' → ts <+: ts' → t ∈ ts' → (∀ u, u ∈ ts' ↔ u ∈ ts ∨ u ∈ t.pre) → ts'.length ≤ ts.length + t.size → Q (.int ((ix ts' t : Nat) : Int)) (bankT prog w bk.K b ts' R)) :
    OpL (model prog w) W A (fun vs => call (.ref bk.put.a) vs) RepV [.raw (.ref b.x), t.term] (bankT prog w bk.K b ts R) X Q := by
  have hh : ∀ env, (A.deeper env).handled = none := fun _ => ha.hh
  refine Op.fn bk.put.f ha.room ["self", "t"] ?_ rfl (by decide) (by decide) fun L qual cd => ?_
  · exact fun name qual doc pm an cdv ct => vs2 fun a b => rfl
  have hpm : ∀ p ∈ t.all, p.2 ∈ t.pre := fun p hp => by rw [← T.all_snd]; exact List.mem_map.mpr ⟨p, hp, rfl⟩
  refine Exs.cons ?_
  let Iv17 : List D → Sig → Prop := fun rest S' => ∃ (ρ : Str → Option D) (l : List (List Nat × T)), rest = partsD l ∧ (∀ p ∈ l, p.2 ∈ t.pre) ∧ S' = (L, .frame ρ) :: bankT prog w bk.K b ts R ∧ ρ "t" = some t.term ∧ ρ "self" = some (.raw (.ref b.x))
  refine Ex.for_ (I := Iv17) ?_ ?_ ?_ XF.passes
  · refine Ev.callG F.gParts F.fParts ?_
    repeat frow_left
    refine parts_ok F (n := n) ((ha.deeper _).less (by lia)) hd (by lia) ?_
    refine ItW.lst (hh _) ?_
    exact ⟨_, t.all, rfl, hpm, rfl, by fold_side6M, by fold_side6M⟩
  · refine hide4 fun Pg hPg => ?_
    intro d rest S' F₀ hIv
    obtain ⟨ρ, l, hr, hlm, rfl, ht, hs⟩ := hIv
    cases l with
    | nil => cases hr
    | cons p l =>
    dsimp only [partsD, List.map_cons, List.cons.injEq] at hr
    obtain ⟨rfl, rfl⟩ := hr
    have hp := hlm p (.head _)
    refine hPg _ _ _ _ ?_
    show Sto _ _ _ _ _ (.tup [.tup (natsD p.1), p.2.term]) _ _ _
    refine Sto.tup2 (hh _) ?_
    refine Sto.name (StoN.loc ?_)
    refine Sto.name (StoN.loc ?_)
    refine Exs.cons (Ex.expr ?_)
    refine Ev.slfM bk bk.req (b := b) (by fold_side6M) rfl ?_
    repeat frow_left
    rw [term_eq p.2]
    refine Op2.item_tup (d := .str p.2.op) (by decide) (by decide) rfl ?_
    repeat frow_left
    refine req_ok bk F ((ha.deeper _).less (by lia)) (hop _ hp) ?_
    refine ⟨rfl, ?_⟩
    repeat frow_left
    exact ⟨(L, .frame _) :: bankT prog w bk.K b ts R, rfl, _, l, rfl, fun p hp => hlm p (.tail _ hp), rfl, (upd_ne _ _ (by decide)).trans ((upd_ne _ _ (by decide)).trans ht), (upd_ne _ _ (by decide)).trans ((upd_ne _ _ (by decide)).trans hs)⟩
  · refine hide1 fun Pg hPg => ?_
    intro S' hIv
    obtain ⟨ρ, l, hr, hlm, rfl, ht, hs⟩ := hIv
    refine hPg _ ?_
    refine Exs.nil ?_
    refine Exs.cons (Ex.ret ?_)
    refine Ev.slfM bk bk.all (b := b) hs rfl ?_
    repeat frow_left
    refine OpL.perm2 (S₂ := bankT prog w bk.K b ts ([(L, Cell.frame ρ)] ++ R)) (bank_permT bk b ts [(L, Cell.frame ρ)] R) ?_
    refine all_ok bk F G ((ha.deeper _).less (by lia)) hw hd hop hl fun ts' h1 h2 h3 h4 h5 => ?_
    exact ⟨_, (bank_permT bk b ts' [(L, Cell.frame ρ)] R).symm, _, List.sublist_cons_self _ _, q ts' h1 h2 h3 h4 h5⟩
end
end
section
set_option maxHeartbeats 2000000
section
variable {prog : Program} {w : World} {W : Gd} {A : Around} {X : Value → PH → Shared → Prop} {S R : Sig} {env : Env} {Q : D → Sig → Prop}
theorem Ev.slfML (bk : Bk W) {name : Str} {j : Nat} (mt : Mt bk.K name j) {b : BA} {L : Addr} {ρ : Str → Option D} {p apos pos : Pos} {args : List Expr} (hs : ρ "self" = some (.raw (.ref b.x))) (m1 : (b.x, insC bk.K.C b.x b.dx) ∈ (L, Cell.frame ρ) :: S) (m2 : (b.dx, nsC (mAB b)) ∈ (L, Cell.frame ρ) :: S) (hv : mAB b name = none)
    (h : EvArgs (model prog w) W A env pos args ((L, .frame ρ) :: S) X fun ds S₂ => OpL (model prog w) W A (fun vs => PySem.call (.ref mt.a) vs) RepV (.raw (.ref b.x) :: ds) S₂ X Q)
    (hB : typeLookup (.type "object") name = pure none := by rw [typeLookup_type, builtinLookup_eq_fast]; kernel_rfl)
    (hL : env.locals = L := by rfl) (hk : env.scope.kind = .function := by rfl) (hl : env.kindOf "self" = some .local := by rfl)
    (hbase : attributeBase (.Name "self" p) name env (eval (.Name "self" p) env) = eval (.Name "self" p) env := by rfl)
    (hfew : ((backTo pos (starEach args env)).all (fun x => !x.1) && (backToKw pos (keywordEach [] env)).all (fun x => x.1.isSome)
      && decide (args.length + ([] : List Keyword).length + (if ([] : List Keyword).isEmpty then 0 else 1) < 30)) = true := by rfl)
    (hline : (apos.endLine == pos.line) = true := by rfl) (hp : (backTo pos (starEach args env)).any (·.1) = false := by rfl) :
    Ev (model prog w) W A env (.Call (.Attribute (.Name "self" p) name apos) args [] pos) ((L, .frame ρ) :: S) X Q :=
  Ev.methI bk.K mt.m mt.f mt.c (Ev.nameL hs ⟨b.x, b.dx, mAB b, rfl, m1, m2, hv, h⟩ hL hk hl) hB hbase hfew hline hp
theorem Ev.dicI {K : Type} [DecidableEq K] (knd : KeyKind prog w K) {toD : K → D} (hk : ∀ k, IsK knd (toD k) k) {keys : List (Option Expr)} {values : List Expr} {pos : Pos} {pairs : List (Sem Value × Sem Value)}
    (hshape : (evalEachOpt keys env).zip ((evalEach values env).map fun v => do let x ← v; standAt pos; pure x) = pairs.map fun p => (some p.1, p.2)) (h0 : pairs ≠ []) (hlen : pairs.length ≤ 15)
    (h : ∀ a, Prs (model prog w) W A pairs (ins1 (a, .any (DKV knd [])) S) X fun ds S₁ => ∃ i m, S₁[i]? = some (a, .any (DKV knd [])) ∧ ds = m.map (fun p => (toD p.1, p.2)) ∧ Q (.raw (.ref a)) (S₁.set i (a, .any (DKV knd (stoAll [] m))))) :
    Ev (model prog w) W A env (.Dict keys values pos) S X Q := Ev.dic knd hk hshape h0 hlen fun a => TX.perm (ins1_perm _ _) (h a)

theorem Ev.dic1 {K : Type} [DecidableEq K] (knd : KeyKind prog w K) {toD : K → D} (hk : ∀ k, IsK knd (toD k) k) {ek ev : Expr} {pos : Pos}
    (h : ∀ a, Ev (model prog w) W A env ek (ins1 (a, .any (DKV knd [])) S) X fun dk S₁ => Ev (model prog w) W A env ev S₁ X fun dv S₂ => ∃ i k, S₂[i]? = some (a, .any (DKV knd [])) ∧ dk = toD k ∧ Q (.raw (.ref a)) (S₂.set i (a, .any (DKV knd [(k, dv)])))) :
    Ev (model prog w) W A env (.Dict [some ek] [ev] pos) S X Q :=
  Ev.dicI knd hk (pairs := [(eval ek env, (do let x ← eval ev env; standAt pos; pure x))]) rfl (by simp) (by simp) fun a => Prs.cons (TX.mono (h a) fun dk S₁ h₁ => TX.mono h₁ fun dv S₂ hh1 => (by obtain ⟨i, k, hi, hdk, q⟩ := hh1; exact Prs.nil ⟨i, [(k, dv)], hi, by rw [hdk]; rfl, q⟩))
theorem notIn_of_in {M : Model} {E : Value → Shared → Prop} {s : Shared} {a b : Value} {Q : Value → Shared → Prop} (h : wpAny M A (compareOp .In a b) (fun v s => ∃ c, v = .bool c ∧ Q (.bool !c) s) E s) : wpAny M A (compareOp .NotIn a b) Q E s := by
  have h1 : wpAny M A (contains b a >>= fun c => pure (Value.bool c)) (fun v s => ∃ c, v = .bool c ∧ Q (.bool !c) s) E s := h
  show wpAny M A (contains b a >>= fun c => pure (Value.bool !c)) Q E s
  intro Γ p hΓ
  have h2 := h1 Γ p hΓ
  rw [Sem.wp_bind'] at h2 ⊢
  refine Sem.wp_mono M Γ _ (fun c p' s' x => ?_) (fun _ _ _ x => x) p s h2
  obtain ⟨c', e, q⟩ := x
  cases e
  exact q
theorem Op2.notin_dic {K : Type} [DecidableEq K] {knd : KeyKind prog w K} (sm : SMod W) {a : Addr} {l : List (K × D)} {d : D} {k : K} (hm : (a, .any (DKV knd l)) ∈ S) (hk : IsK knd d k) (q : Q (.bool !(lk l k).isSome) S) :
    Op2 (model prog w) W A (compareOp .NotIn) RepV d (.raw (.ref a)) S X Q := fun s B v u y r₁ r₂ => by
  refine notIn_of_in (wpAny_mono (Op2.in_dic (prog := prog) (w := w) (A := A) (X := X) (Q := fun d S' => d = .bool (lk l k).isSome ∧ S' = S) sm hm hk ⟨rfl, rfl⟩ s B v u y r₁ r₂) (fun v s' hh2 => ?_) fun _ _ p => p)
  obtain ⟨B', d, S', l', y', r', hd, hS⟩ := hh2
  subst hd hS
  dsimp only [RepV, Rep] at r'
  exact ⟨_, r', B', _, _, l', y', rep_bool _, q⟩
/-- the keys told -/
noncomputable abbrev trueL (K : List Int) : List (Int × D) := K.map fun k => (k, D.bool true)
theorem lk_true {K : List Int} {k : Int} : (lk (trueL K) k).isSome = decide (k ∈ K) := by
  induction K with
  | nil => simp [lk]
  | cons a K ih =>
    by_cases h : a = k
    · subst h; simp [lk]
    · have h' : ¬ k = a := fun e => h e.symm
      simp only [lk, trueL, List.map_cons, List.find?_cons, decide_eq_false h, List.mem_cons, h', false_or] at ih ⊢
      exact ih
theorem trueL_keys : ∀ K : List Int, (trueL K).map (·.1) = K
  | [] => rfl
  | a :: K => congrArg (a :: ·) (trueL_keys K)
theorem nodup_lt {K : List Int} {N : Nat} (hn : K.Nodup) (h : ∀ k ∈ K, 0 ≤ k ∧ k < (N : Int)) : K.length ≤ N := by
  have h1 : (K.map Int.toNat).Nodup := by
    rw [List.nodup_iff_pairwise_ne, List.pairwise_map]
    refine List.Pairwise.imp_of_mem (fun {a b} ha hb hab e => ?_) (List.nodup_iff_pairwise_ne.mp hn)
    exact hab ((Int.toNat_of_nonneg (h a ha).1).symm.trans ((congrArg Nat.cast e).trans (Int.toNat_of_nonneg (h b hb).1)))
  have h2 : K.map Int.toNat ⊆ List.range N := fun x hx => by
    obtain ⟨k, hk, rfl⟩ := List.mem_map.mp hx
    have := h k hk
    rw [List.mem_range]
    exact (Int.toNat_lt this.1).mpr this.2
  have h3 : ∀ (l l' : List Nat), l.Nodup → l ⊆ l' → l.length ≤ l'.length := by
    intro l
    induction l with
    | nil => intro l' _ _; simp
    | cons a l ih =>
      intro l' hn hs
      rw [List.nodup_cons] at hn
      have ha : a ∈ l' := hs (.head _)
      have := ih (l'.erase a) hn.2 fun x hx => (List.mem_erase_of_ne (fun e => hn.1 (by rw [← e]; exact hx))).mpr (hs (.tail _ hx))
      rw [List.length_erase_of_mem ha] at this
      have : 0 < l'.length := List.length_pos_of_mem ha
      dsimp only [List.length_cons]
      lia
  have := h3 _ _ h1 h2
  rwa [List.length_map, List.length_range] at this

theorem term_ok' (bk : Bk W) (F : Fx W) (ha : Ar A 4) {b : BA} {ts : List T} (hw : Wf ts) (hl : ts.length ≤ 60) {i : Nat} {t : T} (hi : ts[i]? = some t) (hks : ∀ t ∈ ts, t.kids.length ≤ 1000)
    (q : Q t.term (bankT prog w bk.K b ts R)) :
    OpL (model prog w) W A (fun vs => call (.ref bk.term.a) vs) RepV [.raw (.ref b.x), .int i] (bankT prog w bk.K b ts R) X Q := by
  have hh : ∀ env, (A.deeper env).handled = none := fun _ => ha.hh
  have hilt := (List.getElem?_eq_some_iff.mp hi).1
  refine Op.fnC bk.term.f ha.room ["self", "n"] ?_ rfl (by decide) ?_ fun L qual cd => ?_
  · exact fun name qual doc pm an cdv ct => vs2 fun a b => rfl
  · intro x hx
    simp only [List.mem_cons, List.not_mem_nil, or_false] at hx
    rcases hx with rfl | rfl
    · exact .inl (by decide)
    · exact .inl (by decide)
  show Exs _ _ _ _ _ ((L, .frame (bindLD (kindS (scopeS (metS 9 10))) ((["self", "n"] : List Str).zip [.raw (.ref b.x), .int i]) fun _ => none)) :: (L + 1, .cell none) :: bankT prog w bk.K b ts R) _ _
  generalize hρ : bindLD (kindS (scopeS (metS 9 10))) ((["self", "n"] : List Str).zip [.raw (.ref b.x), .int i]) (fun _ => none) = ρ₀
  have hs0 : ρ₀ "self" = some (.raw (.ref b.x)) := by rw [← hρ]; rfl
  have hn0 : ρ₀ "n" = some (.int i) := by rw [← hρ]; rfl
  clear hρ
  refine Exs.cons (Ex.assignS2 (x1 := "below") (x2 := "stack") (hh _) ?_)
  repeat frow_left
  refine Ev.dic1 (intKind prog w) (toD := D.int) isK_int fun d => ?_
  repeat frow_left
  refine ⟨1, (i : Int), rfl, rfl, ?_⟩
  repeat frow_left
  refine Ev.lstM ?_
  repeat frow_left
  refine ⟨len1, fun s => ?_⟩
  repeat frow_left
  refine ⟨len2, _, _, rfl, ?_⟩
  refine StoN.loc ?_
  refine StoN.loc ?_
  let st (ρ : Str → Option D) (stk : List Int) (K : List Int) : Sig := (L, .frame ρ) :: (s, .list (stk.map D.int)) :: (d, .any (DKV (intKind prog w) (trueL K))) :: (L + 1, .cell none) :: bankT prog w bk.K b ts R
  have kidsIn : ∀ {k : Int} {u : T}, ts[k.toNat]? = some u → ∀ v ∈ u.kids, ((ix ts v : Nat) : Int) < k ∧ ts[ix ts v]? = some v := fun {k u} hu v hv => by
    obtain ⟨j, hj, hjv⟩ := hw.kids _ _ hu v hv
    have := ix_nodup hw.nodup hjv
    rw [this]
    exact ⟨by lia, hjv⟩
  refine Exs.cons ?_
  let Iv18 : Nat → Sig → Prop := fun m S' => ∃ ρ stk K, S' = st ρ stk K ∧ ρ "self" = some (.raw (.ref b.x)) ∧ ρ "n" = some (.int i) ∧ ρ "below" = some (.raw (.ref d)) ∧ ρ "stack" = some (.raw (.ref s)) ∧ K.Nodup ∧ (∀ k ∈ K, 0 ≤ k ∧ k < (ts.length : Int)) ∧ (i : Int) ∈ K ∧ (∀ k ∈ stk, k ∈ K) ∧ (∀ k ∈ K, k ∈ stk ∨ ∀ u, ts[k.toNat]? = some u → ∀ v ∈ u.kids, ((ix ts v : Nat) : Int) ∈ K) ∧ 2 * (ts.length - K.length) + stk.length ≤ m ∧ m ≤ 200
  refine Ex.while_ (I := Iv18) ?_ ?_ XF.passes
  · refine ⟨2 * (ts.length - 1) + 1, _, [(i : Int)], [(i : Int)], rfl, ?_, ?_, ?_, ?_, by simp, ?_, by simp, fun k hk => hk, fun k hk => .inl hk, Nat.le_refl _, by lia⟩
    · fold_side6M
    · fold_side6M
    · fold_side6M
    · fold_side6M
    · intro k hk
      rw [List.mem_singleton] at hk
      lia
  · refine hide2 fun Pg hPg => ?_
    intro m S' hIv
    obtain ⟨ρ, stk, K, rfl, hs, hn, hbl, hst, hnd, hK, hiK, hsub, hcl, hm, hm2⟩ := hIv
    have hKl := nodup_lt hnd hK
    refine hPg _ _ ?_
    repeat frow_left
    refine Op.len_raw (l := stk.map D.int) (List.mem_of_getElem? (i := 1) rfl) (by rw [List.length_map]; unfold sizeLine; lia) ?_
    rw [List.length_map]
    repeat frow_left
    refine iteB (fun h0 => ?_) fun h0 => ?_
    · obtain ⟨stk', x, rfl⟩ : ∃ l x, stk = l ++ [x] := by
        rcases List.eq_nil_or_concat stk with rfl | ⟨l, x, rfl⟩
        · exact absurd h0 (by simp)
        · exact ⟨l, x, by rw [List.concat_eq_append]⟩
      have hxK := hK x (hsub x (by simp))
      obtain ⟨x', rfl⟩ : ∃ n : Nat, x = n := ⟨x.toNat, by lia⟩
      obtain ⟨u, hu⟩ : ∃ u, ts[x']? = some u := ⟨_, List.getElem?_eq_getElem (by lia)⟩
      have hum := List.mem_of_getElem? hu
      rw [List.map_append]
      let Iv19 : List D → Sig → Prop := fun rest S' => ∃ (ρ : Str → Option D) (stk K : List Int) (dn us : List T), u.kids = dn ++ us ∧ rest = us.map (fun v => D.int ((ix ts v : Nat) : Int)) ∧ S' = st ρ stk K ∧ ρ "self" = some (.raw (.ref b.x)) ∧ ρ "n" = some (.int i) ∧ ρ "below" = some (.raw (.ref d)) ∧ ρ "stack" = some (.raw (.ref s)) ∧ K.Nodup ∧ (∀ k ∈ K, 0 ≤ k ∧ k < (ts.length : Int)) ∧ (i : Int) ∈ K ∧ (∀ k ∈ stk, k ∈ K) ∧ (∀ k ∈ K, k ∈ stk ∨ k = x' ∨ ∀ u, ts[k.toNat]? = some u → ∀ v ∈ u.kids, ((ix ts v : Nat) : Int) ∈ K) ∧ (∀ v ∈ dn, ((ix ts v : Nat) : Int) ∈ K) ∧ 2 * (ts.length - K.length) + stk.length < m
      refine Exs.cons (Ex.for_ (I := Iv19) ?_ ?_ ?_ XF.passes)
      · refine Ev.slfML bk bk.kids hs (List.mem_of_getElem? (i := 4) rfl) (List.mem_of_getElem? (i := 5) rfl) rfl ?_
        repeat frow_left
        refine Me.pop (i := 1) (l := stk'.map D.int) (d := .int x') rfl (by rw [List.length_map]; simp only [List.length_append, List.length_cons, List.length_nil] at hm; unfold sizeLine; lia) ?_
        repeat frow_left
        refine OpL.perm2 (S₂ := bankT prog w bk.K b ts ([(L, Cell.frame ρ), (s, Cell.list (stk'.map D.int)), (d, Cell.any (DKV (intKind prog w) (trueL K))), (L + 1, Cell.cell none)] ++ R)) (bank_permT bk b ts [(L, Cell.frame ρ), (s, Cell.list (stk'.map D.int)), (d, Cell.any (DKV (intKind prog w) (trueL K))), (L + 1, Cell.cell none)] R) ?_
        refine kids_ok bk ((ha.deeper _).less (by lia)) hu (by lia) (hks u hum) ?_
        refine ⟨_, (bank_permT bk b ts [(L, Cell.frame ρ), (s, Cell.list (stk'.map D.int)), (d, Cell.any (DKV (intKind prog w) (trueL K))), (L + 1, Cell.cell none)] R).symm, ?_⟩
        refine ItW.tup (hh _) ?_
        refine ⟨ρ, stk', K, [], u.kids, rfl, rfl, rfl, hs, hn, hbl, hst, hnd, hK, hiK, fun k hk => hsub k (by simp [hk]), fun k hk => ?_, fun v hv => (by cases hv), ?_⟩
        · rcases hcl k hk with h | h
          · rcases List.mem_append.mp h with h | h
            · exact .inl h
            · rw [List.mem_singleton] at h; exact .inr (.inl h)
          · exact .inr (.inr h)
        · simp only [List.length_append, List.length_cons, List.length_nil] at hm
          lia
      · refine hide4 fun Pg hPg => ?_
        intro dd rest S' F₀ hIv
        obtain ⟨ρ, stk, K, dn, us, hsp, hr, rfl, hs, hn, hbl, hst, hnd, hK, hiK, hsub, hcl, hdn, hm⟩ := hIv
        cases us with
        | nil => cases hr
        | cons v us =>
        simp only [List.map_cons, List.cons.injEq] at hr
        obtain ⟨rfl, rfl⟩ := hr
        have hvk : v ∈ u.kids := by rw [hsp]; simp
        have hKl := nodup_lt hnd hK
        obtain ⟨hvx, hvt⟩ := kidsIn (k := x') (u := u) (by simpa using hu) v hvk
        have hvl := (List.getElem?_eq_some_iff.mp hvt).1
        refine hPg _ _ _ _ ?_
        repeat frow_left
        refine Op2.notin_dic bk.sm (List.mem_of_getElem? (i := 2) rfl) (isK_int _) ?_
        rw [lk_true]
        refine ⟨_, rfl, ?_⟩
        refine iteN (fun hin => ?_) fun hin => ?_
        · repeat frow_left
          refine ⟨st _ stk K, rfl, _, stk, K, dn ++ [v], us, by rw [hsp]; simp, rfl, rfl, (upd_ne _ _ (by decide)).trans hs, (upd_ne _ _ (by decide)).trans hn, (upd_ne _ _ (by decide)).trans hbl, (upd_ne _ _ (by decide)).trans hst, hnd, hK, hiK, hsub, hcl, fun z hz => ?_, hm⟩
          rcases List.mem_append.mp hz with hz | hz
          · exact hdn z hz
          · rw [List.mem_singleton] at hz; subst hz; exact hin
        · have hKl2 : (((ix ts v : Nat) : Int) :: K).length ≤ ts.length := nodup_lt (List.nodup_cons.mpr ⟨hin, hnd⟩) fun k hk => by
            rcases List.mem_cons.mp hk with rfl | hk
            · lia
            · exact hK k hk
          repeat frow_left
          have hlk : lk (trueL K) ((ix ts v : Nat) : Int) = none := by
            cases z : lk (trueL K) ((ix ts v : Nat) : Int) with
            | none => rfl
            | some e =>
              have := lk_true (K := K) (k := ((ix ts v : Nat) : Int))
              rw [z, decide_eq_false hin] at this
              cases this
          refine Op3.setitem_dic (j := 2) rfl (isK_int _) (by rw [List.length_map]; unfold sizeLine; lia) ?_
          rw [sto_new hlk, show trueL K ++ [(((ix ts v : Nat) : Int), D.bool true)] = trueL (K ++ [((ix ts v : Nat) : Int)]) by unfold trueL; rw [List.map_append]; rfl]
          repeat frow_left
          refine Me.append (l := stk.map D.int) (List.mem_of_getElem? (i := 1) rfl) ?_
          repeat frow_left
          refine ⟨1, stk.map D.int, rfl, by rw [List.length_map]; unfold sizeLine; lia, rfl, ?_⟩
          rw [show stk.map D.int ++ [D.int ((ix ts v : Nat) : Int)] = (stk ++ [((ix ts v : Nat) : Int)]).map D.int by rw [List.map_append]; rfl]
          repeat frow_left
          dsimp only [List.length_cons] at hKl2
          refine ⟨st _ (stk ++ [((ix ts v : Nat) : Int)]) (K ++ [((ix ts v : Nat) : Int)]), rfl, _, _, _, dn ++ [v], us, by rw [hsp]; simp, rfl, rfl, (upd_ne _ _ (by decide)).trans hs, (upd_ne _ _ (by decide)).trans hn, (upd_ne _ _ (by decide)).trans hbl, (upd_ne _ _ (by decide)).trans hst, ?_, ?_, ?_, ?_, ?_, ?_, ?_⟩
          · rw [List.nodup_append]
            refine ⟨hnd, by simp, fun a ha c hc e => ?_⟩
            rw [List.mem_singleton] at hc
            subst hc e
            exact hin ha
          · intro k hk
            rcases List.mem_append.mp hk with hk | hk
            · exact hK k hk
            · rw [List.mem_singleton] at hk; lia
          · exact List.mem_append_left _ hiK
          · intro k hk
            rcases List.mem_append.mp hk with hk | hk
            · exact List.mem_append_left _ (hsub k hk)
            · exact List.mem_append_right _ hk
          · intro k hk
            rcases List.mem_append.mp hk with hk | hk
            · rcases hcl k hk with h | h | h
              · exact .inl (List.mem_append_left _ h)
              · exact .inr (.inl h)
              · exact .inr (.inr fun u' hu' v' hv' => List.mem_append_left _ (h u' hu' v' hv'))
            · exact .inl (List.mem_append_right _ hk)
          · intro z hz
            rcases List.mem_append.mp hz with hz | hz
            · exact List.mem_append_left _ (hdn z hz)
            · rw [List.mem_singleton] at hz; subst hz; simp
          · simp only [List.length_append, List.length_cons, List.length_nil]
            lia
      · refine hide1 fun Pg hPg => ?_
        intro S' hIv
        obtain ⟨ρ, stk, K, dn, us, hsp, hr, rfl, hs, hn, hbl, hst, hnd, hK, hiK, hsub, hcl, hdn, hm⟩ := hIv
        cases us with
        | cons v us => cases hr
        | nil =>
        rw [List.append_nil] at hsp
        refine hPg _ ?_
        repeat frow_left
        refine ⟨_, hm, _, stk, K, rfl, hs, hn, hbl, hst, hnd, hK, hiK, hsub, fun k hk => ?_, Nat.le_refl _, by lia⟩
        rcases hcl k hk with h | rfl | h
        · exact .inl h
        · refine .inr fun u' hu' v hv => ?_
          rw [Int.toNat_natCast, hu] at hu'
          cases hu'
          exact hdn v (hsp ▸ hv)
        · exact .inr h
    · have hnil : stk = [] := List.eq_nil_of_length_eq_zero (by lia)
      subst hnil
      have hclK : ∀ k ∈ K, ∀ u, ts[k.toNat]? = some u → ∀ v ∈ u.kids, ((ix ts v : Nat) : Int) ∈ K := fun k hk => (hcl k hk).resolve_left (by simp)
      refine Exs.nil ?_
      refine Exs.cons (Ex.assign (Ev.dic0 (DKV (intKind prog w) []) (dkv_new _) fun mm => ?_))
      refine StoN.cell (i := 4) (c := L + 1) rfl rfl ?_
      show Exs _ _ _ _ _ ((L, .frame ρ) :: (mm, .any (DKV (intKind prog w) [])) :: (s, .list []) :: (d, .any (DKV (intKind prog w) (trueL K))) :: (L + 1, .cell (some (.raw (.ref mm)))) :: bankT prog w bk.K b ts R) _ _
      let st2 (ρ : Str → Option D) (ml : List (Int × D)) : Sig := (L, .frame ρ) :: (mm, .any (DKV (intKind prog w) ml)) :: (s, .list []) :: (d, .any (DKV (intKind prog w) (trueL K))) :: (L + 1, .cell (some (.raw (.ref mm)))) :: bankT prog w bk.K b ts R
      let Iv20 : List D → Sig → Prop := fun rest S' => ∃ (ρ : Str → Option D) (dn ns : List Int) (ml : List (Int × D)), (dn ++ ns).Perm K ∧ (dn ++ ns).Pairwise (· ≤ ·) ∧ rest = ns.map D.int ∧ S' = st2 ρ ml ∧ ρ "self" = some (.raw (.ref b.x)) ∧ ρ "n" = some (.int i) ∧ (∀ k ∈ dn, ∀ u, ts[k.toNat]? = some u → lk ml k = some u.term) ∧ ml.length ≤ dn.length
      refine Exs.cons (Ex.for_ (I := Iv20) ?_ ?_ ?_ XF.passes)
      · repeat frow_left
        refine Op.sorted_dic bk.sm (hh _) (l := trueL K) (List.mem_of_getElem? (i := 3) rfl) (by rw [List.length_map]; lia) fun ns hp hs' => ?_
        refine ItW.lst (hh _) ?_
        rw [trueL_keys K] at hp
        exact ⟨ρ, [], ns, [], hp, hs', rfl, rfl, hs, hn, fun k hk => (by cases hk), Nat.le_refl _⟩
      · refine hide4 fun Pg hPg => ?_
        intro dd rest S' F₀ hIv
        obtain ⟨ρ, dn, ns, ml, hp, hpw, hr, rfl, hs, hn, hml, hmll⟩ := hIv
        cases ns with
        | nil => cases hr
        | cons k ns =>
        simp only [List.map_cons, List.cons.injEq] at hr
        obtain ⟨rfl, rfl⟩ := hr
        have hkK : k ∈ K := hp.mem_iff.mp (by simp)
        have hkb := hK k hkK
        have hlenK := hp.length_eq
        simp only [List.length_append, List.length_cons] at hlenK
        obtain ⟨k', rfl⟩ : ∃ n : Nat, k = n := ⟨k.toNat, by lia⟩
        obtain ⟨u, hu⟩ : ∃ u, ts[k']? = some u := ⟨_, List.getElem?_eq_getElem (by lia)⟩
        have hum := List.mem_of_getElem? hu
        have hkl := hks u hum
        have hdone : ∀ v ∈ u.kids, lk ml ((ix ts v : Nat) : Int) = some v.term := fun v hv => by
          obtain ⟨h1, h2⟩ := kidsIn (k := k') (u := u) (by simpa using hu) v hv
          have h3 := hp.mem_iff.mpr (hclK _ hkK u (by simpa using hu) v hv)
          refine hml _ ?_ v (by rw [Int.toNat_natCast]; exact h2)
          rcases List.mem_append.mp h3 with h3 | h3
          · exact h3
          · exfalso
            rw [List.pairwise_append, List.pairwise_cons] at hpw
            rcases List.mem_cons.mp h3 with h3 | h3
            · lia
            · have := hpw.2.1.1 _ h3
              lia
        refine hPg _ _ _ _ ?_
        refine Sto.name (StoN.loc ?_)
        refine Exs.cons (Ex.setitem ?_)
        refine Ev.bin ?_
        refine Ev.tup ?_
        refine EvArgs.cons ?_
        refine Ev.slfML bk bk.op ((upd_ne _ _ (by decide)).trans hs) (List.mem_of_getElem? (i := 5) rfl) (List.mem_of_getElem? (i := 6) rfl) rfl ?_
        repeat frow_left
        refine OpL.perm2 (S₂ := bankT prog w bk.K b ts ([(L, Cell.frame (upd ρ "k" (.int k'))), (mm, Cell.any (DKV (intKind prog w) ml)), (s, Cell.list []), (d, Cell.any (DKV (intKind prog w) (trueL K))), (L + 1, Cell.cell (some (D.raw (.ref mm))))] ++ (R ++ F₀))) (bank_permT bk b ts [(L, Cell.frame (upd ρ "k" (.int k'))), (mm, Cell.any (DKV (intKind prog w) ml)), (s, Cell.list []), (d, Cell.any (DKV (intKind prog w) (trueL K))), (L + 1, Cell.cell (some (D.raw (.ref mm))))] (R ++ F₀)) ?_
        refine op_ok bk ((ha.deeper _).less (by lia)) hu (by lia) ?_
        refine ⟨_, (bank_permT bk b ts [(L, Cell.frame (upd ρ "k" (.int k'))), (mm, Cell.any (DKV (intKind prog w) ml)), (s, Cell.list []), (d, Cell.any (DKV (intKind prog w) (trueL K))), (L + 1, Cell.cell (some (D.raw (.ref mm))))] (R ++ F₀)).symm, ?_⟩
        repeat frow_left
        refine ⟨len1, ?_⟩
        repeat frow_left
        let Iv21 : List D → List D → Sig → Prop := fun rest acc S' => ∃ (d1 us : List T), u.kids = d1 ++ us ∧ rest = us.map (fun v => D.int ((ix ts v : Nat) : Int)) ∧ acc = d1.map T.term ∧ S' = (L, Cell.frame (upd ρ "k" (.int k'))) :: (mm, Cell.any (DKV (intKind prog w) ml)) :: (s, Cell.list []) :: (d, Cell.any (DKV (intKind prog w) (trueL K))) :: (L + 1, Cell.cell (some (D.raw (.ref mm)))) :: bankT prog w bk.K b ts (R ++ F₀)
        refine Ev.comp (cl := [("made", L + 1)]) (I := Iv21) ?_ ?_ ?_
        · refine Ev.slfML bk bk.kids ((upd_ne _ _ (by decide)).trans hs) (List.mem_of_getElem? (i := 5) rfl) (List.mem_of_getElem? (i := 6) rfl) rfl ?_
          repeat frow_left
          refine OpL.perm2 (S₂ := bankT prog w bk.K b ts ([(L, Cell.frame (upd ρ "k" (.int k'))), (mm, Cell.any (DKV (intKind prog w) ml)), (s, Cell.list []), (d, Cell.any (DKV (intKind prog w) (trueL K))), (L + 1, Cell.cell (some (D.raw (.ref mm))))] ++ (R ++ F₀))) (bank_permT bk b ts [(L, Cell.frame (upd ρ "k" (.int k'))), (mm, Cell.any (DKV (intKind prog w) ml)), (s, Cell.list []), (d, Cell.any (DKV (intKind prog w) (trueL K))), (L + 1, Cell.cell (some (D.raw (.ref mm))))] (R ++ F₀)) ?_
          refine kids_ok bk ((ha.deeper _).less (by lia)) hu (by lia) hkl ?_
          refine ⟨_, (bank_permT bk b ts [(L, Cell.frame (upd ρ "k" (.int k'))), (mm, Cell.any (DKV (intKind prog w) ml)), (s, Cell.list []), (d, Cell.any (DKV (intKind prog w) (trueL K))), (L + 1, Cell.cell (some (D.raw (.ref mm))))] (R ++ F₀)).symm, ?_⟩
          refine ItW.tup (hh _) ?_
          exact ⟨by rw [List.length_map]; unfold sizeLine; lia, [], u.kids, rfl, rfl, rfl, rfl⟩
        · refine hide7 fun Pg hPg => ?_
          intro C dd rest acc S' ρ' F₁ hIv
          obtain ⟨d1, us, hsp, hr, rfl, rfl⟩ := hIv
          cases us with
          | nil => cases hr
          | cons v us =>
          simp only [List.map_cons, List.cons.injEq] at hr
          obtain ⟨rfl, rfl⟩ := hr
          refine hPg _ _ _ _ _ _ _ ?_
          repeat frow_left
          refine Tests.nil ?_
          refine iteT ?_
          refine Ev.sub ?_
          refine Ev.nameC (c := L + 1) rfl (List.mem_of_getElem? (i := 5) rfl) ?_
          repeat frow_left
          refine Op2.item_dic (k := ((ix ts v : Nat) : Int)) (List.mem_of_getElem? (i := 2) rfl) (isK_int _) (hdone v (by rw [hsp]; simp)) ?_
          exact ⟨_, _, rfl, d1 ++ [v], us, by rw [hsp]; simp, rfl, by simp, rfl⟩
        refine hide2 fun Pg hPg => ?_
        intro acc S' hIv
        obtain ⟨d1, us, hsp, hr, rfl, rfl⟩ := hIv
        have h0 : us = [] := by
          cases us with
          | nil => rfl
          | cons _ _ => cases hr
        subst h0
        rw [List.append_nil] at hsp
        subst hsp
        refine hPg _ _ ?_
        repeat frow_left
        refine Op.tuple_lst (l := u.kids.map T.term) (by rw [List.length_map]; unfold sizeLine; lia) ?_
        refine Op2.tadd (by rw [List.length_map]; show 1 + _ ≤ _; unfold sizeLine; lia) ?_
        rw [show [D.str u.op] ++ u.kids.map T.term = D.str u.op :: u.kids.map T.term from rfl, ← term_eq]
        refine Ev.nameC (c := L + 1) rfl (List.mem_of_getElem? (i := 4) rfl) ?_
        repeat frow_left
        refine Op3.setitem_dic (j := 1) rfl (isK_int (k' : Int)) (by unfold sizeLine; lia) ?_
        repeat frow_left
        refine ⟨st2 _ (sto ml (k' : Int) u.term), rfl, _, dn ++ [(k' : Int)], ns, sto ml (k' : Int) u.term, by rw [List.append_assoc]; exact hp, by rw [List.append_assoc]; exact hpw, rfl, rfl, (upd_ne _ _ (by decide)).trans hs, (upd_ne _ _ (by decide)).trans hn, fun z hz u' hu' => ?_, ?_⟩
        · rw [lk_sto]
          by_cases e : (k' : Int) = z
          · rw [if_pos e]
            subst e
            rw [Int.toNat_natCast, hu] at hu'
            cases hu'
            rfl
          · rw [if_neg e]
            rcases List.mem_append.mp hz with hz | hz
            · exact hml z hz u' hu'
            · rw [List.mem_singleton] at hz; exact absurd hz.symm e
        · have := sto_length_le ml (k' : Int) u.term
          rw [List.length_append]
          show _ ≤ _ + 1
          lia
      · refine hide1 fun Pg hPg => ?_
        intro S' hIv
        obtain ⟨ρ, dn, ns, ml, hp, hpw, hr, rfl, hs, hn, hml, hmll⟩ := hIv
        cases ns with
        | cons k ns => cases hr
        | nil =>
        rw [List.append_nil] at hp
        refine hPg _ ?_
        repeat frow_left
        refine Ev.nameC (c := L + 1) rfl (List.mem_of_getElem? (i := 4) rfl) ?_
        repeat frow_left
        refine Op2.item_dic (k := (i : Int)) (List.mem_of_getElem? (i := 1) rfl) (isK_int _) (hml i (hp.mem_iff.mpr hiK) t (by rw [Int.toNat_natCast]; exact hi)) ?_
        exact ⟨_, (List.sublist_cons_self _ _).trans ((List.sublist_cons_self _ _).trans ((List.sublist_cons_self _ _).trans ((List.sublist_cons_self _ _).trans (List.sublist_cons_self _ _)))), q⟩
end
end
section
theorem law_op : ∀ o ∈ lawS, opOk o = true ∧ PyData.strOk o = true := by decide +kernel
theorem term_plain : ∀ (n : Nat) (t : T), t.depth ≤ n → lawT t → plain n t.term = true := by
  intro n
  induction n with
  | zero => intro t h; cases t; dsimp only [T.depth] at h; lia
  | succ n ih =>
    intro t h hl
    rw [term_eq]
    simp only [plain, List.all_cons, List.all_map, Bool.and_eq_true, List.all_eq_true]
    refine ⟨?_, fun u hu => ?_⟩
    · have := (law_op _ (hl t (mem_pre_self t))).2
      cases n <;> exact this
    · obtain ⟨k, hk⟩ := List.mem_iff_getElem?.mp hu
      have := depth_kid hk
      exact ih u (by lia) fun v hv => hl v (by rw [T.pre_cons]; exact .tail _ (preL_mem hu hv))
theorem lawT_kid {t u : T} (h : lawT t) (hu : u ∈ t.pre) : lawT u := fun v hv => h v (by
  have key : ∀ n (t u v : T), t.size ≤ n → u ∈ t.pre → v ∈ u.pre → v ∈ t.pre := by
    intro n
    induction n with
    | zero => intro t u v hn; have := t.size_pos; lia
    | succ n ih =>
      intro t u v hn hu hv
      rw [T.pre_cons] at hu ⊢
      rcases List.mem_cons.mp hu with rfl | hu
      · rw [T.pre_cons] at hv; exact hv
      · refine .tail _ ?_
        have key2 : ∀ l : List T, T.sizeL l ≤ n → u ∈ T.preL l → v ∈ T.preL l := by
          intro l
          induction l with
          | nil => intro _ h; simp [T.preL] at h
          | cons a l hi =>
            intro hs h
            dsimp only [T.sizeL] at hs
            simp only [T.preL, List.mem_append] at h ⊢
            rcases h with h | h
            · exact .inl (ih a u v (by lia) h hv)
            · exact .inr (hi (by lia) h)
        have := t.size_eq
        exact key2 _ (by lia) hu
  exact key _ t u v (Nat.le_refl _) hu hv)
theorem row_key {u : T} (h : lawT u) : keyish 2 (.tup (rowD u.row)) = true := by
  simp only [keyish, List.all_eq_true]
  intro d hd
  unfold rowD T.row T.rowOf at hd
  rw [List.map_map] at hd
  obtain ⟨v, hv, rfl⟩ := List.mem_map.mp hd
  have := (law_op _ (h v hv)).2
  simp [keyish, this]
theorem rowD_inj : ∀ {a b : List (Str × Nat)}, rowD a = rowD b → a = b
  | [], [], _ => rfl
  | [], _ :: _, h => by simp [rowD] at h
  | _ :: _, [], h => by simp [rowD] at h
  | (o, m) :: a, (p, k) :: b, h => by
    simp only [rowD, List.map_cons, List.cons.injEq, D.tup.injEq, D.str.injEq, D.int.injEq] at h
    obtain ⟨⟨rfl, h1, _⟩, h2⟩ := h
    rw [rowD_inj (a := a) (b := b) h2, show m = k by lia]
/-- as many unlike segments as unlike parts -/
theorem seg_count {t : T} {ts : List T} (hn : ts.Nodup) (hm : ∀ u, u ∈ ts ↔ u ∈ t.pre) : (setOf (t.pre.map fun u => D.tup (rowD u.row))).length = ts.length := by
  have h1 : (ts.map fun u => D.tup (rowD u.row)).Nodup := by
    rw [List.nodup_iff_pairwise_ne, List.pairwise_map]
    refine List.Pairwise.imp (fun {a b} hab e => hab ?_) (List.nodup_iff_pairwise_ne.mp hn)
    simp only [D.tup.injEq] at e
    exact row_inj (rowD_inj e)
  have h2 := (List.perm_ext_iff_of_nodup (setOf_nodup (t.pre.map fun u => D.tup (rowD u.row))) h1).mpr fun d => by
    rw [setOf_mem]
    simp only [List.mem_map]
    exact ⟨fun hh2 => (by obtain ⟨u, a, b⟩ := hh2; exact ⟨u, (hm u).mpr a, b⟩), fun hh1 => (by obtain ⟨u, a, b⟩ := hh1; exact ⟨u, (hm u).mp a, b⟩)⟩
  rw [h2.length_eq, List.length_map]
theorem find_mem : ∀ (p : List Nat) (t u : T), t.find p = some u → u ∈ t.pre
  | [], t, u, h => by
    simp only [T.find, Option.some.injEq] at h
    subst h
    exact mem_pre_self t
  | k :: r, t, u, h => by
    dsimp only [T.find] at h
    cases hk : t.kids[k]? with
    | none => rw [hk] at h; cases h
    | some v =>
      rw [hk] at h
      rw [T.pre_cons]
      exact .tail _ (preL_mem (List.mem_of_getElem? hk) (find_mem r v u h))
theorem seg_cut {t u : T} {i : Nat} (h : At t.pre i u) : cutD (rowD t.row) (some (i : Int)) (some ((i + u.size : Nat) : Int)) = rowD u.row := by
  have hb := h.bound
  rw [T.pre_len] at hb
  rw [cutD_run _ _ _ (by rw [rowD_len, row_len]; lia) (by rw [rowD_len, row_len]; lia)]
  have e : ∀ l : List (Str × Nat), (rowD l).drop i = rowD (l.drop i) := fun l => by unfold rowD; rw [List.map_drop]
  have e2 : ∀ (l : List (Str × Nat)) m, (rowD l).take m = rowD (l.take m) := fun l m => by unfold rowD; rw [List.map_take]
  rw [e, e2, show i + u.size - i = u.size by lia, h.seg]
end
section
set_option maxHeartbeats 2000000
theorem w_own (c : Addr) : (Code.builtin "type.__call__" ⟨[.ref c], []⟩).weight = 1 := by kernel_rfl
theorem u_own (c : Addr) : (Code.builtin "type.__call__" ⟨[.ref c], []⟩).cUnits = 1 := by kernel_rfl
theorem Ar.own {A : Around} {n : Nat} (h : Ar A (n + 1)) (c : Addr) : Ar (A.under (.builtin "type.__call__" ⟨[.ref c], []⟩)) n := by
  refine ⟨h.hh, ?_, ?_⟩
  · have := h.depth
    show A.depth + (Code.builtin "type.__call__" ⟨[.ref c], []⟩).weight + n < _
    rw [w_own]; lia
  · have := h.units
    show A.units + (Code.builtin "type.__call__" ⟨[.ref c], []⟩).cUnits + 8 * n + 200 < _
    rw [u_own]; lia
section
variable {prog : Program} {w : World} {W : Gd} {A : Around} {X : Value → PH → Shared → Prop} {S R : Sig} {env : Env} {Q : D → Sig → Prop}
theorem T.depth_le_size (t : T) : t.depth ≤ t.size := by
  have key : ∀ n (t : T), t.size ≤ n → t.depth ≤ t.size := by
    intro n
    induction n with
    | zero => intro t h; have := t.size_pos; lia
    | succ n ih =>
      intro t h
      cases t with
      | node o l =>
        dsimp only [T.size, T.depth] at h ⊢
        have k2 : ∀ l : List T, T.sizeL l ≤ n → T.depthL l ≤ T.sizeL l := by
          intro l
          induction l with
          | nil => intro _; simp [T.depthL]
          | cons a l hi =>
            intro hs
            dsimp only [T.sizeL, T.depthL] at hs ⊢
            have := ih a (by lia)
            have := hi (by lia)
            lia
        have := k2 l (by lia)
        lia
  exact key _ t (Nat.le_refl _)
theorem upN_len : ∀ (m i : Nat), (upN i m).length = m
  | 0, _ => rfl
  | m + 1, i => congrArg (· + 1) (upN_len m (i + 1))
theorem StoN.perm {x : Str} {d : D} {S₂ : Sig} {Q : Unit → Sig → Prop} (k : S.Perm S₂) (h : StoN (model prog w) W A env x d S₂ X Q) : StoN (model prog w) W A env x d S X Q := fun s B v y r => h s B v (y.perm k) r
/-- a method of the bank, the bank a local name -/
theorem Ev.bnk (bk : Bk W) {id name : Str} {j : Nat} (mt : Mt bk.K name j) {b : BA} {L : Addr} {ρ : Str → Option D} {p apos pos : Pos} {args : List Expr} (hs : ρ id = some (.raw (.ref b.x))) (m1 : (b.x, insC bk.K.C b.x b.dx) ∈ (L, Cell.frame ρ) :: S) (m2 : (b.dx, nsC (mAB b)) ∈ (L, Cell.frame ρ) :: S) (hv : mAB b name = none)
    (h : EvArgs (model prog w) W A env pos args ((L, .frame ρ) :: S) X fun ds S₂ => OpL (model prog w) W A (fun vs => PySem.call (.ref mt.a) vs) RepV (.raw (.ref b.x) :: ds) S₂ X Q)
    (hB : typeLookup (.type "object") name = pure none := by rw [typeLookup_type, builtinLookup_eq_fast]; kernel_rfl)
    (hL : env.locals = L := by rfl) (hk : env.scope.kind = .function := by rfl) (hl : env.kindOf id = some .local := by rfl)
    (hbase : attributeBase (.Name id p) name env (eval (.Name id p) env) = eval (.Name id p) env := by rfl)
    (hfew : ((backTo pos (starEach args env)).all (fun x => !x.1) && (backToKw pos (keywordEach [] env)).all (fun x => x.1.isSome)
      && decide (args.length + ([] : List Keyword).length + (if ([] : List Keyword).isEmpty then 0 else 1) < 30)) = true := by rfl)
    (hdb : (id == ("__debug__" : Str)) = false := by decide) (hline : (apos.endLine == pos.line) = true := by rfl) (hp : (backTo pos (starEach args env)).any (·.1) = false := by rfl) :
    Ev (model prog w) W A env (.Call (.Attribute (.Name id p) name apos) args [] pos) ((L, .frame ρ) :: S) X Q :=
  Ev.methI bk.K mt.m mt.f mt.c (Ev.nameL hs ⟨b.x, b.dx, mAB b, rfl, m1, m2, hv, h⟩ hL hk hl hdb) hB hbase hfew hline hp
theorem banked_ok (bk : Bk W) (F : Fx W) (G : Exf prog w W) {n : Nat} (ha : Ar A (n + 20)) {t : T} (hd : t.depth ≤ n) (hlt1 : lawT t) (ht : t.size ≤ 50) {Q : D → Sig → Prop} (q : Q (.bool true) S) :
    OpL (model prog w) W A (fun vs => call (.ref F.aBanked) vs) RepV [t.term, .lst (rowD t.row), .lst (natsD t.ends), .lst (waysD t.ways)] S XF Q := by
  have hh : ∀ env, (A.deeper env).handled = none := fun _ => ha.hh
  have hop : ∀ u ∈ t.pre, opOk u.op = true := fun u hu => (law_op _ (hlt1 u hu)).1
  refine Op.fnC F.fBanked ha.room ["whole", "row", "ends", "ways"] ?_ rfl (by decide) ?_ fun L qual cd => ?_
  · exact fun name qual doc pm an cdv ct => vs4 fun a b c d => rfl
  · intro x hx
    simp only [List.mem_cons, List.not_mem_nil, or_false] at hx
    rcases hx with rfl | rfl | rfl | rfl
    · exact .inl (by decide)
    · exact .inr ⟨by decide, fun n => by rfl⟩
    · exact .inr ⟨by decide, fun n => by rfl⟩
    · exact .inl (by decide)
  show Exs _ _ _ _ _ ((L, .frame (bindLD (kindS (scopeS (topS 19))) ((["whole", "row", "ends", "ways"] : List Str).zip [t.term, .lst (rowD t.row), .lst (natsD t.ends), .lst (waysD t.ways)]) fun _ => none)) :: (L + 2, .cell (some (.lst (natsD t.ends)))) :: (L + 1, .cell (some (.lst (rowD t.row)))) :: S) _ _
  generalize hρ : bindLD (kindS (scopeS (topS 19))) ((["whole", "row", "ends", "ways"] : List Str).zip [t.term, .lst (rowD t.row), .lst (natsD t.ends), .lst (waysD t.ways)]) (fun _ => none) = ρ
  have hwh : ρ "whole" = some t.term := by rw [← hρ]; rfl
  have hwy : ρ "ways" = some (.lst (waysD t.ways)) := by rw [← hρ]; rfl
  clear hρ
  refine Exs.cons (Ex.assign (Ev.call (Ev.nameG bk.K.gC (rep_raw _) ⟨_, rfl, Cw.own bk.K bk.init.m bk.init.c fun x dx => ?_⟩)))
  refine init_ok bk (((ha.deeper _).less (by lia) : Ar _ 2).own _) fun b hb => ?_
  refine ⟨rfl, ?_⟩
  subst hb
  let st (ρ : Str → Option D) (ts : List T) (R : Sig) : Sig := (L, .frame ρ) :: (L + 2, .cell (some (.lst (natsD t.ends)))) :: (L + 1, .cell (some (.lst (rowD t.row)))) :: bankT prog w bk.K b ts R
  have pf : ∀ (ρ : Str → Option D) (ts : List T) (R : Sig), (st ρ ts R).Perm (bankT prog w bk.K b ts ([(L, Cell.frame ρ), (L + 2, .cell (some (.lst (natsD t.ends)))), (L + 1, .cell (some (.lst (rowD t.row))))] ++ R)) := fun ρ ts R => bank_permT bk b ts [(L, Cell.frame ρ), (L + 2, .cell (some (.lst (natsD t.ends)))), (L + 1, .cell (some (.lst (rowD t.row))))] R
  refine StoN.perm (pf ρ [] S).symm ?_
  refine StoN.loc ?_
  have hwh' : (upd ρ "bank" (.raw (.ref b.x))) "whole" = some t.term := (upd_ne _ _ (by decide)).trans hwh
  refine Exs.cons (Ex.assign (Ev.bnk bk bk.put (upd_same _ _ _) (List.mem_of_getElem? (i := 3) rfl) (List.mem_of_getElem? (i := 4) rfl) rfl ?_))
  repeat frow_left
  refine OpL.perm2 (pf _ [] S) ?_
  refine put_ok bk F G ((ha.deeper _).less (by lia)) Wf.nil hd hop (by simp; lia) fun ts hw _ htm hmem hlen => ?_
  refine ⟨_, (pf _ ts S).symm, ?_⟩
  simp only [List.length_nil, Nat.zero_add, List.not_mem_nil, false_or] at hmem hlen
  refine StoN.loc ?_
  generalize hρ1 : upd (upd ρ "bank" (.raw (.ref b.x))) "top" (.int ((ix ts t : Nat) : Int)) = ρ1
  have h1b : ρ1 "bank" = some (.raw (.ref b.x)) := by rw [← hρ1]; exact (upd_ne _ _ (by decide)).trans (upd_same _ _ _)
  have h1t : ρ1 "top" = some (.int ((ix ts t : Nat) : Int)) := by rw [← hρ1]; exact upd_same _ _ _
  have h1w : ρ1 "ways" = some (.lst (waysD t.ways)) := by rw [← hρ1]; exact (upd_ne _ _ (by decide)).trans ((upd_ne _ _ (by decide)).trans hwy)
  clear hρ1 hwh'
  have hsz : (rowD t.row).length = t.size := by rw [rowD_len, row_len]
  refine Exs.cons (Ex.iff (Te.cmp ?_))
  refine Ev.bnk bk bk.size h1b (List.mem_of_getElem? (i := 3) rfl) (List.mem_of_getElem? (i := 4) rfl) rfl ?_
  refine EvArgs.nil ?_
  refine OpL.perm2 (pf _ ts S) ?_
  refine size_ok bk F ((ha.deeper _).less (by lia)) (by lia) ?_
  refine ⟨_, (pf _ ts S).symm, ?_⟩
  refine Ev.callB (F.nB _ (by decide)) rfl ?_
  refine EvArgs.cons ?_
  refine Ev.callT (F.nB _ (by decide)) rfl ?_
  refine EvArgs.cons ?_
  let Iv22 : List D → List D → Sig → Prop := fun rest acc S' => ∃ k m : Nat, rest = upN k m ∧ k + m = t.size ∧ acc = (t.pre.take k).map (fun u => D.tup (rowD u.row)) ∧ S' = st ρ1 ts S
  refine Ev.comp (cl := [("row", L + 1), ("ends", L + 2)]) (I := Iv22) ?_ ?_ ?_
  · repeat frow_left
    refine Ev.nameC (c := L + 1) rfl (List.mem_of_getElem? (i := 2) rfl) ?_
    repeat frow_left
    refine Op.len_lst (by rw [hsz]; unfold sizeLine; lia) ?_
    repeat frow_left
    refine ItW.up (hh _) (by rw [hsz]; unfold sizeLine; lia) ?_
    exact ⟨by rw [upN_len, hsz]; unfold sizeLine; lia, 0, t.size, by rw [hsz], by lia, rfl, rfl⟩
  · refine hide7 fun Pg hPg => ?_
    intro C dd rest acc S' ρ' F₁ hIv
    obtain ⟨k, m, hr, hkm, rfl, rfl⟩ := hIv
    obtain ⟨m', rfl, rfl, rfl⟩ := upN_cons hr
    obtain ⟨p, u, hall, hway, hat, hpos, hfind⟩ := all_get (t := t) (j := k) (by lia)
    refine hPg _ _ _ _ _ _ _ ?_
    refine Sto.name (StoN.loc ?_)
    refine Tests.nil ?_
    refine iteT ?_
    repeat frow_left
    refine Ev.nameC (c := L + 1) rfl (List.mem_of_getElem? (i := 3) rfl) ?_
    repeat frow_left
    refine ⟨_, rfl, ?_⟩
    refine EvO.some ?_
    refine Ev.sub ?_
    refine Ev.nameC (c := L + 2) rfl (List.mem_of_getElem? (i := 2) rfl) ?_
    repeat frow_left
    refine Op2.item_lst (by lia) (by lia) (natsD_get hat.ends) ?_
    refine ⟨_, rfl, ?_⟩
    refine OpS.lst (by rw [hsz]; unfold sizeLine; lia) ?_
    rw [seg_cut hat]
    repeat frow_left
    have hsu : u.size ≤ t.size := by have := hat.bound; rw [T.pre_len] at this; lia
    refine Op.tuple_lst (by rw [rowD_len, row_len]; unfold sizeLine; lia) ?_
    refine ⟨_, st ρ1 ts S, rfl, k + 1, m', rfl, by lia, ?_, rfl⟩
    rw [List.take_add_one, hat.get]
    simp
  · refine hide2 fun Pg hPg => ?_
    intro acc S' hIv
    obtain ⟨k, m, hr, hkm, rfl, rfl⟩ := hIv
    have hm0 := upN_nil hr
    subst hm0
    refine hPg _ _ ?_
    rw [List.take_of_length_le (by rw [T.pre_len]; lia)]
    repeat frow_left
    refine Op.set (hh _) (ha.deeper _).eqU (nn := 2) (by decide) (by rw [List.length_map, T.pre_len]; lia) (fun d hd => ?_) fun a => ?_
    · obtain ⟨u, hu, rfl⟩ := List.mem_map.mp hd
      exact ⟨row_key (lawT_kid hlt1 hu), _, rfl⟩
    rw [seg_count hw.nodup hmem]
    repeat frow_left
    refine Op.len_set (m := ts.length) (List.mem_of_getElem? (i := 1) rfl) (by unfold sizeLine; lia) ?_
    repeat frow_left
    rw [show (((ts.length : Nat) : Int) != ((ts.length : Nat) : Int)) = false by simp]
    repeat frow_left
    refine TX.sub (S' := st ρ1 ts S) (List.Sublist.cons₂ _ (List.sublist_cons_self _ _)) ?_
    have hks : ∀ v ∈ ts, v.kids.length ≤ 1000 := fun v hv => by
      obtain ⟨i, hi, hie⟩ := List.getElem_of_mem ((hmem v).mp hv)
      rw [T.pre_len] at hi
      obtain ⟨_, u, _, _, hat, _⟩ := all_get (t := t) (j := i) hi
      have h1 := hat.get
      rw [List.getElem?_eq_getElem (by rw [T.pre_len]; exact hi), hie] at h1
      cases h1
      have h2 := hat.bound
      rw [T.pre_len] at h2
      have h3 := v.kids_lt
      lia
    let Iv23 : List D → Sig → Prop := fun rest S' => ∃ (ρ : Str → Option D) (k m : Nat), rest = upN k m ∧ k + m = t.size ∧ S' = st ρ ts S ∧ ρ "bank" = some (.raw (.ref b.x)) ∧ ρ "top" = some (.int ((ix ts t : Nat) : Int)) ∧ ρ "ways" = some (.lst (waysD t.ways))
    refine Ex.for_ (I := Iv23) ?_ ?_ ?_ XF.passes
    · repeat frow_left
      refine Ev.nameC (c := L + 1) rfl (List.mem_of_getElem? (i := 2) rfl) ?_
      repeat frow_left
      refine Op.len_lst (by rw [hsz]; unfold sizeLine; lia) ?_
      repeat frow_left
      refine ItW.up (hh _) (by rw [hsz]; unfold sizeLine; lia) ?_
      exact ⟨ρ1, 0, t.size, by rw [hsz], by lia, rfl, h1b, h1t, h1w⟩
    · refine hide4 fun Pg hPg => ?_
      intro dd rest S' F₀ hIv
      obtain ⟨ρ2, k, m, hr, hkm, rfl, h2b, h2t, h2w⟩ := hIv
      obtain ⟨m', rfl, rfl, rfl⟩ := upN_cons hr
      obtain ⟨p, u, hall, hway, hat, hpos, hfind⟩ := all_get (t := t) (j := k) (by lia)
      have hsu : u.size ≤ t.size := by have := hat.bound; rw [T.pre_len] at this; lia
      have huw : u ∈ t.pre := find_mem p t u hfind
      refine hPg _ _ _ _ ?_
      refine Sto.name (StoN.loc ?_)
      refine Exs.cons (Ex.assign (Ev.nameL (d := .int ((ix ts t : Nat) : Int)) ((upd_ne _ _ (by decide)).trans h2t) ?_))
      refine StoN.loc ?_
      let Iv24 : List D → Sig → Prop := fun rest S' => ∃ (ρ : Str → Option D) (p2 : List Nat) (v : T), rest = natsD p2 ∧ v.find p2 = some u ∧ v ∈ ts ∧ S' = st ρ ts (S ++ F₀) ∧ ρ "n" = some (.int ((ix ts v : Nat) : Int)) ∧ ρ "at" = some (.int (k : Int)) ∧ ρ "bank" = some (.raw (.ref b.x)) ∧ ρ "top" = some (.int ((ix ts t : Nat) : Int)) ∧ ρ "ways" = some (.lst (waysD t.ways))
      refine Exs.cons (Ex.for_ (I := Iv24) ?_ ?_ ?_ XF.passes)
      · refine Ev.sub ?_
        refine Ev.nameL (d := .lst (waysD t.ways)) ((upd_ne _ _ (by decide)).trans ((upd_ne _ _ (by decide)).trans h2w)) ?_
        repeat frow_left
        refine Op2.item_lst (by lia) (by lia) (waysD_get hway) ?_
        refine ItW.tup (hh _) ?_
        exact ⟨_, p, t, rfl, hfind, htm, rfl, upd_same _ _ _, (upd_ne _ _ (by decide)).trans (upd_same _ _ _), (upd_ne _ _ (by decide)).trans ((upd_ne _ _ (by decide)).trans h2b),
          (upd_ne _ _ (by decide)).trans ((upd_ne _ _ (by decide)).trans h2t), (upd_ne _ _ (by decide)).trans ((upd_ne _ _ (by decide)).trans h2w)⟩
      · refine hide4 fun Pg hPg => ?_
        intro dd rest S' F₁ hIv
        obtain ⟨ρ3, p2, v, hr2, hf2, hvm, rfl, h3n, h3a, h3b, h3t, h3w⟩ := hIv
        cases p2 with
        | nil => cases hr2
        | cons k0 p2 =>
        dsimp only [natsD, List.map_cons, List.cons.injEq] at hr2
        obtain ⟨rfl, rfl⟩ := hr2
        obtain ⟨v', hk', hf'⟩ : ∃ v', v.kids[k0]? = some v' ∧ v'.find p2 = some u := by
          dsimp only [T.find] at hf2
          cases hk : v.kids[k0]? with
          | none => rw [hk] at hf2; cases hf2
          | some v' => rw [hk] at hf2; exact ⟨v', rfl, hf2⟩
        have hv'm : v' ∈ ts := hw.kid hvm (List.mem_of_getElem? hk')
        have hkl := hks v hvm
        have hk0 := (List.getElem?_eq_some_iff.mp hk').1
        refine hPg _ _ _ _ ?_
        refine Sto.name (StoN.loc ?_)
        refine Exs.cons (Ex.assign (Ev.sub ?_))
        refine Ev.bnk bk bk.kids ((upd_ne _ _ (by decide)).trans h3b) (List.mem_of_getElem? (i := 3) rfl) (List.mem_of_getElem? (i := 4) rfl) rfl ?_
        refine EvArgs.cons ?_
        refine Ev.nameL (d := .int ((ix ts v : Nat) : Int)) ((upd_ne _ _ (by decide)).trans h3n) ?_
        refine EvArgs.nil ?_
        refine OpL.perm2 (pf _ ts (S ++ F₀ ++ F₁)) ?_
        refine kids_ok bk ((ha.deeper _).less (by lia)) (ix_get hvm) (by lia) hkl ?_
        refine ⟨_, (pf _ ts (S ++ F₀ ++ F₁)).symm, ?_⟩
        repeat frow_left
        refine Op2.item_tup (d := .int ((ix ts v' : Nat) : Int)) (by lia) (by lia) (by rw [Int.toNat_natCast, List.getElem?_map, hk']; rfl) ?_
        repeat frow_left
        exact ⟨st _ ts (S ++ F₀), rfl, _, p2, v', rfl, hf', hv'm, rfl, upd_same _ _ _, (upd_ne _ _ (by decide)).trans ((upd_ne _ _ (by decide)).trans h3a), (upd_ne _ _ (by decide)).trans ((upd_ne _ _ (by decide)).trans h3b),
          (upd_ne _ _ (by decide)).trans ((upd_ne _ _ (by decide)).trans h3t), (upd_ne _ _ (by decide)).trans ((upd_ne _ _ (by decide)).trans h3w)⟩
      · refine hide1 fun Pg hPg => ?_
        intro S' hIv
        obtain ⟨ρ3, p2, v, hr2, hf2, hvm, rfl, h3n, h3a, h3b, h3t, h3w⟩ := hIv
        cases p2 with
        | cons k0 p2 => cases hr2
        | nil =>
        simp only [T.find, Option.some.injEq] at hf2
        subst hf2
        refine hPg _ ?_
        refine Exs.nil ?_
        refine Exs.cons (Ex.iff (Te.or2 (Te.cmp ?_)))
        refine Ev.bnk bk bk.term h3b (List.mem_of_getElem? (i := 3) rfl) (List.mem_of_getElem? (i := 4) rfl) rfl ?_
        refine EvArgs.cons ?_
        refine Ev.nameL (d := .int ((ix ts v : Nat) : Int)) h3n ?_
        refine EvArgs.nil ?_
        refine OpL.perm2 (pf _ ts (S ++ F₀)) ?_
        refine term_ok' bk F ((ha.deeper _).less (by lia)) hw (by lia) (ix_get hvm) hks ?_
        refine ⟨_, (pf _ ts (S ++ F₀)).symm, ?_⟩
        refine Ev.callG F.gTerm F.fTerm ?_
        refine EvArgs.cons ?_
        repeat frow_left
        refine Ev.nameC (c := L + 1) rfl (List.mem_of_getElem? (i := 2) rfl) ?_
        repeat frow_left
        refine ⟨_, rfl, ?_⟩
        refine EvO.some ?_
        refine Ev.sub ?_
        refine Ev.nameC (c := L + 2) rfl (List.mem_of_getElem? (i := 1) rfl) ?_
        repeat frow_left
        refine Op2.item_lst (by lia) (by lia) (natsD_get hat.ends) ?_
        refine ⟨_, rfl, ?_⟩
        refine OpS.lst (by rw [hsz]; unfold sizeLine; lia) ?_
        rw [seg_cut hat]
        refine EvArgs.nil ?_
        refine term_ok F ((ha.deeper _).less (by lia)) (by lia) ?_
        have hvd : plain 50 v.term = true := term_plain 50 v (by have := v.depth_le_size; lia) (lawT_kid hlt1 huw)
        refine Op2.neF hvd (by decide) (ha.deeper _).eqU ?_
        refine ⟨_, rfl, ?_⟩
        refine iteF ?_
        refine Te.cmp ?_
        refine Ev.bnk bk bk.weight h3b (List.mem_of_getElem? (i := 3) rfl) (List.mem_of_getElem? (i := 4) rfl) rfl ?_
        refine EvArgs.cons ?_
        refine Ev.nameL (d := .int ((ix ts v : Nat) : Int)) h3n ?_
        refine EvArgs.nil ?_
        refine OpL.perm2 (pf _ ts (S ++ F₀)) ?_
        refine weight_ok bk ((ha.deeper _).less (by lia)) (ix_get hvm) (by lia) ?_
        refine ⟨_, (pf _ ts (S ++ F₀)).symm, ?_⟩
        refine Ev.bin ?_
        refine Ev.sub ?_
        refine Ev.nameC (c := L + 2) rfl (List.mem_of_getElem? (i := 1) rfl) ?_
        repeat frow_left
        refine Op2.item_lst (by lia) (by lia) (natsD_get hat.ends) ?_
        repeat frow_left
        rw [show (((v.size : Nat) : Int) != (((k + v.size : Nat) : Int) - (k : Int))) = false by
          rw [show (((k + v.size : Nat) : Int) - (k : Int)) = ((v.size : Nat) : Int) by lia]; simp]
        repeat frow_left
        exact ⟨st _ ts S, rfl, _, k + 1, m', rfl, by lia, rfl, h3b, h3t, h3w⟩
    · refine hide1 fun Pg hPg => ?_
      intro S' hIv
      obtain ⟨ρ2, k, m, hr, hkm, rfl, h2b, h2t, h2w⟩ := hIv
      refine hPg _ ?_
      refine Exs.nil ?_
      repeat frow_left
      exact ⟨S, ((((((((List.Sublist.refl S).cons _).cons _).cons _).cons _).cons _).cons _).cons _).cons _ |>.cons _, q⟩
end
end
section
theorem posI_find (P : List T) : ∀ (way : List Int) (i : Nat) (u : T), At P i u → (T.posI i u way = none ∧ u.findI way = none) ∨
    ∃ j v, T.posI i u way = some j ∧ u.findI way = some v ∧ At P j v ∧ T.posN i u (way.map Int.toNat) = some j ∧ u.find (way.map Int.toNat) = some v
  | [], i, u, h => .inr ⟨i, u, rfl, rfl, h, rfl, rfl⟩
  | k :: r, i, u, h => by
    simp only [T.posI, T.findI, List.map_cons, T.posN, T.find]
    by_cases h0 : 0 ≤ k
    · rw [if_pos h0, if_pos h0]
      cases hk : u.kids[k.toNat]? with
      | none => exact .inl ⟨rfl, rfl⟩
      | some v => exact posI_find P r _ v (h.kid hk)
    · rw [if_neg h0, if_neg h0]; exact .inl ⟨rfl, rfl⟩
theorem findI_nat : ∀ (p : List Nat) (u : T), u.findI (p.map fun n : Nat => (n : Int)) = u.find p
  | [], u => rfl
  | k :: r, u => by
    simp only [List.map_cons, T.findI, T.find]
    rw [if_pos (by lia), Int.toNat_natCast]
    cases u.kids[k]? with
    | none => rfl
    | some v => exact findI_nat r v
theorem natsD_ints (p : List Nat) : natsD p = intsD' (p.map fun n : Nat => (n : Int)) := by unfold natsD intsD'; rw [List.map_map]; rfl
theorem toNat_nat (p : List Nat) : (p.map fun n : Nat => (n : Int)).map Int.toNat = p := by
  rw [List.map_map]
  conv => rhs; rw [← List.map_id p]
  exact List.map_congr_left fun a _ => by simp
theorem find_small : ∀ (p : List Nat) (t u : T), t.find p = some u → ∀ k ∈ p, k < t.size
  | [], _, _, _ => fun k hk => by cases hk
  | a :: r, t, u, h => by
    dsimp only [T.find] at h
    cases hk : t.kids[a]? with
    | none => rw [hk] at h; cases h
    | some v =>
      rw [hk] at h
      have h1 := (List.getElem?_eq_some_iff.mp hk).1
      have h2 := t.kids_lt
      have h3 := size_kid hk
      intro k hkm
      rcases List.mem_cons.mp hkm with rfl | hkm
      · lia
      · have := find_small r v u h k hkm; lia
theorem lawT_row {t : T} : lawT t ↔ ∀ q ∈ t.row, q.1 ∈ lawS := by
  unfold lawT T.row T.rowOf
  exact ⟨fun h q hq => by obtain ⟨u, hu, rfl⟩ := List.mem_map.mp hq; exact h u hu, fun h u hu => h _ (List.mem_map.mpr ⟨u, hu, rfl⟩)⟩
/-- a part exchanged -/
theorem put_facts {t u v : T} {p : List Nat} {j : Nat} (hp : T.posN 0 t p = some j) (hf : t.find p = some v) (ha : At t.pre j v) (h1 : lawT t) (h2 : lawT u) :
    (t.put p u).row = t.row.take j ++ u.row ++ t.row.drop (j + v.size) ∧ (t.put p u).size ≤ t.size + u.size ∧ lawT (t.put p u) := by
  have e := put_row p t u v j 0 (by rw [hp, Nat.zero_add]) hf
  refine ⟨e, ?_, ?_⟩
  · rw [← row_len (t.put p u), e, List.length_append, List.length_append, List.length_take, List.length_drop, row_len, row_len]
    have h := ha.bound
    rw [T.pre_len] at h
    have hj := Nat.le_trans (Nat.le_add_right j v.size) h
    refine Nat.le_trans (Nat.add_le_add (Nat.add_le_add_right (Nat.min_le_left ..) _) (Nat.sub_le_sub_left (Nat.le_add_right j v.size) _)) ?_
    rw [Nat.add_right_comm, Nat.add_sub_of_le hj]
    exact Nat.le_refl _
  · rw [lawT_row, e]
    intro q hq
    rcases List.mem_append.mp hq with hq | hq
    · rcases List.mem_append.mp hq with hq | hq
      · exact lawT_row.mp h1 q (List.mem_of_mem_take hq)
      · exact lawT_row.mp h2 q hq
    · exact lawT_row.mp h1 q (List.mem_of_mem_drop hq)
theorem rowD_take (l : List (Str × Nat)) (k : Nat) : (rowD l).take k = rowD (l.take k) := by unfold rowD; rw [List.map_take]
theorem rowD_drop (l : List (Str × Nat)) (k : Nat) : (rowD l).drop k = rowD (l.drop k) := by unfold rowD; rw [List.map_drop]
theorem plainT {t : T} (h : lawT t) (hs : t.size ≤ 60) : plain 60 t.term = true := term_plain 60 t (by have := t.depth_le_size; lia) h
theorem plain_nats : ∀ (n : Nat) (p : List Nat), plain (n + 1) (.tup (natsD p)) = true := fun n p => by
  simp only [plain, List.all_eq_true]
  intro d hd
  unfold natsD at hd
  obtain ⟨k, _, rfl⟩ := List.mem_map.mp hd
  cases n <;> rfl
theorem plain_parts {t : T} (h : lawT t) (hs : t.size ≤ 60) : plain 62 (.lst (partsD t.all)) = true := by
  simp only [plain, List.all_eq_true]
  intro d hd
  unfold partsD at hd
  obtain ⟨q, hq, rfl⟩ := List.mem_map.mp hd
  have hqm : q.2 ∈ t.pre := by rw [← T.all_snd]; exact List.mem_map.mpr ⟨q, hq, rfl⟩
  have hsz : q.2.size ≤ t.size := by
    obtain ⟨j, hj⟩ := List.mem_iff_getElem?.mp hq
    have hjl := (List.getElem?_eq_some_iff.mp hj).1
    rw [T.all_len] at hjl
    obtain ⟨p, u, h1, _, h3, _⟩ := all_get hjl
    rw [hj] at h1
    cases h1
    have := h3.bound
    rw [T.pre_len] at this
    show u.size ≤ t.size
    lia
  show plain 61 (.tup [.tup (natsD q.1), q.2.term]) = true
  have a1 := plain_nats 59 q.1
  have a2 := plainT (lawT_kid h hqm) (by lia)
  simp only [plain, List.all_cons, List.all_nil, Bool.and_true, Bool.and_eq_true] at a1 ⊢
  exact ⟨a1, a2⟩
theorem spotI_cases {t : T} (way : List Int) : (spotI t way = -1 ∧ t.findI way = none) ∨
    ∃ (j : Nat) (v : T), spotI t way = (j : Int) ∧ t.findI way = some v ∧ At t.pre j v ∧ T.posN 0 t (way.map Int.toNat) = some j ∧ t.find (way.map Int.toNat) = some v := by
  unfold spotI
  rcases posI_find t.pre way 0 t (At.root t) with ⟨a, b⟩ | ⟨j, v, a, b, c, d, e⟩
  · rw [a]; exact .inl ⟨rfl, b⟩
  · rw [a]; exact .inr ⟨j, v, rfl, b, c, d, e⟩
section
variable {prog : Program} {w : World} {W : Gd} {A : Around} {X : Value → PH → Shared → Prop} {S : Sig} {Q : D → Sig → Prop}
theorem Op.int_int {i : Int} (q : Q (.int i) S) : OpL (model prog w) W A (fun vs => call (.type "int") ([] ++ vs)) RepV [.int i] S X Q := fun s B vs y r => by
  dsimp only [RepL] at r
  obtain ⟨v, us, rfl, r, rfl⟩ := r
  obtain ⟨t, rfl⟩ := int_inv r
  exact call_int_int ⟨B, _, S, .refl B, y, rep_int _ _, q⟩
end
end
section
theorem code_some {pos : Pos} {c : Value} (l m : List Value) (ht : TriplesOk l) (h : codeAmong pos l = some c) : codeAmong pos (l ++ m) = some c := by
  fun_induction TriplesOk l with
  | case1 => cases h
  | case2 a' t b' u x rest ih =>
    dsimp only [List.cons_append, codeAmong] at h ⊢
    split at h
    · rename_i e
      rw [if_pos e]
      exact h
    · rename_i e
      rw [if_neg e]
      exact ih ht h
  | case3 => exact ht.elim
theorem code_none {pos : Pos} {c : Value} {a b : Int} (hne : (a == pos.line && b == pos.col) = false) (l : List Value) (ht : TriplesOk l) (h : codeAmong pos l = none) : codeAmong pos (l ++ [rawInt a, rawInt b, c]) = none := by
  fun_induction TriplesOk l with
  | case1 => dsimp only [List.nil_append, codeAmong, rawInt]; rw [hne]; rfl
  | case2 a' t b' u x rest ih =>
    dsimp only [List.cons_append, codeAmong] at h ⊢
    split at h
    · cases h
    · rename_i e
      rw [if_neg e]
      exact ih ht h
  | case3 => exact ht.elim
noncomputable abbrev lawSt (prog : Program) (w : World) (cells : List Int) (L P a : Addr) (ρ : Str → Option D) (ps : Array Value) (n l : Int) (t u : T) (way : Option D) (E : Sig) : Sig :=
  (L, .frame ρ) :: (a, deckC prog w cells n l) :: (P, .obj (tabObj ps)) :: (L + 1, .cell (some (.raw (.ref a)))) :: (L + 2, .cell (some (.lst (rowD t.row)))) :: (L + 3, .cell (some (.lst (natsD t.ends)))) :: (L + 4, .cell (some (.lst (waysD t.ways)))) :: (L + 5, .cell (some u.term)) :: (L + 6, .cell way) :: (L + 7, .cell (some t.term)) :: E
noncomputable def LamIn (pos : Pos) (qual : Str) (ps : Array Value) (E : Sig) : Prop := codeAmong pos ps.toList = none ∨ ∃ c', codeAmong pos ps.toList = some (.ref c') ∧ (c', Cell.other (CodeP qual)) ∈ E
section
variable {prog : Program} {w : World} {W : Gd} {A : Around} {X : Value → PH → Shared → Prop} {S : Sig} {Q : D → Sig → Prop} {env : Env}
theorem OpL.post {f : List Value → Sem Value} {ds : List D} {Q' : D → Sig → Prop} (h : OpL (model prog w) W A f RepV ds S X Q') (k : ∀ d S', Q' d S' → Q d S') : OpL (model prog w) W A f RepV ds S X Q := fun s B vs y r =>
  wpAny_mono (h s B vs y r) (fun _ _ hh1 => (by obtain ⟨B', d, S', l, y', r', q⟩ := hh1; exact ⟨B', d, S', l, y', r', k d S' q⟩)) fun _ _ p => p
theorem TX.permPost {α β : Type} {M : Model} {t : Sem α} {RR : PH → α → β → Prop} {Q : β → Sig → Prop} (h : TX M W A t RR S X fun b S₁ => ∃ S₂, S₁.Perm S₂ ∧ Q b S₂) : TX M W A t RR S X Q := fun _ _ x =>
  h.use x (fun _ _ B' b _ l y r q => let ⟨S₂, k, q⟩ := q; ⟨B', b, S₂, l, y.perm k, r, q⟩) fun _ _ e => e
theorem lawSt_perm {cells : List Int} {L P a : Addr} {ρ : Str → Option D} {ps : Array Value} {n l : Int} {t u : T} {way : Option D} {E E' : Sig} (k : E.Perm E') : (lawSt prog w cells L P a ρ ps n l t u way E).Perm (lawSt prog w cells L P a ρ ps n l t u way E') :=
  List.Perm.append_left (lawSt prog w cells L P a ρ ps n l t u way []) k
theorem Ev.lamL {c P : Addr} (Z : Lm W c P) {params : Arguments} {body : Expr} {scope : Scope} {pos pos2 : Pos} {cells : List Int} {L a : Addr} {ρ : Str → Option D} {n l : Int} {t u : T} {way : Option D} {E F : Sig} {ps : Array Value} {clos : List (Str × Addr)} {qual : Str}
    (ht : TriplesOk ps.toList) (hl : LamIn pos qual ps E) (hne : (((pos.line : Nat) : Int) == pos2.line && ((pos.col : Nat) : Int) == pos2.col) = false) (hl2 : LamIn pos2 qual ps E)
    (q : ∀ f c' ctv ps' E', TriplesOk ps'.toList → LamIn pos qual ps' E' → LamIn pos2 qual ps' E' → (c', Cell.other (CodeP qual)) ∈ E' → (f, Cell.obj (kla_obj "<lambda>" qual params body scope clos (pmOf W) c' ctv)) ∈ E' → Q (.raw (.ref f)) (lawSt prog w cells L P a ρ ps' n l t u way (E' ++ F)))
    (hcode : env.code = .ref c := by rfl) (hcl : closureFor scope env = pure clos := by rfl) (hg : env.globals = mainGlobals := by rfl) (hdef : defaultsOf params env = ([], []) := by rfl) (hq : env.qual ++ "<lambda>" = qual := by rfl) :
    Ev (model prog w) W A env (.Lambda params body scope pos) (lawSt prog w cells L P a ρ ps n l t u way (E ++ F)) X Q := by
  have pm : ∀ x : Sig, ((E ++ F) ++ x).Perm ((E ++ x) ++ F) := fun x => by
    rw [List.append_assoc, List.append_assoc]
    exact List.perm_append_comm.append_left E
  rcases hl with hn | ⟨c', hs, hm⟩
  · refine TX.permPost (Ev.lamMiss Z (i := 2) rfl ht hn (fun f c' ctv => ?_) hcode hcl hg hdef hq)
    have e : (ps ++ #[rawInt pos.line, rawInt pos.col, .ref c']).toList = ps.toList ++ [rawInt pos.line, rawInt pos.col, .ref c'] := by simp
    refine ⟨_, lawSt_perm (pm _), q f c' ctv (ps ++ #[rawInt pos.line, rawInt pos.col, .ref c']) (E ++ [(c', .other (CodeP qual)), (f, .obj (kla_obj "<lambda>" qual params body scope clos (pmOf W) c' ctv))]) ?_ (.inr ⟨c', ?_, by simp⟩) ?_ (by simp) (by simp)⟩
    · rw [e]; exact TriplesOk_snoc _ _ _ _ ht
    · rw [e]; exact codeAmong_snoc _ ht hn
    · rcases hl2 with h | ⟨c2, h, hm⟩
      · left; rw [e]; exact code_none hne _ ht h
      · right; exact ⟨c2, by rw [e]; exact code_some _ _ ht h, List.mem_append_left _ hm⟩
  · refine TX.permPost (Ev.lamHit Z (i := 2) rfl ht hs (fun f ctv => ?_) hcode hcl hg hdef hq)
    refine ⟨_, lawSt_perm (pm _), q f c' ctv ps (E ++ [(f, .obj (kla_obj "<lambda>" qual params body scope clos (pmOf W) c' ctv))]) ht (.inr ⟨c', hs, List.mem_append_left _ hm⟩) ?_ (List.mem_append_left _ hm) (by simp)⟩
    rcases hl2 with h | ⟨c2, h, hm⟩
    · exact .inl h
    · exact .inr ⟨c2, h, List.mem_append_left _ hm⟩
end
/-- the law's last word -/
theorem law_last {prog : Program} {w : World} {W : Gd} (F : Fx W) (bk : Bk W) (G : Exf prog w W) {c P : Addr} {A : Around} (ha : Ar A 100) {qual : Str} {f L a : Addr} {ρ : Str → Option D} {cells : List Int} {ps : Array Value} {n l : Int} {t u : T} {way : Option D} {E : Sig}
    (hlt : lawT t) (hts : t.size ≤ 24) :
    Exs (model prog w) W A (envOfC qual (scopeS (topS 20)) L f (.ref c)) ((bodyS (topS 20)).drop 9) (lawSt prog w cells L P a ρ ps n l t u way E) XF fun fl S' => fl = .ret (.bool true) ∧ ∃ ps, (P, Cell.obj (tabObj ps)) ∈ S' := by
  refine Exs.cons (Ex.ret (Ev.callG F.gBanked F.fBanked ?_))
  refine EvArgs.cons (Ev.nameC (c := L + 7) rfl (List.mem_of_getElem? (i := 9) rfl) ?_)
  refine EvArgs.cons (Ev.nameC (c := L + 2) rfl (List.mem_of_getElem? (i := 4) rfl) ?_)
  refine EvArgs.cons (Ev.nameC (c := L + 3) rfl (List.mem_of_getElem? (i := 5) rfl) ?_)
  refine EvArgs.cons (Ev.nameC (c := L + 4) rfl (List.mem_of_getElem? (i := 6) rfl) ?_)
  refine EvArgs.nil ?_
  refine banked_ok bk F G (n := 50) (ha.less (by lia)) (by have := t.depth_le_size; lia) hlt (by lia) ?_
  exact ⟨rfl, ps, List.mem_of_getElem? (i := 2) rfl⟩
end
section
noncomputable def p1 : Pos := ⟨186, 0, 186, 27⟩
noncomputable def p2 : Pos := ⟨187, 0, 187, 35⟩
noncomputable def dueD (t : T) (way : List Int) : D := match t.findI way with | some v => v.term | none => .none
noncomputable def lateD (t u : T) (way : List Int) : D := match t.findI way with | some _ => (t.put (way.map Int.toNat) u).term | none => .none
theorem due_plain {t : T} {way : List Int} (hlt : lawT t) (hts : t.size ≤ 24) : plain 60 (dueD t way) = true := by
  unfold dueD
  rcases spotI_cases (t := t) way with ⟨_, h⟩ | ⟨j, v, _, h, hat, _, hf⟩
  · rw [h]; rfl
  · rw [h]
    have hm := find_mem _ t v hf
    have := hat.bound
    rw [T.pre_len] at this
    exact plainT (lawT_kid hlt hm) (by lia)
theorem late_plain {t u : T} {way : List Int} (hlt : lawT t) (hlu : lawT u) (hts : t.size ≤ 24) (hus : u.size ≤ 4) : plain 60 (lateD t u way) = true := by
  unfold lateD
  rcases spotI_cases (t := t) way with ⟨_, h⟩ | ⟨j, v, _, h, hat, hp, hf⟩
  · rw [h]; rfl
  · rw [h]
    obtain ⟨_, h2, h3⟩ := put_facts hp hf hat hlt hlu
    exact plainT h3 (by lia)
set_option maxHeartbeats 4000000 in
theorem law_laps {prog : Program} {w : World} {W : Gd} (F : Fx W) (bk : Bk W) (G : Exf prog w W) {c P : Addr} (Z : Lm W c P) {A : Around} (ha : Ar A 100) {qual : Str} {f L a : Addr} {ρ0 : Str → Option D} {cells : List Int} (hcl : cells.length ≤ 1000) {n0 l : Int} {t u : T}
    (hFr : ∀ (S' : Sig) (ρ : Str → Option D), (L, Cell.frame ρ) ∈ S' → FramesIn A S') (hlt : lawT t) (hts : t.size ≤ 24) (hlu : lawT u) (hus : u.size ≤ 4) (hn0 : 0 ≤ n0) (hn0' : n0 ≤ 1000) (hfr0 : ρ0 "fresh" = some (.lst (rowD u.row))) :
    Exs (model prog w) W A (envOfC qual (scopeS (topS 20)) L f (.ref c)) ((bodyS (topS 20)).drop 8) (lawSt prog w cells L P a ρ0 #[] n0 l t u none []) XF fun fl S' => fl = .ret (.bool true) ∧ ∃ ps, (P, Cell.obj (tabObj ps)) ∈ S' := by
  have hh : A.handled = none := ha.hh
  let q0 : Str := (envOfC qual (scopeS (topS 20)) L f (.ref c)).qual ++ "<lambda>"
  let Iv26 : List D → Sig → Prop := fun rest S' => ∃ (ρ : Str → Option D) (ps : Array Value) (n : Int) (way : Option D) (E : Sig) (k m : Nat), rest = upN k m ∧ k + m ≤ 4 ∧ S' = lawSt prog w cells L P a ρ ps n l t u way E ∧ ρ "fresh" = some (.lst (rowD u.row)) ∧ 0 ≤ n ∧ n ≤ 1001 + 10 * k ∧ TriplesOk ps.toList ∧ LamIn p1 q0 ps E ∧ LamIn p2 q0 ps E
  refine Exs.cons (Ex.for_ (I := Iv26) ?_ ?_ ?_ XF.passes)
  · refine Ev.callT (F.nB _ (by decide)) rfl ?_
    refine EvArgs.cons (Ev.callG F.gNum F.fNum ?_)
    refine EvArgs.cons (Ev.nameC (c := L + 1) rfl (List.mem_of_getElem? (i := 3) rfl) ?_)
    repeat frow_left
    refine number_ok F (ha.less (by lia)) (j := 1) rfl hn0 (by lia) (by decide) (by decide) hcl fun i h0 h5 => ?_
    obtain ⟨m, rfl⟩ : ∃ m : Nat, i = m := ⟨i.toNat, by lia⟩
    repeat frow_left
    refine ItW.up hh (by unfold sizeLine; lia) ?_
    exact ⟨ρ0, #[], n0 + 1, none, [], 0, m, rfl, by lia, rfl, hfr0, by lia, by lia, trivial, .inl rfl, .inl rfl⟩
  · refine hide4 fun Pg hPg => ?_
    intro dd rest S' F₀ hIv
    obtain ⟨ρ, ps, n, way0, E, k, m, hr, hkm, rfl, hf1, hn1, hn2, hps, hl1, hl2⟩ := hIv
    obtain ⟨m', rfl, rfl, rfl⟩ := upN_cons hr
    refine hPg _ _ _ _ ?_
    refine Sto.name (StoN.loc ?_)
    generalize hρ1 : upd ρ "lap" (.int (k : Int)) = ρ1
    have hf2 : ρ1 "fresh" = some (.lst (rowD u.row)) := by rw [← hρ1]; exact (upd_ne _ _ (by decide)).trans hf1
    clear hρ1
    show Exs _ _ _ _ _ (lawSt prog w cells L P a ρ1 ps n l t u way0 (E ++ F₀)) _ _
    refine Exs.cons (Ex.assign (Ev.callT (F.nB _ (by decide)) rfl ?_))
    refine EvArgs.cons ?_
    let Iv27 : List D → List D → Sig → Prop := fun rest acc S' => ∃ (k m : Nat) (way : List Int) (n' : Int), rest = upN k m ∧ k + m ≤ 5 ∧ acc = intsD' way ∧ way.length = k ∧ (∀ k ∈ way, -1 ≤ k ∧ k ≤ 50) ∧ 0 ≤ n' ∧ n' ≤ n + 1 + k ∧ S' = lawSt prog w cells L P a ρ1 ps n' l t u way0 (E ++ F₀)
    refine Ev.comp (cl := [("deck", L + 1)]) (I := Iv27) ?_ ?_ ?_
    · refine Ev.callT (F.nB _ (by decide)) rfl ?_
      refine EvArgs.cons (Ev.callG F.gNum F.fNum ?_)
      refine EvArgs.cons (Ev.nameC (c := L + 1) rfl (List.mem_of_getElem? (i := 3) rfl) ?_)
      repeat frow_left
      refine number_ok F (ha.less (by lia)) (j := 1) rfl hn1 (by lia) (by decide) (by decide) hcl fun i h0 h5 => ?_
      obtain ⟨m, rfl⟩ : ∃ m : Nat, i = m := ⟨i.toNat, by lia⟩
      repeat frow_left
      refine ItW.up hh (by unfold sizeLine; lia) ?_
      exact ⟨by rw [upN_len]; unfold sizeLine; lia, 0, m, [], n + 1, rfl, by lia, rfl, rfl, fun k hk => (by cases hk), by lia, by lia, rfl⟩
    · refine hide7 fun Pg hPg => ?_
      intro C dd rest acc S' ρ' F₁ hIv
      obtain ⟨k2, m2, way, n', hr2, hkm2, rfl, hwl, hw, hn3, hn4, rfl⟩ := hIv
      obtain ⟨m3, rfl, rfl, rfl⟩ := upN_cons hr2
      refine hPg _ _ _ _ _ _ _ ?_
      refine Sto.name (StoN.loc ?_)
      refine Tests.nil ?_
      refine iteT ?_
      refine Ev.bin (Ev.callG F.gNum F.fNum ?_)
      refine EvArgs.cons (Ev.nameC (c := L + 1) rfl (List.mem_of_getElem? (i := 4) rfl) ?_)
      repeat frow_left
      refine number_ok F (ha.less (by lia)) (j := 2) rfl hn3 (by lia) (by decide) (by decide) hcl fun i h0 h6 => ?_
      repeat frow_left
      refine ⟨_, lawSt prog w cells L P a ρ1 ps (n' + 1) l t u way0 (E ++ F₀), rfl, k2 + 1, m3, way ++ [i - 1], n' + 1, rfl, by lia, ?_, by simp [hwl], fun x hx => ?_, by lia, by lia, rfl⟩
      · unfold intsD'
        rw [List.map_append]
        rfl
      · rcases List.mem_append.mp hx with hx | hx
        · exact hw x hx
        · rw [List.mem_singleton] at hx; lia
    refine hide2 fun Pg hPg => ?_
    intro acc S' hIv
    obtain ⟨k2, m2, way, n', hr2, hkm2, rfl, hwl, hw, hn3, hn4, rfl⟩ := hIv
    have hm0 := upN_nil hr2
    subst hm0
    refine hPg _ _ ?_
    refine EvArgs.nil ?_
    refine Op.tuple_lst (by unfold intsD'; rw [List.length_map, hwl]; unfold sizeLine; lia) ?_
    refine StoN.cell (i := 8) (c := L + 6) rfl rfl ?_
    show Exs _ _ _ _ _ (lawSt prog w cells L P a ρ1 ps n' l t u (some (.tup (intsD' way))) (E ++ F₀)) _ _
    refine Exs.cons (Ex.assign (Ev.callG F.gSpot F.fSpot ?_))
    refine EvArgs.cons (Ev.nameC (c := L + 2) rfl (List.mem_of_getElem? (i := 4) rfl) ?_)
    refine EvArgs.cons (Ev.nameC (c := L + 3) rfl (List.mem_of_getElem? (i := 5) rfl) ?_)
    refine EvArgs.cons (Ev.nameC (c := L + 6) rfl (List.mem_of_getElem? (i := 8) rfl) ?_)
    refine EvArgs.nil ?_
    refine spot_ok F (ha.less (by lia)) (by lia) ?_
    refine StoN.loc ?_
    refine Exs.cons (Ex.assignT (Ev.tup ?_))
    repeat frow_left
    refine ⟨by decide, ?_⟩
    refine Sto.tup2 hh ?_
    refine Sto.name (StoN.loc ?_)
    refine Sto.name (StoN.loc ?_)
    generalize hρ2 : upd (upd (upd ρ1 "at" (.int (spotI t way))) "due" .none) "late" .none = ρ2
    have ha2 : ρ2 "at" = some (.int (spotI t way)) := by rw [← hρ2]; exact (upd_ne _ _ (by decide)).trans ((upd_ne _ _ (by decide)).trans (upd_same _ _ _))
    have hd2 : ρ2 "due" = some .none := by rw [← hρ2]; exact (upd_ne _ _ (by decide)).trans (upd_same _ _ _)
    have hl3 : ρ2 "late" = some .none := by rw [← hρ2]; exact upd_same _ _ _
    have hf3 : ρ2 "fresh" = some (.lst (rowD u.row)) := by rw [← hρ2]; exact (upd_ne _ _ (by decide)).trans ((upd_ne _ _ (by decide)).trans ((upd_ne _ _ (by decide)).trans hf2))
    clear hρ2 hf2
    show Exs _ _ _ _ _ (lawSt prog w cells L P a ρ2 ps n' l t u (some (.tup (intsD' way))) (E ++ F₀)) _ _
    refine Exs.cons (TX.mono (Q := fun fl S' => fl = .next ∧ ∃ ρ3 : Str → Option D, S' = lawSt prog w cells L P a ρ3 ps n' l t u (some (.tup (intsD' way))) (E ++ F₀) ∧ ρ3 "fresh" = some (.lst (rowD u.row)) ∧ ρ3 "due" = some (dueD t way) ∧ ρ3 "late" = some (lateD t u way)) ?_ ?_)
    · rcases spotI_cases (t := t) way with ⟨h1, h2⟩ | ⟨j, v, h1, h2, hat, hp, hf⟩
      · rw [h1] at ha2
        refine Ex.iff (Te.cmp (Ev.nameL ha2 ?_))
        repeat frow_left
        refine iteB (fun h => absurd h (by lia)) (fun h => ?_)
        repeat frow_left
        exact ⟨rfl, ρ2, rfl, hf3, by rw [hd2]; unfold dueD; rw [h2], by rw [hl3]; unfold lateD; rw [h2]⟩
      · rw [h1] at ha2
        have hvm := find_mem _ t v hf
        have hvs : j + v.size ≤ t.size := by have := hat.bound; rwa [T.pre_len] at this
        have hsz : (rowD t.row).length = t.size := by rw [rowD_len, row_len]
        obtain ⟨e1, e2, e3⟩ := put_facts hp hf hat hlt hlu
        refine Ex.iff (Te.cmp (Ev.nameL ha2 ?_))
        repeat frow_left
        refine iteB (fun h => ?_) (fun h => absurd (show (0 : Int) ≤ (j : Int) by lia) h)
        refine Exs.cons (Ex.assignS2 hh (Ev.tup ?_))
        refine EvArgs.cons (Ev.callG F.gTerm F.fTerm ?_)
        refine EvArgs.cons (Ev.slice ?_)
        refine Ev.nameC (c := L + 2) rfl (List.mem_of_getElem? (i := 4) rfl) ?_
        refine EvO.some (Ev.nameL ha2 ⟨_, rfl, ?_⟩)
        refine EvO.some (Ev.sub ?_)
        refine Ev.nameC (c := L + 3) rfl (List.mem_of_getElem? (i := 5) rfl) ?_
        refine Ev.nameL ha2 ?_
        refine Op2.item_lst (by lia) (by lia) (natsD_get hat.ends) ⟨_, rfl, ?_⟩
        refine OpS.lst (by rw [hsz]; unfold sizeLine; lia) ?_
        rw [seg_cut hat]
        refine EvArgs.nil ?_
        refine term_ok F (ha.less (by lia)) (by lia) ?_
        refine EvArgs.cons (Ev.callG F.gTerm F.fTerm ?_)
        refine EvArgs.cons (Ev.bin (Ev.bin (Ev.slice ?_)))
        refine Ev.nameC (c := L + 2) rfl (List.mem_of_getElem? (i := 4) rfl) ?_
        refine EvO.none ?_
        refine EvO.some (Ev.nameL ha2 ⟨_, rfl, ?_⟩)
        refine OpS.lst (by rw [hsz]; unfold sizeLine; lia) ?_
        rw [cutD_upto, rowD_take]
        refine Ev.nameL hf3 ?_
        refine Op2.ladd (by rw [rowD_len, rowD_len, row_len, List.length_take, row_len]; unfold sizeLine; exact Nat.le_trans (Nat.add_le_add_right (Nat.min_le_right ..) _) (by lia)) ?_
        refine Ev.slice ?_
        refine Ev.nameC (c := L + 2) rfl (List.mem_of_getElem? (i := 4) rfl) ?_
        refine EvO.some (Ev.sub ?_)
        refine Ev.nameC (c := L + 3) rfl (List.mem_of_getElem? (i := 5) rfl) ?_
        refine Ev.nameL ha2 ?_
        refine Op2.item_lst (by lia) (by lia) (natsD_get hat.ends) ⟨_, rfl, ?_⟩
        refine EvO.none ?_
        refine OpS.lst (by rw [hsz]; unfold sizeLine; lia) ?_
        rw [cutD_from, rowD_drop]
        refine Op2.ladd (by rw [List.length_append, rowD_len, rowD_len, rowD_len, row_len, List.length_take, List.length_drop, row_len]; unfold sizeLine; exact Nat.le_trans cut2 (by lia)) ?_
        rw [← rowD_app, ← rowD_app, ← e1]
        refine EvArgs.nil ?_
        refine term_ok F (ha.less (by lia)) (by lia) ?_
        refine EvArgs.nil ⟨len2, _, _, rfl, ?_⟩
        refine StoN.loc (StoN.loc ?_)
        refine Exs.nil ?_
        refine ⟨rfl, _, rfl, (upd_ne _ _ (by decide)).trans ((upd_ne _ _ (by decide)).trans hf3), ?_, ?_⟩
        · refine (upd_same _ _ _).trans ?_
          unfold dueD; rw [h2]
        · refine (upd_ne _ _ (by decide)).trans ((upd_same _ _ _).trans ?_)
          unfold lateD; rw [h2]
    · refine hide2 fun Pg hPg => ?_
      intro fl S' hIv
      obtain ⟨rfl, ρ3, rfl, hf3, hd3, hl3⟩ := hIv
      refine hPg _ _ ?_
      refine Exs.cons (Ex.iff (Te.or2 (Te.cmp ?_)))
      refine Ev.callG F.gTold F.fTold ?_
      refine EvArgs.cons ?_
      refine Ev.lamL Z (qual := q0) (pos2 := p2) hps hl1 (by decide) hl2 (fun f1 c1 ctv1 ps1 E1 hps1 hl11 hl12 hc1 hf1m => ?_)
      refine EvArgs.nil ?_
      refine OpL.post (Q' := fun d S' => d = dueD t way ∧ S' = lawSt prog w cells L P a ρ3 ps1 n' l t u (some (.tup (intsD' way))) (E1 ++ F₀)) (told_ok F G (ha.less (by lia)) (hFr _ ρ3 (.head _)) (P := t.findI way = none) (f := f1) (List.mem_append_right (lawSt prog w cells L P a ρ3 ps1 n' l t u (some (.tup (intsD' way))) []) (List.mem_append_left F₀ hf1m)) rfl (fun A' S' ha' hA' hfr' hS' => ?_) (fun hn => ⟨by unfold dueD; rw [hn], rfl⟩)) ?_
      · obtain ⟨env', rfl⟩ := hA'
        obtain ⟨p, rfl⟩ := hS'
        refine Op.lam (C := G.C) (.tail _ (List.mem_append_right (lawSt prog w cells L P a ρ3 ps1 n' l t u (some (.tup (intsD' way))) []) (List.mem_append_left F₀ hf1m))) (.tail _ (List.mem_append_right (lawSt prog w cells L P a ρ3 ps1 n' l t u (some (.tup (intsD' way))) []) (List.mem_append_left F₀ hc1))) ha'.room hfr' (fun pm cdv ct => rfl) (by decide) (fun L2 => ?_)
        refine Ev.callG F.gPartAt F.fPartAt ?_
        refine EvArgs.cons (Ev.nameF (c := L + 7) rfl (List.mem_of_getElem? (i := 11) rfl) ?_)
        refine EvArgs.cons (Ev.nameF (c := L + 6) rfl (List.mem_of_getElem? (i := 10) rfl) ?_)
        refine EvArgs.nil ?_
        refine OpL.monoX (X := XO (t.findI way = none) W G.C ((L2, Cell.frame fun _ => none) :: p :: lawSt prog w cells L P a ρ3 ps1 n' l t u (some (.tup (intsD' way))) (E1 ++ F₀))) (fun e B s h => XO.toB (P' := t.findI way = none) (fun x => x) h) ?_
        refine partat_ok F G (((ha.less (show 99 ≤ 100 by lia)).deeper env' |>.deeper _).less (by lia)) (hfr'.deeper (by show ScopeKind.function ≠ _; decide) rfl) (by lia) hw (fun v hv => ?_)
        exact ⟨_, List.sublist_cons_self _ _, rfl, by unfold dueD; rw [hv], rfl⟩
      refine hide2 fun Pg hPg => ?_
      intro d S' hIv
      obtain ⟨rfl, rfl⟩ := hIv
      refine hPg _ _ ?_
      refine Ev.nameL hd3 ?_
      refine Op2.neF (due_plain hlt hts) (by decide) ha.eqU ⟨_, rfl, ?_⟩
      refine iteF ?_
      refine Te.cmp ?_
      refine Ev.callG F.gTold F.fTold ?_
      refine EvArgs.cons ?_
      refine Ev.lamL Z (qual := q0) (pos2 := p1) hps1 hl12 (by decide) hl11 (fun f2 c2 ctv2 ps2 E2 hps2 hl21 hl22 hc2 hf2m => ?_)
      refine EvArgs.nil ?_
      refine OpL.post (Q' := fun d S' => d = lateD t u way ∧ S' = lawSt prog w cells L P a ρ3 ps2 n' l t u (some (.tup (intsD' way))) (E2 ++ F₀)) (told_ok F G (ha.less (by lia)) (hFr _ ρ3 (.head _)) (P := t.findI way = none) (f := f2) (List.mem_append_right (lawSt prog w cells L P a ρ3 ps2 n' l t u (some (.tup (intsD' way))) []) (List.mem_append_left F₀ hf2m)) rfl (fun A' S' ha' hA' hfr' hS' => ?_) (fun hn => ⟨by unfold lateD; rw [hn], rfl⟩)) ?_
      · obtain ⟨env', rfl⟩ := hA'
        obtain ⟨p, rfl⟩ := hS'
        refine Op.lam (C := G.C) (.tail _ (List.mem_append_right (lawSt prog w cells L P a ρ3 ps2 n' l t u (some (.tup (intsD' way))) []) (List.mem_append_left F₀ hf2m))) (.tail _ (List.mem_append_right (lawSt prog w cells L P a ρ3 ps2 n' l t u (some (.tup (intsD' way))) []) (List.mem_append_left F₀ hc2))) ha'.room hfr' (fun pm cdv ct => rfl) (by decide) (fun L2 => ?_)
        refine Ev.callG F.gRepl F.fRepl ?_
        refine EvArgs.cons (Ev.nameF (c := L + 7) rfl (List.mem_of_getElem? (i := 11) rfl) ?_)
        refine EvArgs.cons (Ev.nameF (c := L + 6) rfl (List.mem_of_getElem? (i := 10) rfl) ?_)
        refine EvArgs.cons (Ev.nameF (c := L + 5) rfl (List.mem_of_getElem? (i := 9) rfl) ?_)
        refine EvArgs.nil ?_
        refine OpL.monoX (X := XO (t.findI way = none) W G.C ((L2, Cell.frame fun _ => none) :: p :: lawSt prog w cells L P a ρ3 ps2 n' l t u (some (.tup (intsD' way))) (E2 ++ F₀))) (fun e B s h => XO.toB (P' := t.findI way = none) (fun x => x) h) ?_
        refine repl_ok F G (by lia) (((ha.less (show 99 ≤ 100 by lia)).deeper env' |>.deeper _).less (by lia)) (hfr'.deeper (by show ScopeKind.function ≠ _; decide) rfl) (by lia) (by lia) hw (fun v hv => ?_)
        exact ⟨_, List.sublist_cons_self _ _, rfl, by unfold lateD; rw [hv], rfl⟩
      refine hide2 fun Pg hPg => ?_
      intro d S' hIv
      obtain ⟨rfl, rfl⟩ := hIv
      refine hPg _ _ ?_
      refine Ev.nameL hl3 ?_
      refine Op2.neF (late_plain hlt hlu hts hus) (by decide) ha.eqU ⟨_, rfl, ?_⟩
      refine iteF ?_
      refine Exs.nil ?_
      refine Exs.nil ?_
      exact ⟨lawSt prog w cells L P a ρ3 ps2 n' l t u (some (.tup (intsD' way))) E2, rfl, ρ3, ps2, n', _, E2, k + 1, m', rfl, by lia, rfl, hf3, hn3, by lia, hps2, hl22, hl21⟩
  · refine hide1 fun Pg hPg => ?_
    intro S' hIv
    obtain ⟨ρ, ps, n, way0, E, k, m, hr, hkm, rfl, hf1, hn1, hn2, hps, hl1, hl2⟩ := hIv
    refine hPg _ ?_
    refine Exs.nil ?_
    exact law_last F bk G ha hlt hts
end
section
set_option maxHeartbeats 4000000 in
theorem law_ats {prog : Program} {w : World} {W : Gd} (F : Fx W) (bk : Bk W) (G : Exf prog w W) {c P : Addr} (Z : Lm W c P) {A : Around} (ha : Ar A 100) {qual : Str} {f L a : Addr} {ρ0 : Str → Option D} {cells : List Int} (hcl : cells.length ≤ 1000) {n0 l : Int} {t u : T}
    (hFr : ∀ (S' : Sig) (ρ : Str → Option D), (L, Cell.frame ρ) ∈ S' → FramesIn A S') (hlt : lawT t) (hts : t.size ≤ 24) (hlu : lawT u) (hus : u.size ≤ 4) (hn0 : 0 ≤ n0) (hn0' : n0 ≤ 1000) (hfr0 : ρ0 "fresh" = some (.lst (rowD u.row))) :
    Exs (model prog w) W A (envOfC qual (scopeS (topS 20)) L f (.ref c)) ((bodyS (topS 20)).drop 7) (lawSt prog w cells L P a ρ0 #[] n0 l t u none []) XF fun fl S' => fl = .ret (.bool true) ∧ ∃ ps, (P, Cell.obj (tabObj ps)) ∈ S' := by
  have hh : A.handled = none := ha.hh
  have hsz : (rowD t.row).length = t.size := by rw [rowD_len, row_len]
  let Iv28 : List D → Sig → Prop := fun rest S' => ∃ (ρ : Str → Option D) (k m : Nat), rest = upN k m ∧ k + m = t.size ∧ S' = lawSt prog w cells L P a ρ #[] n0 l t u none [] ∧ ρ "fresh" = some (.lst (rowD u.row))
  refine Exs.cons (Ex.for_ (I := Iv28) ?_ ?_ ?_ XF.passes)
  · refine Ev.callT (F.nB _ (by decide)) rfl ?_
    refine EvArgs.cons (Ev.callB (F.nB _ (by decide)) rfl ?_)
    refine EvArgs.cons (Ev.nameC (c := L + 2) rfl (List.mem_of_getElem? (i := 4) rfl) ?_)
    refine EvArgs.nil ?_
    refine Op.len_lst (by rw [hsz]; unfold sizeLine; lia) ?_
    refine EvArgs.nil ?_
    refine Op.range1 ?_
    refine ItW.up hh (by rw [hsz]; unfold sizeLine; lia) ?_
    exact ⟨ρ0, 0, t.size, by rw [hsz], by lia, rfl, hfr0⟩
  · refine hide4 fun Pg hPg => ?_
    intro dd rest S' F₀ hIv
    obtain ⟨ρ, k, m, hr, hkm, rfl, hf1⟩ := hIv
    obtain ⟨m', rfl, rfl, rfl⟩ := upN_cons hr
    obtain ⟨p, v, hall, hway, hat, hp, hf⟩ := all_get (t := t) (j := k) (by lia)
    have hvm := find_mem _ t v hf
    have hvs : k + v.size ≤ t.size := by have := hat.bound; rwa [T.pre_len] at this
    obtain ⟨e1, e2, e3⟩ := put_facts hp hf hat hlt hlu
    have hfi : t.findI (p.map fun n : Nat => (n : Int)) = some v := by rw [findI_nat]; exact hf
    have hpk := find_small p t v hf
    have hpl : p.length ≤ 24 := by
      have key : ∀ (p : List Nat) (t v : T), t.find p = some v → p.length < t.size := by
        intro p
        induction p with
        | nil => intro t v _; exact t.size_pos
        | cons a r ih =>
          intro t v h
          dsimp only [T.find] at h
          cases hk : t.kids[a]? with
          | none => rw [hk] at h; cases h
          | some x =>
            rw [hk] at h
            have := ih x v h
            have := size_kid hk
            dsimp only [List.length_cons]
            lia
      have := key p t v hf
      lia
    have hwi : ∀ k ∈ p.map (fun n : Nat => (n : Int)), -1 ≤ k ∧ k ≤ 50 := fun k hk => by
      obtain ⟨n, hn, rfl⟩ := List.mem_map.mp hk
      have := hpk n hn
      lia
    refine hPg _ _ _ _ ?_
    refine Sto.name (StoN.loc ?_)
    generalize hρ1 : upd ρ "at" (.int (k : Int)) = ρ1
    have hf2 : ρ1 "fresh" = some (.lst (rowD u.row)) := by rw [← hρ1]; exact (upd_ne _ _ (by decide)).trans hf1
    have ha2 : ρ1 "at" = some (.int (k : Int)) := by rw [← hρ1]; exact upd_same _ _ _
    clear hρ1
    show Exs _ _ _ _ _ (lawSt prog w cells L P a ρ1 #[] n0 l t u none F₀) _ _
    refine Exs.cons (Ex.assign (Ev.callG F.gTerm F.fTerm ?_))
    refine EvArgs.cons (Ev.bin (Ev.bin (Ev.slice ?_)))
    refine Ev.nameC (c := L + 2) rfl (List.mem_of_getElem? (i := 4) rfl) ?_
    refine EvO.none ?_
    refine EvO.some (Ev.nameL ha2 ⟨_, rfl, ?_⟩)
    refine OpS.lst (by rw [hsz]; unfold sizeLine; lia) ?_
    rw [cutD_upto, rowD_take]
    refine Ev.nameL hf2 ?_
    refine Op2.ladd (by rw [rowD_len, rowD_len, row_len, List.length_take, row_len]; unfold sizeLine; exact Nat.le_trans (Nat.add_le_add_right (Nat.min_le_right ..) _) (by lia)) ?_
    refine Ev.slice ?_
    refine Ev.nameC (c := L + 2) rfl (List.mem_of_getElem? (i := 4) rfl) ?_
    refine EvO.some (Ev.sub ?_)
    refine Ev.nameC (c := L + 3) rfl (List.mem_of_getElem? (i := 5) rfl) ?_
    refine Ev.nameL ha2 ?_
    refine Op2.item_lst (by lia) (by lia) (natsD_get hat.ends) ⟨_, rfl, ?_⟩
    refine EvO.none ?_
    refine OpS.lst (by rw [hsz]; unfold sizeLine; lia) ?_
    rw [cutD_from, rowD_drop]
    refine Op2.ladd (by rw [List.length_append, rowD_len, rowD_len, rowD_len, row_len, List.length_take, List.length_drop, row_len]; unfold sizeLine; exact Nat.le_trans cut2 (by lia)) ?_
    rw [← rowD_app, ← rowD_app, ← e1]
    refine EvArgs.nil ?_
    refine term_ok F (ha.less (by lia)) (by lia) ?_
    refine StoN.loc ?_
    generalize hρ2 : upd ρ1 "late" (t.put p u).term = ρ2
    have hf3 : ρ2 "fresh" = some (.lst (rowD u.row)) := by rw [← hρ2]; exact (upd_ne _ _ (by decide)).trans hf2
    have ha3 : ρ2 "at" = some (.int (k : Int)) := by rw [← hρ2]; exact (upd_ne _ _ (by decide)).trans ha2
    have hl3 : ρ2 "late" = some (t.put p u).term := by rw [← hρ2]; exact upd_same _ _ _
    clear hρ2
    show Exs _ _ _ _ _ (lawSt prog w cells L P a ρ2 #[] n0 l t u none F₀) _ _
    refine Exs.cons (Ex.iff (Te.or2 (Te.cmp ?_)))
    refine Ev.callG F.gPartAt F.fPartAt ?_
    refine EvArgs.cons (Ev.nameC (c := L + 7) rfl (List.mem_of_getElem? (i := 9) rfl) ?_)
    refine EvArgs.cons (Ev.sub ?_)
    refine Ev.nameC (c := L + 4) rfl (List.mem_of_getElem? (i := 6) rfl) ?_
    refine Ev.nameL ha3 ?_
    refine Op2.item_lst (by lia) (by lia) (waysD_get hway) ?_
    refine EvArgs.nil ?_
    rw [natsD_ints]
    refine OpL.never (by rw [hfi]; exact fun h => by cases h) (partat_ok F G (ha.less (by lia)) (hFr _ ρ2 (.head _)) (by lia) hwi (fun v' hv' => ?_))
    rw [hfi] at hv'
    cases hv'
    refine Ev.callG F.gTerm F.fTerm ?_
    refine EvArgs.cons (Ev.slice ?_)
    refine Ev.nameC (c := L + 2) rfl (List.mem_of_getElem? (i := 4) rfl) ?_
    refine EvO.some (Ev.nameL ha3 ⟨_, rfl, ?_⟩)
    refine EvO.some (Ev.sub ?_)
    refine Ev.nameC (c := L + 3) rfl (List.mem_of_getElem? (i := 5) rfl) ?_
    refine Ev.nameL ha3 ?_
    refine Op2.item_lst (by lia) (by lia) (natsD_get hat.ends) ⟨_, rfl, ?_⟩
    refine OpS.lst (by rw [hsz]; unfold sizeLine; lia) ?_
    rw [seg_cut hat]
    refine EvArgs.nil ?_
    refine term_ok F (ha.less (by lia)) (by lia) ?_
    refine Op2.neF (plainT (lawT_kid hlt hvm) (by lia)) (by decide) ha.eqU ⟨_, rfl, ?_⟩
    refine iteF ?_
    refine Te.cmp ?_
    refine Ev.callG F.gRepl F.fRepl ?_
    refine EvArgs.cons (Ev.nameC (c := L + 7) rfl (List.mem_of_getElem? (i := 9) rfl) ?_)
    refine EvArgs.cons (Ev.sub ?_)
    refine Ev.nameC (c := L + 4) rfl (List.mem_of_getElem? (i := 6) rfl) ?_
    refine Ev.nameL ha3 ?_
    refine Op2.item_lst (by lia) (by lia) (waysD_get hway) ?_
    refine EvArgs.cons (Ev.nameC (c := L + 5) rfl (List.mem_of_getElem? (i := 7) rfl) ?_)
    refine EvArgs.nil ?_
    rw [natsD_ints]
    refine OpL.never (by rw [hfi]; exact fun h => by cases h) (repl_ok F G (by lia) (ha.less (by rw [List.length_map]; lia)) (hFr _ ρ2 (.head _)) (by lia) (by rw [List.length_map]; lia) hwi (fun v' hv' => ?_))
    rw [toNat_nat]
    refine Ev.nameL hl3 ?_
    refine Op2.neF (plainT e3 (by lia)) (by decide) ha.eqU ⟨_, rfl, ?_⟩
    refine iteF ?_
    refine Exs.nil ?_
    refine Exs.nil ?_
    exact ⟨lawSt prog w cells L P a ρ2 #[] n0 l t u none [], rfl, ρ2, k + 1, m', rfl, by lia, rfl, hf3⟩
  · refine hide1 fun Pg hPg => ?_
    intro S' hIv
    obtain ⟨ρ, k, m, hr, hkm, rfl, hf1⟩ := hIv
    refine hPg _ ?_
    refine Exs.nil ?_
    exact law_laps F bk G Z ha hcl hFr hlt hts hlu hus hn0 hn0' hf1
end
section
set_option maxHeartbeats 4000000 in
theorem law_parts {prog : Program} {w : World} {W : Gd} (F : Fx W) (bk : Bk W) (G : Exf prog w W) {c P : Addr} (Z : Lm W c P) {A : Around} (ha : Ar A 100) {qual : Str} {f L a : Addr} {ρ0 : Str → Option D} {cells : List Int} (hcl : cells.length ≤ 1000) {n0 l : Int} {t u : T}
    (hFr : ∀ (S' : Sig) (ρ : Str → Option D), (L, Cell.frame ρ) ∈ S' → FramesIn A S') (hlt : lawT t) (hts : t.size ≤ 24) (hlu : lawT u) (hus : u.size ≤ 4) (hn0 : 0 ≤ n0) (hn0' : n0 ≤ 1000) (hfr0 : ρ0 "fresh" = some (.lst (rowD u.row))) :
    Exs (model prog w) W A (envOfC qual (scopeS (topS 20)) L f (.ref c)) ((bodyS (topS 20)).drop 6) (lawSt prog w cells L P a ρ0 #[] n0 l t u none []) XF fun fl S' => fl = .ret (.bool true) ∧ ∃ ps, (P, Cell.obj (tabObj ps)) ∈ S' := by
  have hh : A.handled = none := ha.hh
  have hsz : (rowD t.row).length = t.size := by rw [rowD_len, row_len]
  have htd := t.depth_le_size
  refine Exs.cons (Ex.iff (Te.cmp ?_))
  refine Ev.callG F.gParts F.fParts ?_
  refine EvArgs.cons (Ev.nameC (c := L + 7) rfl (List.mem_of_getElem? (i := 9) rfl) ?_)
  refine EvArgs.nil ?_
  refine parts_ok F (n := 24) (ha.less (by lia)) (by lia) (by lia) ?_
  let Iv29 : List D → List D → Sig → Prop := fun rest acc S' => ∃ k m : Nat, rest = upN k m ∧ k + m = t.size ∧ acc = partsD (t.all.take k) ∧ S' = lawSt prog w cells L P a ρ0 #[] n0 l t u none []
  refine Ev.comp (cl := [("ways", L + 4), ("row", L + 2), ("ends", L + 3)]) (I := Iv29) ?_ ?_ ?_
  · refine Ev.callT (F.nB _ (by decide)) rfl ?_
    refine EvArgs.cons (Ev.callB (F.nB _ (by decide)) rfl ?_)
    refine EvArgs.cons (Ev.nameC (c := L + 2) rfl (List.mem_of_getElem? (i := 4) rfl) ?_)
    refine EvArgs.nil ?_
    refine Op.len_lst (by rw [hsz]; unfold sizeLine; lia) ?_
    refine EvArgs.nil ?_
    refine Op.range1 ?_
    refine ItW.up hh (by rw [hsz]; unfold sizeLine; lia) ?_
    exact ⟨by rw [upN_len, hsz]; unfold sizeLine; lia, 0, t.size, by rw [hsz], by lia, rfl, rfl⟩
  · refine hide7 fun Pg hPg => ?_
    intro C dd rest acc S' ρ' F₁ hIv
    obtain ⟨k, m, hr, hkm, rfl, rfl⟩ := hIv
    obtain ⟨m', rfl, rfl, rfl⟩ := upN_cons hr
    obtain ⟨p, v, hall, hway, hat, hp, hf⟩ := all_get (t := t) (j := k) (by lia)
    have hvs : k + v.size ≤ t.size := by have := hat.bound; rwa [T.pre_len] at this
    refine hPg _ _ _ _ _ _ _ ?_
    refine Sto.name (StoN.loc ?_)
    refine Tests.nil ?_
    refine iteT ?_
    refine Ev.tup ?_
    refine EvArgs.cons (Ev.sub ?_)
    refine Ev.nameC (c := L + 4) rfl (List.mem_of_getElem? (i := 7) rfl) ?_
    repeat frow_left
    refine Op2.item_lst (by lia) (by lia) (waysD_get hway) ?_
    refine EvArgs.cons (Ev.callG F.gTerm F.fTerm ?_)
    refine EvArgs.cons (Ev.slice ?_)
    refine Ev.nameC (c := L + 2) rfl (List.mem_of_getElem? (i := 5) rfl) ?_
    repeat frow_left
    refine ⟨_, rfl, ?_⟩
    refine EvO.some (Ev.sub ?_)
    refine Ev.nameC (c := L + 3) rfl (List.mem_of_getElem? (i := 6) rfl) ?_
    repeat frow_left
    refine Op2.item_lst (by lia) (by lia) (natsD_get hat.ends) ⟨_, rfl, ?_⟩
    refine OpS.lst (by rw [hsz]; unfold sizeLine; lia) ?_
    rw [seg_cut hat]
    refine EvArgs.nil ?_
    refine term_ok F (ha.less (by lia)) (by lia) ?_
    refine EvArgs.nil ⟨len2, ?_⟩
    refine ⟨_, lawSt prog w cells L P a ρ0 #[] n0 l t u none [], rfl, k + 1, m', rfl, by lia, ?_, rfl⟩
    rw [List.take_add_one, hall]
    unfold partsD
    rw [List.map_append]
    rfl
  refine hide2 fun Pg hPg => ?_
  intro acc S' hIv
  obtain ⟨k, m, hr, hkm, rfl, rfl⟩ := hIv
  have hm0 := upN_nil hr
  subst hm0
  refine hPg _ _ ?_
  rw [List.take_of_length_le (by rw [T.all_len]; lia)]
  refine Op2.neF (plain_parts hlt (by lia)) (by decide) ha.eqU ⟨_, rfl, ?_⟩
  refine iteF ?_
  refine Exs.nil ?_
  exact law_ats F bk G Z ha hcl hFr hlt hts hlu hus hn0 hn0' hfr0
end
section
section
variable {prog : Program} {w : World} {W : Gd} {A : Around} {X : Value → PH → Shared → Prop} {S : Sig} {Q : D → Sig → Prop} {env : Env}
theorem Ev.dic3 {K : Type} [DecidableEq K] (knd : KeyKind prog w K) {toD : K → D} (hk : ∀ k, IsK knd (toD k) k) {k1 v1 k2 v2 k3 v3 : Expr} {pos : Pos}
    (h : ∀ a, Prs (model prog w) W A [(eval k1 env, (do let x ← eval v1 env; standAt pos; pure x)), (eval k2 env, (do let x ← eval v2 env; standAt pos; pure x)), (eval k3 env, (do let x ← eval v3 env; standAt pos; pure x))] (ins1 (a, .any (DKV knd [])) S) X
      fun ds S₁ => ∃ i m, S₁[i]? = some (a, .any (DKV knd [])) ∧ ds = m.map (fun p => (toD p.1, p.2)) ∧ Q (.raw (.ref a)) (S₁.set i (a, .any (DKV knd (stoAll [] m))))) :
    Ev (model prog w) W A env (.Dict [some k1, some k2, some k3] [v1, v2, v3] pos) S X Q :=
  Ev.dicI knd hk (pairs := [(eval k1 env, (do let x ← eval v1 env; standAt pos; pure x)), (eval k2 env, (do let x ← eval v2 env; standAt pos; pure x)), (eval k3 env, (do let x ← eval v3 env; standAt pos; pure x))]) rfl (by simp) (by simp) h
end
set_option maxHeartbeats 4000000 in
theorem law_body {prog : Program} {w : World} {W : Gd} (F : Fx W) (bk : Bk W) (G : Exf prog w W) {c P : Addr} (Z : Lm W c P) {A0 : Around} (ha0 : Ar A0 101) (hf0 : A0.frames = some []) {qual : Str} {f L : Addr} {ns : List Int} (hn : ns.length ≤ 63) {ρ0 : Str → Option D} (hs : ρ0 "script" = some (.lst (intsD' ns))) :
    Exs (model prog w) W (A0.deeper (envOfC qual (scopeS (topS 20)) L f (.ref c))) (envOfC qual (scopeS (topS 20)) L f (.ref c)) (bodyS (topS 20))
      ((L, .frame ρ0) :: (P, .obj (tabObj #[])) :: (L + 1, .cell none) :: (L + 2, .cell none) :: (L + 3, .cell none) :: (L + 4, .cell none) :: (L + 5, .cell none) :: (L + 6, .cell none) :: (L + 7, .cell none) :: []) XF
      fun fl S' => fl = .ret (.bool true) ∧ ∃ ps, (P, Cell.obj (tabObj ps)) ∈ S' := by
  generalize hA : A0.deeper (envOfC qual (scopeS (topS 20)) L f (.ref c)) = A
  have ha : Ar A 100 := by rw [← hA]; exact ha0.deeper _
  have hh : A.handled = none := ha.hh
  have hFr : ∀ (S' : Sig) (ρ : Str → Option D), (L, Cell.frame ρ) ∈ S' → FramesIn A S' := fun S' ρ hm => by
    refine ⟨_, by rw [← hA]; exact Around.frames_deeper hf0, fun e he => ?_⟩
    rw [List.mem_singleton] at he
    subst he
    exact ⟨by show (scopeS (topS 20)).kind ≠ _; decide, L, ρ, rfl, hm⟩
  clear hA
  let cells : List Int := (ns.take 60).map fun n => n.fmod 5040
  let st (a : Addr) (ρ : Str → Option D) (ps : Array Value) (n l : Int) (rw en wy ot way wh : Option D) (E : Sig) : Sig :=
    (L, .frame ρ) :: (a, deckC prog w cells n l) :: (P, .obj (tabObj ps)) :: (L + 1, .cell (some (.raw (.ref a)))) :: (L + 2, .cell rw) :: (L + 3, .cell en) :: (L + 4, .cell wy) :: (L + 5, .cell ot) :: (L + 6, .cell way) :: (L + 7, .cell wh) :: E
  refine Exs.cons (Ex.assign ?_)
  refine Ev.dic3 (strKind prog w) (toD := .str) (fun k => isK_str k) fun a => ?_
  refine Prs.cons ?_
  repeat frow_left
  let S1 : Sig := (L, .frame ρ0) :: (a, .any (DKV (strKind prog w) [])) :: (P, .obj (tabObj #[])) :: (L + 1, .cell none) :: (L + 2, .cell none) :: (L + 3, .cell none) :: (L + 4, .cell none) :: (L + 5, .cell none) :: (L + 6, .cell none) :: (L + 7, .cell none) :: []
  let Iv25 : List D → List D → Sig → Prop := fun rest acc S' => ∃ dn us : List Int, ns.take 60 = dn ++ us ∧ rest = intsD' us ∧ acc = intsD' (dn.map fun n => n.fmod 5040) ∧ S' = S1
  refine Ev.comp (cl := []) (I := Iv25) ?_ ?_ ?_
  · repeat frow_left
    refine ⟨_, rfl, ?_⟩
    refine OpS.lst (by unfold intsD'; rw [List.length_map]; unfold sizeLine; lia) ?_
    refine ItW.lst hh ?_
    rw [show cutD (intsD' ns) none (some 60) = intsD' (ns.take 60) by rw [show (60 : Int) = ((60 : Nat) : Int) from rfl, cutD_upto]; unfold intsD'; rw [List.map_take]]
    exact ⟨by unfold intsD'; rw [List.length_map, List.length_take]; unfold sizeLine; lia, [], ns.take 60, rfl, rfl, rfl, rfl⟩
  · refine hide7 fun Pg hPg => ?_
    intro C dd rest acc S' ρ' F₁ hIv
    obtain ⟨dn, us, hsp, hr, rfl, rfl⟩ := hIv
    obtain ⟨k, us', rfl, rfl, rfl⟩ := intsD'_cons hr
    refine hPg _ _ _ _ _ _ _ ?_
    refine Sto.name (StoN.loc ?_)
    refine Tests.nil ?_
    refine iteT ?_
    repeat frow_left
    refine Op.int_int ?_
    repeat frow_left
    refine Op2.mod (by decide) ?_
    refine ⟨_, S1, rfl, dn ++ [k], us', by rw [hsp]; simp, rfl, ?_, rfl⟩
    unfold intsD'
    rw [List.map_append, List.map_append]
    rfl
  refine hide2 fun Pg hPg => ?_
  intro acc S' hIv
  obtain ⟨dn, us, hsp, hr, rfl, rfl⟩ := hIv
  have h0 := intsD'_nil hr
  subst h0
  rw [List.append_nil] at hsp
  subst hsp
  have hcl : cells.length ≤ 1000 := by show (List.map _ _).length ≤ _; rw [List.length_map, List.length_take]; lia
  refine hPg _ _ ?_
  refine Prs.cons ?_
  repeat frow_left
  refine Prs.cons ?_
  repeat frow_left
  refine Prs.nil ?_
  refine ⟨1, [("cells", .lst (cells.map .int)), ("at", .int 0), ("left", .int 14)], rfl, rfl, ?_⟩
  refine StoN.cell (i := 3) (c := L + 1) rfl rfl ?_
  show Exs _ _ _ _ _ (st a ρ0 #[] 0 14 none none none none none none []) _ _
  refine Exs.cons (Ex.assign (Ev.callG F.gRow F.fRow ?_))
  refine EvArgs.cons (Ev.nameC (c := L + 1) rfl (List.mem_of_getElem? (i := 3) rfl) ?_)
  repeat frow_left
  refine row_ok F hcl (f := 6) (ha.less (by lia)) (j := 1) rfl (by lia) (by lia) (by lia) (by lia) (by lia) fun t n1 htd hlt htb hn1 hn1' => ?_
  show StoN _ _ _ _ _ _ (st a ρ0 #[] n1 (14 - t.size) none none none none none none []) _ _
  refine StoN.cell (i := 4) (c := L + 2) rfl rfl ?_
  show Exs _ _ _ _ _ (st a ρ0 #[] n1 (14 - t.size) (some (.lst (rowD t.row))) none none none none none []) _ _
  have hts : t.size ≤ 24 := by lia
  refine Exs.cons (Ex.setitem ?_)
  repeat frow_left
  refine Ev.nameC (c := L + 1) rfl (List.mem_of_getElem? (i := 3) rfl) ?_
  repeat frow_left
  refine Op3.setitem_dic (j := 1) rfl (isK_str _) deckL_len ?_
  show Exs _ _ _ _ _ (st a ρ0 #[] n1 2 (some (.lst (rowD t.row))) none none none none none []) _ _
  refine Exs.cons (Ex.assign (Ev.callG F.gRow F.fRow ?_))
  refine EvArgs.cons (Ev.nameC (c := L + 1) rfl (List.mem_of_getElem? (i := 3) rfl) ?_)
  repeat frow_left
  refine row_ok F hcl (f := 2) (ha.less (by lia)) (j := 1) rfl (by lia) (by lia) (by lia) (by lia) (by lia) fun u n2 hud hlu hub hn2 hn2' => ?_
  have hus : u.size ≤ 4 := by lia
  show StoN _ _ _ _ _ _ (st a ρ0 #[] n2 (2 - u.size) (some (.lst (rowD t.row))) none none none none none []) _ _
  refine StoN.loc ?_
  generalize hρ1 : upd ρ0 "fresh" (.lst (rowD u.row)) = ρ1
  have h1f : ρ1 "fresh" = some (.lst (rowD u.row)) := by rw [← hρ1]; exact upd_same _ _ _
  clear hρ1
  show Exs _ _ _ _ _ (st a ρ1 #[] n2 (2 - u.size) (some (.lst (rowD t.row))) none none none none none []) _ _
  refine Exs.cons (Ex.assignT (Ev.tup ?_))
  refine EvArgs.cons (Ev.callG F.gEnds F.fEnds ?_)
  refine EvArgs.cons (Ev.nameC (c := L + 2) rfl (List.mem_of_getElem? (i := 4) rfl) ?_)
  refine EvArgs.nil ?_
  refine ends_ok F (ha.less (by lia)) (by lia) ?_
  refine EvArgs.cons (Ev.callG F.gTerm F.fTerm ?_)
  refine EvArgs.cons (Ev.nameC (c := L + 2) rfl (List.mem_of_getElem? (i := 4) rfl) ?_)
  refine EvArgs.nil ?_
  refine term_ok F (ha.less (by lia)) (by lia) ?_
  refine EvArgs.cons (Ev.callG F.gTerm F.fTerm ?_)
  refine EvArgs.cons (Ev.nameL h1f ?_)
  refine EvArgs.nil ?_
  refine term_ok F (ha.less (by lia)) (by lia) ?_
  refine EvArgs.nil ⟨by show 3 ≤ sizeLine; unfold sizeLine; lia, ?_⟩
  refine Sto.tup3 hh ?_
  refine Sto.name (StoN.cell (i := 5) (c := L + 3) rfl rfl ?_)
  refine Sto.name (StoN.cell (i := 9) (c := L + 7) rfl rfl ?_)
  refine Sto.name (StoN.cell (i := 7) (c := L + 5) rfl rfl ?_)
  show Exs _ _ _ _ _ (st a ρ1 #[] n2 (2 - u.size) (some (.lst (rowD t.row))) (some (.lst (natsD t.ends))) none (some u.term) none (some t.term) []) _ _
  refine Exs.cons (Ex.assign (Ev.callG F.gWays F.fWays ?_))
  refine EvArgs.cons (Ev.nameC (c := L + 2) rfl (List.mem_of_getElem? (i := 4) rfl) ?_)
  refine EvArgs.cons (Ev.nameC (c := L + 3) rfl (List.mem_of_getElem? (i := 5) rfl) ?_)
  refine EvArgs.nil ?_
  refine ways_ok F (ha.less (by lia)) (by lia) ?_
  refine StoN.cell (i := 6) (c := L + 4) rfl rfl ?_
  show Exs _ _ _ _ _ (lawSt prog w cells L P a ρ1 #[] n2 (2 - u.size) t u none []) _ _
  exact law_parts F bk G Z ha hcl hFr hlt hts hlu hus (by lia) (by lia) h1f
end
end
section
theorem ns_some_of {K : Frag} {h : Heap} {N : Addr} {mg : Str → Option Value} {n : Str} {v : Value} (X : K.In h) (G : h.Ns N mg) (e : nsIn K N n = some (some v)) : mg n = some v := by
  obtain ⟨o, es, ep, ho, hd, _, hf⟩ := G
  dsimp only [nsIn] at e
  generalize q : K.lookup N = r at e
  cases r with
  | none => cases e
  | some o' =>
    have := X _ _ q
    rw [ho] at this
    cases this
    obtain ⟨c, d, data, sl⟩ := o
    cases hd
    dsimp only at e
    generalize he : es.toList.find? _ = f at e
    cases f with
    | none => dsimp only at e; split at e <;> cases e
    | some en =>
      cases e
      rw [← hf]
      dsimp only [nsFind, findBy]
      rw [← Array.find?_toList, he]
      rfl
theorem rep_strB (B : PH) (x : Str) (t : Tok) : Rep B (.str x) (.str x t) := by dsimp only [Rep]; exact ⟨t, rfl⟩
theorem nsOk187 {P : Params} : nsOkIn (K0 P) 187 = true := by kernel_rfl
section
variable {W : Gd} {P : Params}
set_option maxHeartbeats 4000000
noncomputable def fx_of (X : (K0 P).In W.G) : Fx W where
  nB := by
    intro x hx
    simp only [List.mem_cons, List.not_mem_nil, or_false] at hx
    rcases hx with rfl | rfl | rfl | rfl | rfl | rfl | rfl | rfl | rfl <;> exact mg_none_of X W.hg rfl
  aOps := .ref 193
  gOps := mg_of X W.hg rfl
  rOps := by
    unfold lawOps
    dsimp only [Rep]
    exact ⟨193, _, _, rfl, X 193 _ rfl, RepL.cons (rep_strB _ _ _) (RepL.cons (rep_strB _ _ _) (RepL.cons (rep_strB _ _ _) (RepL.cons (rep_strB _ _ _) RepL.nil)))⟩
  aIsOp := 67
  gIsOp := mg_of X W.hg rfl
  fIsOp := ⟨_, _, _, _, _, _, _, _, _, _, X 67 _ rfl, 66, _, _, _, rfl, X 66 _ rfl, rfl, rfl⟩
  aParts := 72
  gParts := mg_of X W.hg rfl
  fParts := ⟨_, _, _, _, _, _, _, _, _, _, X 72 _ rfl, 71, _, _, _, rfl, X 71 _ rfl, rfl, rfl⟩
  aPartAt := 79
  gPartAt := mg_of X W.hg rfl
  fPartAt := ⟨_, _, _, _, _, _, _, _, _, _, X 79 _ rfl, 78, _, _, _, rfl, X 78 _ rfl, rfl, rfl⟩
  aRepl := 86
  gRepl := mg_of X W.hg rfl
  fRepl := ⟨_, _, _, _, _, _, _, _, _, _, X 86 _ rfl, 85, _, _, _, rfl, X 85 _ rfl, rfl, rfl⟩
  aNum := 200
  gNum := mg_of X W.hg rfl
  fNum := ⟨_, _, _, _, _, _, _, _, _, _, X 200 _ rfl, 199, _, _, _, rfl, X 199 _ rfl, rfl, rfl⟩
  aRow := 207
  gRow := mg_of X W.hg rfl
  fRow := ⟨_, _, _, _, _, _, _, _, _, _, X 207 _ rfl, 206, _, _, _, rfl, X 206 _ rfl, rfl, rfl⟩
  aEnds := 214
  gEnds := mg_of X W.hg rfl
  fEnds := ⟨_, _, _, _, _, _, _, _, _, _, X 214 _ rfl, 213, _, _, _, rfl, X 213 _ rfl, rfl, rfl⟩
  aWays := 221
  gWays := mg_of X W.hg rfl
  fWays := ⟨_, _, _, _, _, _, _, _, _, _, X 221 _ rfl, 220, _, _, _, rfl, X 220 _ rfl, rfl, rfl⟩
  aTerm := 228
  gTerm := mg_of X W.hg rfl
  fTerm := ⟨_, _, _, _, _, _, _, _, _, _, X 228 _ rfl, 227, _, _, _, rfl, X 227 _ rfl, rfl, rfl⟩
  aSpot := 235
  gSpot := mg_of X W.hg rfl
  fSpot := ⟨_, _, _, _, _, _, _, _, _, _, X 235 _ rfl, 234, _, _, _, rfl, X 234 _ rfl, rfl, rfl⟩
  aTold := 242
  gTold := mg_of X W.hg rfl
  fTold := ⟨_, _, _, _, _, _, _, _, _, _, X 242 _ rfl, 241, _, _, _, rfl, X 241 _ rfl, rfl, rfl⟩
  aBanked := 247
  gBanked := mg_of X W.hg rfl
  fBanked := ⟨_, _, _, _, _, _, _, _, _, _, X 247 _ rfl, 246, _, _, _, rfl, X 246 _ rfl, rfl, rfl⟩
noncomputable def own_of (X : (K0 P).In W.G) : Own W "Bank" where
  C := 188
  N := 187
  mN := W.G.nsMap 187
  cls := ⟨_, _, _, _, _, _, _, _, _, _, _, _, X 188 _ rfl⟩
  ns := .of_isNs (isNs_of_in X nsOk187)
  noGa := nsMap_none_of_in X nsOk187 rfl
  noG := nsMap_none_of_in X nsOk187 rfl
  noS := nsMap_none_of_in X nsOk187 rfl
  gC := mg_of X W.hg rfl
noncomputable def bk_of (X : (K0 P).In W.G) (sm : SMod W) : Bk W where
  K := own_of X
  sm := sm
  init := ⟨100, ns_some_of X (own_of X).ns rfl, ⟨_, _, _, _, _, _, _, _, _, _, X 100 _ rfl, 99, _, _, _, rfl, X 99 _ rfl, rfl, rfl⟩, _, X 100 _ rfl, rfl⟩
  size := ⟨107, ns_some_of X (own_of X).ns rfl, ⟨_, _, _, _, _, _, _, _, _, _, X 107 _ rfl, 106, _, _, _, rfl, X 106 _ rfl, rfl, rfl⟩, _, X 107 _ rfl, rfl⟩
  take := ⟨112, ns_some_of X (own_of X).ns rfl, ⟨_, _, _, _, _, _, _, _, _, _, X 112 _ rfl, 111, _, _, _, rfl, X 111 _ rfl, rfl, rfl⟩, _, X 112 _ rfl, rfl⟩
  req := ⟨119, ns_some_of X (own_of X).ns rfl, ⟨_, _, _, _, _, _, _, _, _, _, X 119 _ rfl, 118, _, _, _, rfl, X 118 _ rfl, rfl, rfl⟩, _, X 119 _ rfl, rfl⟩
  put := ⟨126, ns_some_of X (own_of X).ns rfl, ⟨_, _, _, _, _, _, _, _, _, _, X 126 _ rfl, 125, _, _, _, rfl, X 125 _ rfl, rfl, rfl⟩, _, X 126 _ rfl, rfl⟩
  all := ⟨131, ns_some_of X (own_of X).ns rfl, ⟨_, _, _, _, _, _, _, _, _, _, X 131 _ rfl, 130, _, _, _, rfl, X 130 _ rfl, rfl, rfl⟩, _, X 131 _ rfl, rfl⟩
  op := ⟨145, ns_some_of X (own_of X).ns rfl, ⟨_, _, _, _, _, _, _, _, _, _, X 145 _ rfl, 144, _, _, _, rfl, X 144 _ rfl, rfl, rfl⟩, _, X 145 _ rfl, rfl⟩
  kids := ⟨152, ns_some_of X (own_of X).ns rfl, ⟨_, _, _, _, _, _, _, _, _, _, X 152 _ rfl, 151, _, _, _, rfl, X 151 _ rfl, rfl, rfl⟩, _, X 152 _ rfl, rfl⟩
  term := ⟨164, ns_some_of X (own_of X).ns rfl, ⟨_, _, _, _, _, _, _, _, _, _, X 164 _ rfl, 163, _, _, _, rfl, X 163 _ rfl, rfl, rfl⟩, _, X 164 _ rfl, rfl⟩
  weight := ⟨171, ns_some_of X (own_of X).ns rfl, ⟨_, _, _, _, _, _, _, _, _, _, X 171 _ rfl, 170, _, _, _, rfl, X 170 _ rfl, rfl, rfl⟩, _, X 171 _ rfl, rfl⟩
  nNodes := nsMap_none_of_in (N := 187) X nsOk187 rfl
  nNumbers := nsMap_none_of_in (N := 187) X nsOk187 rfl
  nWeights := nsMap_none_of_in (N := 187) X nsOk187 rfl
  nDepths := nsMap_none_of_in (N := 187) X nsOk187 rfl
end
section
variable {W : Gd} {w : World}
set_option maxHeartbeats 4000000
noncomputable abbrev lawProg : Program := PySem.Challenge.rw_pq0113_01.row.prog
noncomputable def exf_of (X : (K0 w.params).In W.G) : Exf lawProg w W where
  C := 60
  D := 47
  fI := 37
  cda := 36
  cc := 25
  isC := ⟨_, _, _, _, _, _, _, _, _, _, _, _, _, _, X 60 _ rfl⟩
  lookInit := Looks.of_peek X rfl
  lookSet := Looks.of_peek X rfl
  lookWhat := Looks.of_peek X rfl
  opq := looks_opaque X rfl
  isD := ⟨_, _, X 47 _ rfl, rfl⟩
  fn := ⟨_, _, _, _, _, _, _, _, X 37 _ rfl, 36, _, _, _, rfl, X 36 _ rfl, rfl, rfl⟩
  code := ⟨_, _, _, _, X 36 _ rfl, rfl, rfl, rfl⟩
  cell := ⟨_, X 25 _ rfl, rfl⟩
  top := rfl
  gSuper := mg_none_of X W.hg rfl
  gC := mg_of X W.hg rfl
  neCD := by decide
theorem lm_of {p : Program} {loose : List Str} {mean : ExcName → Option Value} {mb : Str → Option Value} (X : (K0 w.params).In W.G) (T : Top p loose mean W.mg mb W.G) (hcd : CodeHd W.G 251 249) : Lm W 251 249 := by
  obtain ⟨bm, ob, h1, h2, h3, h4, h5, h6⟩ := T.bmain
  have e : W.mg "__builtins__" = some (.ref 4) := mg_of X W.hg rfl
  have e2 : bm = 4 := by rw [h1] at e; cases e; rfl
  subst e2
  exact ⟨hcd, ⟨4, ob, e, by decide, by decide, by decide, h3, h4, h5, h6⟩, by decide⟩
end
end
section
theorem callerAr : Ar callerA 101 := ⟨rfl, by decide +kernel, by decide +kernel⟩
theorem smod_ghost {h : Heap} {tabs : List (Addr × Addr)} (hT : TabsAt tabs h) {p : Program} {loose : List Str} {mean : ExcName → Option Value} {mg mb : Str → Option Value} (T : Top p loose mean mg mb h) (hp : importsNone p = true) : ∃ o, (ghostOf h tabs).get? sysModules = some o := by
  obtain ⟨mm, ⟨o, es, ep, ho, hd, _⟩, _⟩ := (T.seer hp).mods
  exact ⟨o, ghost_get hT ho (by rintro rfl; cases hd)⟩
theorem script_ghost {h : Heap} {tabs : List (Addr × Addr)} {a : Addr} {vs : List Value} {P : Params} {ds : List WData} {ns : List Int} (hl : (ghostOf h tabs).IsList a vs.toArray) (hw : Well P h (.ref a) (.list ds)) (hI : IntsAre vs ns) :
    ∃ vs : List Value, (ghostOf h tabs).get? a = some { cls := .type "list", data := .seq vs.toArray } ∧ IntsAre vs ns := by
  obtain ⟨o, ho, hc, n, hd⟩ := hl
  have ho2 := of_hideAll _ ho
  cases hw with
  | list h1 _ =>
    rw [ho2] at h1
    cases h1
    injection hd with e1 e2
    rw [e1] at ho
    exact ⟨vs, ho, hI⟩
theorem cells_nodup (L : Nat) (h : 249 < L) : ([L, 249, L + 1, L + 2, L + 3, L + 4, L + 5, L + 6, L + 7] : List Nat).Nodup := by
  have k : ([0, 1, 2, 3, 4, 5, 6, 7].map (L + ·)).Nodup := List.nodup_iff_pairwise_ne.mpr (List.pairwise_map.mpr ((show List.Pairwise (· ≠ ·) [0, 1, 2, 3, 4, 5, 6, 7] by decide).imp fun h e => h (Nat.add_left_cancel e)))
  exact (List.Perm.swap L 249 _).nodup_iff.mp (List.nodup_cons.mpr ⟨fun hm => by
    obtain ⟨k, _, e⟩ := List.mem_map.mp (show 249 ∈ [0, 1, 2, 3, 4, 5, 6, 7].map (L + ·) from hm)
    exact absurd e (Nat.ne_of_gt (Nat.lt_of_lt_of_le h (Nat.le_add_right L k))), k⟩)
set_option maxHeartbeats 4000000 in
theorem finish {w : World} {g h₁ : Heap} {gens : Array GenState} {drawn : Drawn} {os : OsState} {tk : Nat} {L fa sc : Addr} {qual : Str} {p : Program} {loose : List Str} {mean : ExcName → Option Value} {mg mb : Str → Option Value} {m : Str → Option Value}
    {o1 o2 o3 o4 o5 o6 o7 : Obj} {ns : List Int}
    (X : (K0 w.params).In g) (T : Top p loose mean mg mb g) (hsm : ∃ o, g.get? sysModules = some o) (F : Fr g L h₁ m)
    (N : News g L h₁ [(L + 1 + 1 + 1 + 1 + 1 + 1 + 1, o7), (L + 1 + 1 + 1 + 1 + 1 + 1, o6), (L + 1 + 1 + 1 + 1 + 1, o5), (L + 1 + 1 + 1 + 1, o4), (L + 1 + 1 + 1, o3), (L + 1 + 1, o2), (L + 1, o1), (249, tabObj #[])])
    (d1 : o1.data = .cell none) (d2 : o2.data = .cell none) (d3 : o3.data = .cell none) (d4 : o4.data = .cell none) (d5 : o5.data = .cell none) (d6 : o6.data = .cell none) (d7 : o7.data = .cell none)
    (hcd : CodeHd g 251 249) (hsc : ∃ vs : List Value, g.get? sc = some { cls := .type "list", data := .seq vs.toArray } ∧ IntsAre vs ns) (hn : ns.length ≤ 63) (hm : m "script" = some (.ref sc)) (hg : gens = #[]) (hL : 249 < L) {E : Value → Shared → Prop} :
    wpAny (model lawProg w) (callerA.deeper (envOfC qual (scopeS (topS 20)) L fa (.ref 251))) (execs (bodyS (topS 20)) (envOfC qual (scopeS (topS 20)) L fa (.ref 251)))
      (fun f s' => f = .ret (.bool true) ∧ (∀ b o, g.get? b = some o → s'.heap.get? b = some o) ∧ s'.os = os ∧ s'.gens = #[] ∧ GrownAt 249 s'.heap) E ⟨h₁, gens, drawn, tk, os⟩ := by
  let W : Gd := { G := g, gens := gens, drawn := drawn, os := os, mg := mg, mb := mb, hg := T.g, hb := T.b, hlim := T.nolimit, boot := T.builtins }
  obtain ⟨vs, hvs, hI⟩ := hsc
  let ρ0 : Str → Option D := fun x => if x = "script" then some (.lst (intsD' ns)) else none
  have y : St W ⟨h₁, gens, drawn, tk, os⟩ g.get? ((L, .frame ρ0) :: (249, .obj (tabObj #[])) :: (L + 1, .cell none) :: (L + 2, .cell none) :: (L + 3, .cell none) :: (L + 4, .cell none) :: (L + 5, .cell none) :: (L + 6, .cell none) :: (L + 7, .cell none) :: []) := by
    have hnL : g.get? L = none := by
      cases q : g.get? L with
      | none => rfl
      | some o => exact absurd (Nat.lt_of_lt_of_le (Heap.lt_size q) F.above) (Nat.lt_irrefl _)
    have hc : ∀ a o, (a, o) ∈ [(L + 1 + 1 + 1 + 1 + 1 + 1 + 1, o7), (L + 1 + 1 + 1 + 1 + 1 + 1, o6), (L + 1 + 1 + 1 + 1 + 1, o5), (L + 1 + 1 + 1 + 1, o4), (L + 1 + 1 + 1, o3), (L + 1 + 1, o2), (L + 1, o1), (249, tabObj #[])] → o.data = .cell none → CellAt g.get? h₁ a (.cell none) := fun a o hm hd =>
      ⟨none, ⟨o, (N _ hm).1, hd⟩, fun e he => by cases he⟩
    refine ⟨rfl, rfl, rfl, fun _ _ e => e, F.keep, fun p hp => ?_, fun p hp => ?_, ?_⟩
    · simp only [List.mem_cons, List.not_mem_nil, or_false] at hp
      rcases hp with rfl | rfl | rfl | rfl | rfl | rfl | rfl | rfl | rfl
      · refine ⟨m, F.ns, fun x d hd => ?_⟩
        by_cases q : x = "script"
        · subst q
          have hd : some (D.lst (intsD' ns)) = some d := hd
          cases hd
          refine ⟨_, hm, ?_⟩
          dsimp only [Rep]
          exact ⟨sc, vs.toArray, 0, rfl, hvs, ints_rep hI⟩
        · have hd : (if x = ("script" : Str) then some (D.lst (intsD' ns)) else none) = some d := hd
          rw [if_neg q] at hd
          cases hd
      · exact (N (249, tabObj #[]) (by simp)).1
      · exact hc _ _ (by simp) d1
      · exact hc _ _ (by simp) d2
      · exact hc _ _ (by simp) d3
      · exact hc _ _ (by simp) d4
      · exact hc _ _ (by simp) d5
      · exact hc _ _ (by simp) d6
      · exact hc _ _ (by simp) d7
    · simp only [List.mem_cons, List.not_mem_nil, or_false] at hp
      rcases hp with rfl | rfl | rfl | rfl | rfl | rfl | rfl | rfl | rfl
      · exact hnL
      · exact (N (249, tabObj #[]) (by simp)).2.2
      · exact (N (L + 1, o1) (by simp)).2.2
      · exact (N (L + 1 + 1, o2) (by simp)).2.2
      · exact (N (L + 1 + 1 + 1, o3) (by simp)).2.2
      · exact (N (L + 1 + 1 + 1 + 1, o4) (by simp)).2.2
      · exact (N (L + 1 + 1 + 1 + 1 + 1, o5) (by simp)).2.2
      · exact (N (L + 1 + 1 + 1 + 1 + 1 + 1, o6) (by simp)).2.2
      · exact (N (L + 1 + 1 + 1 + 1 + 1 + 1 + 1, o7) (by simp)).2.2
    · exact cells_nodup L hL
  refine (law_body (F := fx_of (W := W) X) (bk_of (W := W) X hsm) (exf_of (W := W) X) (lm_of (W := W) X T hcd) callerAr rfl hn (ρ0 := ρ0) rfl).use y (fun f s' B' fl S' l' y' r' hh1 => ?_) fun _ _ x => x.false.elim
  obtain ⟨hf, ps, hps⟩ := hh1
  subst hf
  refine ⟨?_, fun b o e => y'.ground b o e, y'.os, y'.gens.trans hg, ps, y'.cells _ hps⟩
  cases f <;> dsimp only [RepF, Rep] at r' <;> first | exact r'.elim | (rw [r'])
end
section
/- names taken beforehand: the kit's head makes no twins of its constants, and the file stays small -/
theorem join.tw7896837427191650641 : True := trivial
theorem join.tw13572185129597041319 : True := trivial
theorem join.tw10014472240897396331 : True := trivial
theorem join.tw10017488945329214245 : True := trivial
theorem join.tw10023631847447043525 : True := trivial
theorem join.tw10036196949738688916 : True := trivial
theorem join.tw10066410056253286290 : True := trivial
theorem join.tw10101307428346949230 : True := trivial
theorem join.tw1010502625962068545 : True := trivial
theorem join.tw10152090311471551361 : True := trivial
theorem join.tw10348240789604130746 : True := trivial
theorem join.tw10396561052663945635 : True := trivial
theorem join.tw10455638511590653578 : True := trivial
theorem join.tw10590297945840034873 : True := trivial
theorem join.tw10606933894177740153 : True := trivial
theorem join.tw106140525096902522 : True := trivial
theorem join.tw1063360698247690993 : True := trivial
theorem join.tw10706801465750385816 : True := trivial
theorem join.tw10893555697356608395 : True := trivial
theorem join.tw10967239105436885389 : True := trivial
theorem join.tw1103758689825130720 : True := trivial
theorem join.tw11041681858263360147 : True := trivial
theorem join.tw11085197982100480555 : True := trivial
theorem join.tw11107530208482004785 : True := trivial
theorem join.tw11138334648174871076 : True := trivial
theorem join.tw11204236044231569629 : True := trivial
theorem join.tw11307577766164445665 : True := trivial
theorem join.tw1139419339831917600 : True := trivial
theorem join.tw11468115754409056388 : True := trivial
theorem join.tw11606979646340347894 : True := trivial
theorem join.tw11661840800613641974 : True := trivial
theorem join.tw11716398186505694025 : True := trivial
theorem join.tw11736827245824400071 : True := trivial
theorem join.tw12024185535706618682 : True := trivial
theorem join.tw12094616767598252943 : True := trivial
theorem join.tw12170791016757892773 : True := trivial
theorem join.tw12240180948583770206 : True := trivial
theorem join.tw12249569909398604134 : True := trivial
theorem join.tw12306343821931890326 : True := trivial
theorem join.tw12348766345799349087 : True := trivial
theorem join.tw12481261945612049800 : True := trivial
theorem join.tw1257240180310787955 : True := trivial
theorem join.tw12627978894229780020 : True := trivial
theorem join.tw12671579871367293774 : True := trivial
theorem join.tw12703574378445090675 : True := trivial
theorem join.tw12717767053747136337 : True := trivial
theorem join.tw12725438675345279411 : True := trivial
theorem join.tw12730667267193191839 : True := trivial
theorem join.tw12737548931052205657 : True := trivial
theorem join.tw12834849759659862108 : True := trivial
theorem join.tw12866183689347836658 : True := trivial
theorem join.tw1294403982521565269 : True := trivial
theorem join.tw13022060739522916471 : True := trivial
theorem join.tw1314246007334756057 : True := trivial
theorem join.tw13231940885931812122 : True := trivial
theorem join.tw13263983958142893396 : True := trivial
theorem join.tw13269119853148210446 : True := trivial
theorem join.tw133888651976870624 : True := trivial
theorem join.tw13419800235013345924 : True := trivial
theorem join.tw1349071455664337491 : True := trivial
theorem join.tw13511400158372499049 : True := trivial
theorem join.tw13569987181351559035 : True := trivial
theorem join.tw13707607503180276446 : True := trivial
theorem join.tw13773240987362408188 : True := trivial
theorem join.tw13823536829064206608 : True := trivial
theorem join.tw13835100590598615749 : True := trivial
theorem join.tw13962050736858621367 : True := trivial
theorem join.tw14084131714465947907 : True := trivial
theorem join.tw14107027584424609009 : True := trivial
theorem join.tw14116114657947796288 : True := trivial
theorem join.tw14125547368032423211 : True := trivial
theorem join.tw14180161481711528889 : True := trivial
theorem join.tw14253979441981446640 : True := trivial
theorem join.tw14296341462748760198 : True := trivial
theorem join.tw14300410679447824543 : True := trivial
theorem join.tw14333320697935336681 : True := trivial
theorem join.tw14429350470619189094 : True := trivial
theorem join.tw14444154482025168237 : True := trivial
theorem join.tw14449327906718990364 : True := trivial
theorem join.tw14489585491630325518 : True := trivial
theorem join.tw14516851905498486189 : True := trivial
theorem join.tw14619930399662151147 : True := trivial
theorem join.tw14665405421344615101 : True := trivial
theorem join.tw14670177416978255367 : True := trivial
theorem join.tw14687742768722739062 : True := trivial
theorem join.tw1470275064382195851 : True := trivial
theorem join.tw14720856625302500400 : True := trivial
theorem join.tw14748675107699241636 : True := trivial
theorem join.tw1475187641707157109 : True := trivial
theorem join.tw14757760203911067289 : True := trivial
theorem join.tw14841312439728133001 : True := trivial
theorem join.tw14873632339197115461 : True := trivial
theorem join.tw14884887590536816502 : True := trivial
theorem join.tw14909901944156190492 : True := trivial
theorem join.tw14975402573914092914 : True := trivial
theorem join.tw15009039364756241751 : True := trivial
theorem join.tw15067363956388142594 : True := trivial
theorem join.tw15085179706313545764 : True := trivial
theorem join.tw15180232188269878804 : True := trivial
theorem join.tw15224104009324622964 : True := trivial
theorem join.tw15248902178002595993 : True := trivial
theorem join.tw15357773796942128211 : True := trivial
theorem join.tw15403532821836225272 : True := trivial
theorem join.tw15470621071791819239 : True := trivial
theorem join.tw1553327210441238490 : True := trivial
theorem join.tw15571810535492234196 : True := trivial
theorem join.tw1559393201632486608 : True := trivial
theorem join.tw15671997164001383530 : True := trivial
theorem join.tw1573498029739441167 : True := trivial
theorem join.tw157571600630795276 : True := trivial
theorem join.tw15761695566690941067 : True := trivial
theorem join.tw15879662888265052246 : True := trivial
theorem join.tw15899948545207011398 : True := trivial
theorem join.tw15995132910982786055 : True := trivial
theorem join.tw16284621670489218211 : True := trivial
theorem join.tw16350388440009875264 : True := trivial
theorem join.tw16366269931171605958 : True := trivial
theorem join.tw16479010243287824503 : True := trivial
theorem join.tw16488376359722252138 : True := trivial
theorem join.tw16583274593635492228 : True := trivial
theorem join.tw16584960288806053193 : True := trivial
theorem join.tw16604164598275139864 : True := trivial
theorem join.tw16605006664129709198 : True := trivial
theorem join.tw16698589629495451301 : True := trivial
theorem join.tw16813046347849372176 : True := trivial
theorem join.tw16980858092569424537 : True := trivial
theorem join.tw17063806110247920743 : True := trivial
theorem join.tw17092630495013726166 : True := trivial
theorem join.tw1714881851503029858 : True := trivial
theorem join.tw17159459372472601737 : True := trivial
theorem join.tw17227633708917594078 : True := trivial
theorem join.tw17236306790698802538 : True := trivial
theorem join.tw17437913269746210848 : True := trivial
theorem join.tw17467706101145263934 : True := trivial
theorem join.tw17475384831338702183 : True := trivial
theorem join.tw17542253383967495336 : True := trivial
theorem join.tw17593627818249369393 : True := trivial
theorem join.tw17597064905117563328 : True := trivial
theorem join.tw17646804564420525170 : True := trivial
theorem join.tw1767450069564129567 : True := trivial
theorem join.tw1769122431647514386 : True := trivial
theorem join.tw17739201816203537253 : True := trivial
theorem join.tw17784269750780119953 : True := trivial
theorem join.tw17797775035385864092 : True := trivial
theorem join.tw17820652403112808717 : True := trivial
theorem join.tw17887160456061481736 : True := trivial
theorem join.tw17974051294451066710 : True := trivial
theorem join.tw17980221358662423987 : True := trivial
theorem join.tw18028455044990217609 : True := trivial
theorem join.tw18112540663457112561 : True := trivial
theorem join.tw18200831744729323784 : True := trivial
theorem join.tw18252934156561244888 : True := trivial
theorem join.tw18264526311411118758 : True := trivial
theorem join.tw1863526586219421333 : True := trivial
theorem join.tw1914302662543441650 : True := trivial
theorem join.tw1928524412739594285 : True := trivial
theorem join.tw1943644141542763257 : True := trivial
theorem join.tw2032147384033387343 : True := trivial
theorem join.tw20566380831891698 : True := trivial
theorem join.tw2135717513858368262 : True := trivial
theorem join.tw2152255341838403945 : True := trivial
theorem join.tw220749294850718544 : True := trivial
theorem join.tw2270797137687313499 : True := trivial
theorem join.tw2306226924085938166 : True := trivial
theorem join.tw234091337680038576 : True := trivial
theorem join.tw2388279493337898377 : True := trivial
theorem join.tw2393118595658937980 : True := trivial
theorem join.tw2410329850011532424 : True := trivial
theorem join.tw2443569053685718433 : True := trivial
theorem join.tw2460202536451974754 : True := trivial
theorem join.tw2483747011335694349 : True := trivial
theorem join.tw2508043741768011336 : True := trivial
theorem join.tw2536604740239698738 : True := trivial
theorem join.tw2610230024041743187 : True := trivial
theorem join.tw2694699548358004586 : True := trivial
theorem join.tw2699633981762276899 : True := trivial
theorem join.tw2706426087816027979 : True := trivial
theorem join.tw276657470820756824 : True := trivial
theorem join.tw2834034174724894437 : True := trivial
theorem join.tw2885638100630797130 : True := trivial
theorem join.tw2895982851239309169 : True := trivial
theorem join.tw2952490011477407070 : True := trivial
theorem join.tw3044903103917562701 : True := trivial
theorem join.tw3053631539952778616 : True := trivial
theorem join.tw3070061308742399470 : True := trivial
theorem join.tw3182936775495355554 : True := trivial
theorem join.tw318868988146145880 : True := trivial
theorem join.tw3223392952354797468 : True := trivial
theorem join.tw3385258111722157494 : True := trivial
theorem join.tw3386604667998728468 : True := trivial
theorem join.tw3417155067830973711 : True := trivial
theorem join.tw3496247646730235636 : True := trivial
theorem join.tw3597493125831151574 : True := trivial
theorem join.tw3628308743900921454 : True := trivial
theorem join.tw3785094553811988585 : True := trivial
theorem join.tw3803484919336903281 : True := trivial
theorem join.tw3817411442647657003 : True := trivial
theorem join.tw3817842538675260629 : True := trivial
theorem join.tw3881168989965033529 : True := trivial
theorem join.tw3937747243234397185 : True := trivial
theorem join.tw394764666111921130 : True := trivial
theorem join.tw3987108926681808008 : True := trivial
theorem join.tw4034684004298516507 : True := trivial
theorem join.tw4139757446128544474 : True := trivial
theorem join.tw4159118893365183508 : True := trivial
theorem join.tw4172206849289644419 : True := trivial
theorem join.tw4174557277215477382 : True := trivial
theorem join.tw4269917272932497695 : True := trivial
theorem join.tw4326621309663618388 : True := trivial
theorem join.tw4562592246569782667 : True := trivial
theorem join.tw4605143522902598307 : True := trivial
theorem join.tw4621399210607039228 : True := trivial
theorem join.tw4646240253860067578 : True := trivial
theorem join.tw4670110068727901824 : True := trivial
theorem join.tw4836231808053000623 : True := trivial
theorem join.tw4899416782610394089 : True := trivial
theorem join.tw4959340377878108262 : True := trivial
theorem join.tw5020938862241250976 : True := trivial
theorem join.tw5052668614177126150 : True := trivial
theorem join.tw5068343851095668213 : True := trivial
theorem join.tw5113012476071744640 : True := trivial
theorem join.tw5166751559895649433 : True := trivial
theorem join.tw5210443878051736597 : True := trivial
theorem join.tw5228087516609014483 : True := trivial
theorem join.tw5235751720269628667 : True := trivial
theorem join.tw531065913112972031 : True := trivial
theorem join.tw5321995342478592743 : True := trivial
theorem join.tw5326823075303614441 : True := trivial
theorem join.tw5364219710551248880 : True := trivial
theorem join.tw5422759897690130152 : True := trivial
theorem join.tw549542202572329746 : True := trivial
theorem join.tw556144633759348855 : True := trivial
theorem join.tw5595409443878939636 : True := trivial
theorem join.tw5681172894118657211 : True := trivial
theorem join.tw5770383861426048782 : True := trivial
theorem join.tw5843445996031400533 : True := trivial
theorem join.tw5884568783101618675 : True := trivial
theorem join.tw5912289709166128904 : True := trivial
theorem join.tw5917413964258374601 : True := trivial
theorem join.tw6022119141347437138 : True := trivial
theorem join.tw6207418412920734517 : True := trivial
theorem join.tw6268817891423643928 : True := trivial
theorem join.tw6269799506164940896 : True := trivial
theorem join.tw633160152877374725 : True := trivial
theorem join.tw6358201121655692404 : True := trivial
theorem join.tw6455284290135504353 : True := trivial
theorem join.tw6605048718843466668 : True := trivial
theorem join.tw661170096312241130 : True := trivial
theorem join.tw6660896459025715289 : True := trivial
theorem join.tw6701593983222080478 : True := trivial
theorem join.tw6784625146971750017 : True := trivial
theorem join.tw6922359213761263123 : True := trivial
theorem join.tw6953798572678308014 : True := trivial
theorem join.tw7020918694788141869 : True := trivial
theorem join.tw7035802759857368158 : True := trivial
theorem join.tw7100677515131962235 : True := trivial
theorem join.tw7128140934823717621 : True := trivial
theorem join.tw7233608073426188903 : True := trivial
theorem join.tw7246556469797741375 : True := trivial
theorem join.tw7263578986071471659 : True := trivial
theorem join.tw7295668901155431596 : True := trivial
theorem join.tw7448289837631454399 : True := trivial
theorem join.tw7554309597270763579 : True := trivial
theorem join.tw7554846547360677901 : True := trivial
theorem join.tw7571143706492248878 : True := trivial
theorem join.tw7588135474499070727 : True := trivial
theorem join.tw7616980886078306443 : True := trivial
theorem join.tw7622529235394251349 : True := trivial
theorem join.tw7773712894074825697 : True := trivial
theorem join.tw7791140901811790429 : True := trivial
theorem join.tw7817617956830922612 : True := trivial
theorem join.tw7885774204065548784 : True := trivial
theorem join.tw7899585207655019294 : True := trivial
theorem join.tw8124251865771630238 : True := trivial
theorem join.tw8215418388332654827 : True := trivial
theorem join.tw8253128653917640288 : True := trivial
theorem join.tw8253826962826347690 : True := trivial
theorem join.tw8254705946459123929 : True := trivial
theorem join.tw8455849234058241449 : True := trivial
theorem join.tw8476984592993276817 : True := trivial
theorem join.tw8555148747701618776 : True := trivial
theorem join.tw8562547465365566401 : True := trivial
theorem join.tw8785895990288482273 : True := trivial
theorem join.tw8823160397772866108 : True := trivial
theorem join.tw8844435183283998376 : True := trivial
theorem join.tw8875771307224289868 : True := trivial
theorem join.tw8981729530663847103 : True := trivial
theorem join.tw9075500857516821286 : True := trivial
theorem join.tw9126342574672560686 : True := trivial
theorem join.tw9143531822536755225 : True := trivial
theorem join.tw9164207739406572403 : True := trivial
theorem join.tw9184948681134019474 : True := trivial
theorem join.tw9432985340660512629 : True := trivial
theorem join.tw9679223053384159091 : True := trivial
theorem join.tw9716976907518162333 : True := trivial
theorem join.tw9718411711476706393 : True := trivial
theorem join.tw9876577048663374551 : True := trivial
theorem join.tw98781524735740699 : True := trivial
theorem join.tw9893715395059474335 : True := trivial
theorem join.tw9924806666491750322 : True := trivial
theorem join.tw9992998261754202949 : True := trivial
set_option maxHeartbeats 8000000
set_option Elab.async true in
theorem join : PySem.Challenge.rw_pq0113_01.Holds := by
  w_on; o_law; o_head (kmHook K0 asL as_ok [249]); (case hw => w_witness2)
  k_go0
  all_goals try k_fold
  refine wpAny_mono (finish (by assumption) (by assumption) (smod_ghost (by assumption) (T := by assumption) (p := _) (by decide +kernel)) (by assumption) (by assumption) (by first | assumption | (refine Eq.trans (by assumption) ?_; rfl)) (by first | assumption | (refine Eq.trans (by assumption) ?_; rfl)) (by first | assumption | (refine Eq.trans (by assumption) ?_; rfl)) (by first | assumption | (refine Eq.trans (by assumption) ?_; rfl)) (by first | assumption | (refine Eq.trans (by assumption) ?_; rfl)) (by first | assumption | (refine Eq.trans (by assumption) ?_; rfl)) (by first | assumption | (refine Eq.trans (by assumption) ?_; rfl)) (by assumption) (script_ghost (by assumption) (by assumption) (by assumption)) (by omega) (by rfl) (by assumption) (by assumption)) ?post fun _ _ h => h
  case post =>
    rintro f s' ⟨rfl, hk, hos, hgn, hgr⟩
    refine ⟨⟨.inl ⟨_, .bool true, [], rfl, raisesW_false ?zn, .bool true, ?zp, ?zu⟩, hk, hos, hgn⟩, hgr, trivial⟩
    case zn => wrow_none_raised
    case zu => exact unshared_nil
    case zp =>
      refine' postW_of ?zs ?zv ?ze
      case zs => o_shape
      case zv => wtm_val
      case ze => w_fin
end
end Mine
set_option maxRecDepth 100000 in
set_option maxHeartbeats 8000000 in
theorem PySem.Challenge.cw_pq0113_01_holds : PySem.Challenge.rw_pq0113_01.Holds := by
  exact Mine.join
